import PyProof.Rows.All
import OpenK.KApp
import KE.KDictOf
import KE.KSorted
import KE.KItem
import KE.RegLcTurns
import KE.KCat
import KE.KTup
import KE.KxMul
import KE.KSliceW
import KE.KxDecode
import KE.KLam
import KE.KNestM
import KE.KEqDict
import KE.KDisp
import KE.KDictAnyGet
import KE.KAnyBase
import KE.KDictIter
import KE.KItemAt
import KE.KDictSum
import KE.KTurnsAny
import KE.KxWritten
import KE.KTryDeepN
import KE.RegKDeep
import KE.KBytesCut
import KE.KCellOne
import KE.BitLaws
import KE.KTextTable
import KE.KBytesUnr
import Lean
import PySem.Challenge.RW_pc0377_01
open PySem PySem.W PySem.Calls PyProof.Rows
set_option Elab.async false
namespace Mine
def one : PySem.Str := PySem.Str.ofString "a"
theorem one_eq : one = one := rfl
end Mine
name_quick tw2711585505577850959 for Mine.one by Mine.one_eq
name_quick tw7232422423428716515 for Mine.one by Mine.one_eq
name_quick tw12835720964997663042 for Mine.one by Mine.one_eq
name_quick tw6004533443673955352 for Mine.one by Mine.one_eq
name_quick tw17517737089405305841 for Mine.one by Mine.one_eq
name_quick tw7009043117176579089 for Mine.one by Mine.one_eq
name_quick tw219737044198020058 for Mine.one by Mine.one_eq
name_quick tw9011979029575296479 for Mine.one by Mine.one_eq
name_quick tw7250012664060256230 for Mine.one by Mine.one_eq
name_quick tw43969757491396457 for Mine.one by Mine.one_eq
name_quick tw1291980286583624508 for Mine.one by Mine.one_eq
name_quick tw1258717718454355964 for Mine.one by Mine.one_eq
name_quick tw2169543709445408213 for Mine.one by Mine.one_eq
name_quick tw15560500314895047343 for Mine.one by Mine.one_eq
name_quick tw4636218855388986860 for Mine.one by Mine.one_eq
name_quick tw282004115355043989 for Mine.one by Mine.one_eq
name_quick tw13640514254501968386 for Mine.one by Mine.one_eq
name_quick tw3856783459128436802 for Mine.one by Mine.one_eq
name_quick tw17804436615005485693 for Mine.one by Mine.one_eq
name_quick tw15079194523842364033 for Mine.one by Mine.one_eq
name_quick tw3093977132361051618 for Mine.one by Mine.one_eq
name_quick tw7275051467321613617 for Mine.one by Mine.one_eq
name_quick tw17846936440860909165 for Mine.one by Mine.one_eq
name_quick tw12233582284571471492 for Mine.one by Mine.one_eq
name_quick tw14440140849115353679 for Mine.one by Mine.one_eq
name_quick tw17730448691065144110 for Mine.one by Mine.one_eq
name_quick tw3619232141914619222 for Mine.one by Mine.one_eq
name_quick tw1829445100760108279 for Mine.one by Mine.one_eq
name_quick tw1184552218554016812 for Mine.one by Mine.one_eq
name_quick tw9376109419431680627 for Mine.one by Mine.one_eq
name_quick tw3766158894648301139 for Mine.one by Mine.one_eq
name_quick tw1355338860687761863 for Mine.one by Mine.one_eq
name_quick tw682011567655089306 for Mine.one by Mine.one_eq
name_quick tw11306939235166856333 for Mine.one by Mine.one_eq
name_quick tw4011157648589011858 for Mine.one by Mine.one_eq
name_quick tw13180171748994924942 for Mine.one by Mine.one_eq
name_quick tw12268644228514654432 for Mine.one by Mine.one_eq
name_quick tw460243522976405022 for Mine.one by Mine.one_eq
name_quick tw4407734736301137906 for Mine.one by Mine.one_eq
name_quick tw704327219915372674 for Mine.one by Mine.one_eq
name_quick tw9787463984185863102 for Mine.one by Mine.one_eq
name_quick tw18350330562280901221 for Mine.one by Mine.one_eq
name_quick tw10010936943081839664 for Mine.one by Mine.one_eq
name_quick tw14896874001708588922 for Mine.one by Mine.one_eq
name_quick tw151948405760981731 for Mine.one by Mine.one_eq
name_quick tw9759809726879904816 for Mine.one by Mine.one_eq
name_quick tw5732905514179830355 for Mine.one by Mine.one_eq
name_quick tw14311459727803291754 for Mine.one by Mine.one_eq
name_quick tw13607416678640721797 for Mine.one by Mine.one_eq
name_quick tw11277716924127702174 for Mine.one by Mine.one_eq
name_quick tw13215998728584607739 for Mine.one by Mine.one_eq
name_quick tw16741492637210864865 for Mine.one by Mine.one_eq
name_quick tw9285146279643344392 for Mine.one by Mine.one_eq
name_quick tw11130039905162102590 for Mine.one by Mine.one_eq
name_quick tw18101931140130867144 for Mine.one by Mine.one_eq
name_quick tw10073347824450446311 for Mine.one by Mine.one_eq
name_quick tw15007238320947547705 for Mine.one by Mine.one_eq
name_quick tw15168306246750427876 for Mine.one by Mine.one_eq
name_quick tw1617757218408452269 for Mine.one by Mine.one_eq
name_quick tw951843321253372498 for Mine.one by Mine.one_eq
name_quick tw14386061602966655976 for Mine.one by Mine.one_eq
name_quick tw3891137856419664920 for Mine.one by Mine.one_eq
name_quick tw13789449189825218787 for Mine.one by Mine.one_eq
name_quick tw16643379632663270332 for Mine.one by Mine.one_eq
name_quick tw16966814322356759819 for Mine.one by Mine.one_eq
name_quick tw17964007177503468958 for Mine.one by Mine.one_eq
name_quick tw7299951869573292228 for Mine.one by Mine.one_eq
name_quick tw17888162413812561239 for Mine.one by Mine.one_eq
name_quick tw14108194823987119177 for Mine.one by Mine.one_eq
name_quick tw3577408171920636059 for Mine.one by Mine.one_eq
name_quick tw17164873540382356111 for Mine.one by Mine.one_eq
name_quick tw18260038339965228139 for Mine.one by Mine.one_eq
name_quick tw14126943448341045398 for Mine.one by Mine.one_eq
name_quick tw6589095468515690095 for Mine.one by Mine.one_eq
name_quick tw11270796479367742343 for Mine.one by Mine.one_eq
name_quick tw3820604794100220378 for Mine.one by Mine.one_eq
name_quick tw10948738476641704880 for Mine.one by Mine.one_eq
name_quick tw17975652961387846372 for Mine.one by Mine.one_eq
name_quick tw8032284361305108907 for Mine.one by Mine.one_eq
name_quick tw15278061642289888581 for Mine.one by Mine.one_eq
name_quick tw3698559305507148144 for Mine.one by Mine.one_eq
name_quick tw9051711117073984157 for Mine.one by Mine.one_eq
name_quick tw5357591511691535388 for Mine.one by Mine.one_eq
name_quick tw17274371674624000324 for Mine.one by Mine.one_eq
name_quick tw8224813933742928703 for Mine.one by Mine.one_eq
name_quick tw14333388528381170442 for Mine.one by Mine.one_eq
name_quick tw11853533878840232495 for Mine.one by Mine.one_eq
name_quick tw12825359941727978080 for Mine.one by Mine.one_eq
name_quick tw3362959441861295915 for Mine.one by Mine.one_eq
name_quick tw8579058602437062094 for Mine.one by Mine.one_eq
name_quick tw17111948838632640456 for Mine.one by Mine.one_eq
name_quick tw4319705520415482375 for Mine.one by Mine.one_eq
name_quick tw16817318245366136608 for Mine.one by Mine.one_eq
name_quick tw16548257151911338427 for Mine.one by Mine.one_eq
name_quick tw17552769576498331613 for Mine.one by Mine.one_eq
name_quick tw13480552361792772618 for Mine.one by Mine.one_eq
name_quick tw1735497430108182060 for Mine.one by Mine.one_eq
name_quick tw16947794391021106201 for Mine.one by Mine.one_eq
name_quick tw6711915476519705758 for Mine.one by Mine.one_eq
name_quick tw4978915544186085027 for Mine.one by Mine.one_eq
name_quick tw15900120412870309639 for Mine.one by Mine.one_eq
name_quick tw10007627690174824804 for Mine.one by Mine.one_eq
name_quick tw4292500188555128830 for Mine.one by Mine.one_eq
name_quick tw1749818173716722547 for Mine.one by Mine.one_eq
name_quick tw5823794197072137003 for Mine.one by Mine.one_eq
name_quick tw2315820567201803617 for Mine.one by Mine.one_eq
name_quick tw16531745337717519161 for Mine.one by Mine.one_eq
name_quick tw14884601019740666482 for Mine.one by Mine.one_eq
name_quick tw17069979004554194336 for Mine.one by Mine.one_eq
name_quick tw13912434898499826684 for Mine.one by Mine.one_eq
name_quick tw9849938961292279599 for Mine.one by Mine.one_eq
name_quick tw14834023430324568649 for Mine.one by Mine.one_eq
name_quick tw13016732220969518872 for Mine.one by Mine.one_eq
name_quick tw1503297043503765363 for Mine.one by Mine.one_eq
name_quick tw5076957145309523181 for Mine.one by Mine.one_eq
name_quick tw15263041282635125899 for Mine.one by Mine.one_eq
name_quick tw12659028871203227004 for Mine.one by Mine.one_eq
name_quick tw9931943479562821362 for Mine.one by Mine.one_eq
name_quick tw136631920214876835 for Mine.one by Mine.one_eq
name_quick tw5721027456603625697 for Mine.one by Mine.one_eq
name_quick tw13317431791736044220 for Mine.one by Mine.one_eq
name_quick tw1537898542681612871 for Mine.one by Mine.one_eq
name_quick tw14714103240675001986 for Mine.one by Mine.one_eq
name_quick tw2422670821966735624 for Mine.one by Mine.one_eq
name_quick tw8860024209350480642 for Mine.one by Mine.one_eq
name_quick tw8719427161674164953 for Mine.one by Mine.one_eq
name_quick tw7581816359482902497 for Mine.one by Mine.one_eq
name_quick tw9594665118957945026 for Mine.one by Mine.one_eq
name_quick tw7397068168572129948 for Mine.one by Mine.one_eq
name_quick tw17476080006546285661 for Mine.one by Mine.one_eq
name_quick tw11333186260410459676 for Mine.one by Mine.one_eq
name_quick tw3282434896037501709 for Mine.one by Mine.one_eq
name_quick tw16752143609539240740 for Mine.one by Mine.one_eq
name_quick tw183835017167291270 for Mine.one by Mine.one_eq
name_quick tw7198390536060210744 for Mine.one by Mine.one_eq
name_quick tw4075660801711882420 for Mine.one by Mine.one_eq
name_quick tw15823609455315575823 for Mine.one by Mine.one_eq
name_quick tw2460228577881660442 for Mine.one by Mine.one_eq
name_quick tw5189142188285759775 for Mine.one by Mine.one_eq
name_quick tw16350708796919097252 for Mine.one by Mine.one_eq
name_quick tw724751600484774222 for Mine.one by Mine.one_eq
name_quick tw2283851925072248500 for Mine.one by Mine.one_eq
name_quick tw17954471519018878134 for Mine.one by Mine.one_eq
name_quick tw4302124980754421698 for Mine.one by Mine.one_eq
name_quick tw11588390666370768167 for Mine.one by Mine.one_eq
name_quick tw17104762638478270653 for Mine.one by Mine.one_eq
name_quick tw9458956999447867950 for Mine.one by Mine.one_eq
name_quick tw5529568453561195837 for Mine.one by Mine.one_eq
name_quick tw667198328695590252 for Mine.one by Mine.one_eq
name_quick tw7094674258960923220 for Mine.one by Mine.one_eq
name_quick tw3916196269025109296 for Mine.one by Mine.one_eq
name_quick tw8796240567053077481 for Mine.one by Mine.one_eq
name_quick tw1574873078441994576 for Mine.one by Mine.one_eq
name_quick tw17000155066101142889 for Mine.one by Mine.one_eq
name_quick tw2354101950205528012 for Mine.one by Mine.one_eq
name_quick tw2334299552400917057 for Mine.one by Mine.one_eq
name_quick tw16439824349840649037 for Mine.one by Mine.one_eq
name_quick tw9518460778924858168 for Mine.one by Mine.one_eq
name_quick tw16593013826814733010 for Mine.one by Mine.one_eq
name_quick tw16643706677886111943 for Mine.one by Mine.one_eq
name_quick tw16374537267813192141 for Mine.one by Mine.one_eq
name_quick tw10323183001455561277 for Mine.one by Mine.one_eq
name_quick tw3424931102881643321 for Mine.one by Mine.one_eq
name_quick tw10346894026039390216 for Mine.one by Mine.one_eq
name_quick tw5349121933718820234 for Mine.one by Mine.one_eq
name_quick tw9136488742655976645 for Mine.one by Mine.one_eq
name_quick tw15919542637913265678 for Mine.one by Mine.one_eq
name_quick tw15980859228951719591 for Mine.one by Mine.one_eq
name_quick tw17532440430192770315 for Mine.one by Mine.one_eq
name_quick tw2670528217467546775 for Mine.one by Mine.one_eq
name_quick tw2611137233208623240 for Mine.one by Mine.one_eq
name_quick tw8206430501311747189 for Mine.one by Mine.one_eq
name_quick tw17366093769539213078 for Mine.one by Mine.one_eq
name_quick tw3105397867545767578 for Mine.one by Mine.one_eq
name_quick tw1402947280878808549 for Mine.one by Mine.one_eq
name_quick tw16296994325663420285 for Mine.one by Mine.one_eq
name_quick tw3976722010076183465 for Mine.one by Mine.one_eq
name_quick tw1258299570235058372 for Mine.one by Mine.one_eq
name_quick tw17612500589515189474 for Mine.one by Mine.one_eq
name_quick tw17988542015724977305 for Mine.one by Mine.one_eq
name_quick tw16846860572762119324 for Mine.one by Mine.one_eq
name_quick tw5396446701170858492 for Mine.one by Mine.one_eq
name_quick tw3972328310683599613 for Mine.one by Mine.one_eq
name_quick tw6679490504615227074 for Mine.one by Mine.one_eq
name_quick tw9763268239775435451 for Mine.one by Mine.one_eq
name_quick tw4388067698380316889 for Mine.one by Mine.one_eq
name_quick tw8693227569615203950 for Mine.one by Mine.one_eq
name_quick tw3442601649717412197 for Mine.one by Mine.one_eq
name_quick tw14821650378409806113 for Mine.one by Mine.one_eq
name_quick tw8753696776887207221 for Mine.one by Mine.one_eq
name_quick tw932993149863042379 for Mine.one by Mine.one_eq
name_quick tw3264259588550801142 for Mine.one by Mine.one_eq
name_quick tw11462045893675790159 for Mine.one by Mine.one_eq
name_quick tw6380047634161181297 for Mine.one by Mine.one_eq
name_quick tw14073706353221006472 for Mine.one by Mine.one_eq
name_quick tw13678640442995254988 for Mine.one by Mine.one_eq
name_quick tw11543547407058413889 for Mine.one by Mine.one_eq
name_quick tw12228404201894958878 for Mine.one by Mine.one_eq
name_quick tw1886563365779066154 for Mine.one by Mine.one_eq
name_quick tw11161088081135249708 for Mine.one by Mine.one_eq
name_quick tw1702518465993881591 for Mine.one by Mine.one_eq
name_quick tw4549333791460862111 for Mine.one by Mine.one_eq
name_quick tw6019396324639902685 for Mine.one by Mine.one_eq
name_quick tw8253183596043897158 for Mine.one by Mine.one_eq
name_quick tw6363645014702824404 for Mine.one by Mine.one_eq
name_quick tw8075568018651887793 for Mine.one by Mine.one_eq
name_quick tw17001327861769816259 for Mine.one by Mine.one_eq
name_quick tw14433975572909055671 for Mine.one by Mine.one_eq
name_quick tw5268983451555188008 for Mine.one by Mine.one_eq
name_quick tw3094477031063562474 for Mine.one by Mine.one_eq
name_quick tw17100903815162463580 for Mine.one by Mine.one_eq
name_quick tw4090926877573551719 for Mine.one by Mine.one_eq
name_quick tw13335737130258781183 for Mine.one by Mine.one_eq
name_quick tw1156252341971683116 for Mine.one by Mine.one_eq
name_quick tw9151444980202551346 for Mine.one by Mine.one_eq
name_quick tw16018607276475445134 for Mine.one by Mine.one_eq
name_quick tw3152983702415266003 for Mine.one by Mine.one_eq
name_quick tw10942035263794033107 for Mine.one by Mine.one_eq
name_quick tw1706496860858754268 for Mine.one by Mine.one_eq
name_quick tw11108263761283441063 for Mine.one by Mine.one_eq
name_quick tw13254397897704925713 for Mine.one by Mine.one_eq
name_quick tw7269565832213808900 for Mine.one by Mine.one_eq
name_quick tw13776390136698705113 for Mine.one by Mine.one_eq
name_quick tw11625766737575182897 for Mine.one by Mine.one_eq
name_quick tw6550987210724342151 for Mine.one by Mine.one_eq
name_quick tw6434265647005701932 for Mine.one by Mine.one_eq
name_quick tw11788150170368784547 for Mine.one by Mine.one_eq
name_quick tw11445135464325071761 for Mine.one by Mine.one_eq
name_quick tw17016373728026468306 for Mine.one by Mine.one_eq
name_quick tw12945451867199242903 for Mine.one by Mine.one_eq
name_quick tw8098380416015320538 for Mine.one by Mine.one_eq
name_quick tw11310463157757771331 for Mine.one by Mine.one_eq
name_quick tw10146832411891806045 for Mine.one by Mine.one_eq
name_quick tw16697116713213952808 for Mine.one by Mine.one_eq
name_quick tw5345256250457102556 for Mine.one by Mine.one_eq
name_quick tw878741703135273975 for Mine.one by Mine.one_eq
name_quick tw5770868932273138760 for Mine.one by Mine.one_eq
name_quick tw1962928258387122110 for Mine.one by Mine.one_eq
name_quick tw16241802466949684156 for Mine.one by Mine.one_eq
name_quick tw9315938663221665524 for Mine.one by Mine.one_eq
name_quick tw10996506086634736982 for Mine.one by Mine.one_eq
name_quick tw6059929106960060952 for Mine.one by Mine.one_eq
name_quick tw6662432510661729299 for Mine.one by Mine.one_eq
name_quick tw12237943961548833269 for Mine.one by Mine.one_eq
name_quick tw13642483538084851733 for Mine.one by Mine.one_eq
name_quick tw15663404670287596823 for Mine.one by Mine.one_eq
name_quick tw8603108125212654177 for Mine.one by Mine.one_eq
name_quick tw11994158751524154303 for Mine.one by Mine.one_eq
name_quick tw17300597898927385350 for Mine.one by Mine.one_eq
name_quick tw13615603153576403970 for Mine.one by Mine.one_eq
name_quick tw4039474712603431140 for Mine.one by Mine.one_eq
name_quick tw11863081143760314161 for Mine.one by Mine.one_eq
name_quick tw10205541121877940668 for Mine.one by Mine.one_eq
name_quick tw7299303143086499733 for Mine.one by Mine.one_eq
name_quick tw7365555872484859036 for Mine.one by Mine.one_eq
name_quick tw16916688483869632129 for Mine.one by Mine.one_eq
name_quick tw17828083071136270317 for Mine.one by Mine.one_eq
name_quick tw8703263022893421829 for Mine.one by Mine.one_eq
name_quick tw8017206721242287953 for Mine.one by Mine.one_eq
name_quick tw1523951592034530338 for Mine.one by Mine.one_eq
name_quick tw6434138532213402376 for Mine.one by Mine.one_eq
name_quick tw1620339239838986703 for Mine.one by Mine.one_eq
name_quick tw14553827428707814869 for Mine.one by Mine.one_eq
name_quick tw3039592710220408265 for Mine.one by Mine.one_eq
name_quick tw2532725972614424836 for Mine.one by Mine.one_eq
name_quick tw7581352650102555174 for Mine.one by Mine.one_eq
name_quick tw17532718790514356516 for Mine.one by Mine.one_eq
name_quick tw10833955939284561965 for Mine.one by Mine.one_eq
name_quick tw15323854079317868165 for Mine.one by Mine.one_eq
name_quick tw13141144453892091621 for Mine.one by Mine.one_eq
name_quick tw9948023125614773506 for Mine.one by Mine.one_eq
name_quick tw4933834842325187142 for Mine.one by Mine.one_eq
name_quick tw10938465397075749097 for Mine.one by Mine.one_eq
name_quick tw721709456127091705 for Mine.one by Mine.one_eq
name_quick tw11682084944484805031 for Mine.one by Mine.one_eq
name_quick tw17730428716208468724 for Mine.one by Mine.one_eq
name_quick tw1414301608579184545 for Mine.one by Mine.one_eq
name_quick tw14223099787259518943 for Mine.one by Mine.one_eq
name_quick tw17018628822417861297 for Mine.one by Mine.one_eq
name_quick tw15475462885187679331 for Mine.one by Mine.one_eq
name_quick tw3636048126100218174 for Mine.one by Mine.one_eq
name_quick tw5706481520468235054 for Mine.one by Mine.one_eq
name_quick tw8595292554425487202 for Mine.one by Mine.one_eq
name_quick tw11985326045990495214 for Mine.one by Mine.one_eq
name_quick tw12177639751122801600 for Mine.one by Mine.one_eq
name_quick tw13236226663087606529 for Mine.one by Mine.one_eq
name_quick tw11384798719751882707 for Mine.one by Mine.one_eq
name_quick tw17057272898397164401 for Mine.one by Mine.one_eq
name_quick tw7783732958741208154 for Mine.one by Mine.one_eq
name_quick tw12392613427281201732 for Mine.one by Mine.one_eq
name_quick tw392140993173905013 for Mine.one by Mine.one_eq
name_quick tw18056578402003937789 for Mine.one by Mine.one_eq
name_quick tw5986070226099191233 for Mine.one by Mine.one_eq
name_quick tw10029231156530900338 for Mine.one by Mine.one_eq
name_quick tw8119918657739134586 for Mine.one by Mine.one_eq
name_quick tw18416463498863911781 for Mine.one by Mine.one_eq
name_quick tw11636919720809706868 for Mine.one by Mine.one_eq
name_quick tw12371321757623732685 for Mine.one by Mine.one_eq
name_quick tw8537084889766193716 for Mine.one by Mine.one_eq
name_quick tw17497748084772794779 for Mine.one by Mine.one_eq
name_quick tw4071324889030633612 for Mine.one by Mine.one_eq
name_quick tw3131671291697673992 for Mine.one by Mine.one_eq
name_quick tw662354867322794072 for Mine.one by Mine.one_eq
name_quick tw15112985482279097393 for Mine.one by Mine.one_eq
name_quick tw12635297910168745909 for Mine.one by Mine.one_eq
name_quick tw13002492023102617099 for Mine.one by Mine.one_eq
name_quick tw13559156169165276386 for Mine.one by Mine.one_eq
name_quick tw12850107946570832962 for Mine.one by Mine.one_eq
name_quick tw4558998842232669794 for Mine.one by Mine.one_eq
name_quick tw2664551874359636763 for Mine.one by Mine.one_eq
name_quick tw347637069881736656 for Mine.one by Mine.one_eq
name_quick tw15480702959602328682 for Mine.one by Mine.one_eq
name_quick tw8400853705098224536 for Mine.one by Mine.one_eq
name_quick tw18220123701641295943 for Mine.one by Mine.one_eq
name_quick tw9951705424602377420 for Mine.one by Mine.one_eq
name_quick tw4552823106982906706 for Mine.one by Mine.one_eq
name_quick tw13759679279233594173 for Mine.one by Mine.one_eq
name_quick tw10706342367453228570 for Mine.one by Mine.one_eq
name_quick tw6448080314894763839 for Mine.one by Mine.one_eq
name_quick tw15542503528162795033 for Mine.one by Mine.one_eq
name_quick tw4679858250743294509 for Mine.one by Mine.one_eq
name_quick tw12329403913580668285 for Mine.one by Mine.one_eq
name_quick tw13145125596335152023 for Mine.one by Mine.one_eq
name_quick tw9908251947323293946 for Mine.one by Mine.one_eq
name_quick tw5032809538720368765 for Mine.one by Mine.one_eq
name_quick tw18345786424863182364 for Mine.one by Mine.one_eq
name_quick tw505943868828395459 for Mine.one by Mine.one_eq
name_quick tw9407582987413476825 for Mine.one by Mine.one_eq
name_quick tw7276740287692124622 for Mine.one by Mine.one_eq
name_quick tw10314498396905981064 for Mine.one by Mine.one_eq
name_quick tw9626621113073979434 for Mine.one by Mine.one_eq
name_quick tw1092655722715705105 for Mine.one by Mine.one_eq
name_quick tw15766043655864335149 for Mine.one by Mine.one_eq
name_quick tw14224011070414065920 for Mine.one by Mine.one_eq
name_quick tw14210447440969649564 for Mine.one by Mine.one_eq
name_quick tw5701610774189311196 for Mine.one by Mine.one_eq
name_quick tw11317593695737139937 for Mine.one by Mine.one_eq
name_quick tw6817277305950994716 for Mine.one by Mine.one_eq
name_quick tw16349216596472256690 for Mine.one by Mine.one_eq
name_quick tw11420187438672877268 for Mine.one by Mine.one_eq
name_quick tw5111356299099525756 for Mine.one by Mine.one_eq
name_quick tw14112274594779413971 for Mine.one by Mine.one_eq
name_quick tw11939915149646268982 for Mine.one by Mine.one_eq
name_quick tw8642067239939848140 for Mine.one by Mine.one_eq
name_quick tw5518745428033880147 for Mine.one by Mine.one_eq
name_quick tw4748654258956052638 for Mine.one by Mine.one_eq
name_quick tw6683783046931543321 for Mine.one by Mine.one_eq
name_quick tw8727135674562949291 for Mine.one by Mine.one_eq
name_quick tw4797165386629745026 for Mine.one by Mine.one_eq
name_quick tw12022618010286034681 for Mine.one by Mine.one_eq
name_quick tw17434858337260393937 for Mine.one by Mine.one_eq
name_quick tw14979626087600564940 for Mine.one by Mine.one_eq
name_quick tw11452132507678324671 for Mine.one by Mine.one_eq
name_quick tw8424611434330503625 for Mine.one by Mine.one_eq
name_quick tw13900631225919944168 for Mine.one by Mine.one_eq
name_quick tw11081865753601315856 for Mine.one by Mine.one_eq
name_quick tw14023627001141898710 for Mine.one by Mine.one_eq
name_quick tw9862997608875712007 for Mine.one by Mine.one_eq
name_quick tw8376441433122354887 for Mine.one by Mine.one_eq
name_quick tw4980102563643897964 for Mine.one by Mine.one_eq
name_quick tw15894407043143930727 for Mine.one by Mine.one_eq
name_quick tw12635813782599140982 for Mine.one by Mine.one_eq
name_quick tw4224760802259116069 for Mine.one by Mine.one_eq
name_quick tw11729385059970357855 for Mine.one by Mine.one_eq
name_quick tw13036272033356848781 for Mine.one by Mine.one_eq
name_quick tw10227693086864044499 for Mine.one by Mine.one_eq
name_quick tw14326252917377295143 for Mine.one by Mine.one_eq
name_quick tw6654550962395885724 for Mine.one by Mine.one_eq
name_quick tw10804646723710106361 for Mine.one by Mine.one_eq
name_quick tw12758646416354461303 for Mine.one by Mine.one_eq
name_quick tw16897511302373329960 for Mine.one by Mine.one_eq
name_quick tw16414604833108395602 for Mine.one by Mine.one_eq
name_quick tw16349804527192203551 for Mine.one by Mine.one_eq
name_quick tw15450981722951097364 for Mine.one by Mine.one_eq
name_quick tw7788680626742099145 for Mine.one by Mine.one_eq
name_quick tw5200128776193632040 for Mine.one by Mine.one_eq
name_quick tw1377046205977697930 for Mine.one by Mine.one_eq
name_quick tw9564595351457756722 for Mine.one by Mine.one_eq
name_quick tw387338674003428930 for Mine.one by Mine.one_eq
name_quick tw7323676302269181137 for Mine.one by Mine.one_eq
name_quick tw5135500740108067664 for Mine.one by Mine.one_eq
name_quick tw2719445374943340272 for Mine.one by Mine.one_eq
name_quick tw3880421473898291048 for Mine.one by Mine.one_eq
name_quick tw15480198773659482676 for Mine.one by Mine.one_eq
name_quick tw1772237422875290029 for Mine.one by Mine.one_eq
name_quick tw7650934615059315214 for Mine.one by Mine.one_eq
name_quick tw16049961110935095269 for Mine.one by Mine.one_eq
name_quick tw18211773271919218964 for Mine.one by Mine.one_eq
name_quick tw9467589175468403638 for Mine.one by Mine.one_eq
name_quick tw10470071008263537045 for Mine.one by Mine.one_eq
name_quick tw117213463901210413 for Mine.one by Mine.one_eq
name_quick tw17863021456227041891 for Mine.one by Mine.one_eq
name_quick tw4775785305629353868 for Mine.one by Mine.one_eq
name_quick tw14530364306720264245 for Mine.one by Mine.one_eq
name_quick tw8989982439271903415 for Mine.one by Mine.one_eq
name_quick tw3764465048917985505 for Mine.one by Mine.one_eq
name_quick tw9800571698397750058 for Mine.one by Mine.one_eq
name_quick tw11566699232636054958 for Mine.one by Mine.one_eq
name_quick tw10424941004445345732 for Mine.one by Mine.one_eq
name_quick tw16176465441171805009 for Mine.one by Mine.one_eq
name_quick tw13512673800721320934 for Mine.one by Mine.one_eq
set_option maxRecDepth 100000 in
set_option maxHeartbeats 8000000 in
open_top Mine.hd for PySem.Challenge.rw_pc0377_01
namespace Mine
theorem mapc {α β : Type} (f : α → β) (a : α) (l : List α) : List.map f (a :: l) = f a :: List.map f l := rfl
theorem mapn {α β : Type} (f : α → β) : List.map f [] = [] := rfl
theorem revd {α : Type} (l : List α) : l.reverse = l.reverseAux [] := rfl
theorem revc {α : Type} (a : α) (l r : List α) : (a :: l).reverseAux r = l.reverseAux (a :: r) := rfl
theorem revn {α : Type} (r : List α) : [].reverseAux r = r := rfl
section
variable {α : Type} {x a b c d e f g h i j k : α} {l : List α}
theorem mm0 : x ∈ x :: l := .head _
theorem mm1 : x ∈ a :: x :: l := .tail _ (.head _)
theorem mm2 : x ∈ a :: b :: x :: l := .tail _ mm1
theorem mm3 : x ∈ a :: b :: c :: x :: l := .tail _ mm2
theorem mm4 : x ∈ a :: b :: c :: d :: x :: l := .tail _ mm3
theorem mm5 : x ∈ a :: b :: c :: d :: e :: x :: l := .tail _ mm4
theorem mm6 : x ∈ a :: b :: c :: d :: e :: f :: x :: l := .tail _ mm5
theorem mm7 : x ∈ a :: b :: c :: d :: e :: f :: g :: x :: l := .tail _ mm6
theorem mm8 : x ∈ a :: b :: c :: d :: e :: f :: g :: h :: x :: l := .tail _ mm7
theorem mm9 : x ∈ a :: b :: c :: d :: e :: f :: g :: h :: i :: x :: l := .tail _ mm8
theorem mm10 : x ∈ a :: b :: c :: d :: e :: f :: g :: h :: i :: j :: x :: l := .tail _ mm9
theorem mm11 : x ∈ a :: b :: c :: d :: e :: f :: g :: h :: i :: j :: k :: x :: l := .tail _ mm10
end
noncomputable abbrev loose0 : List Str := looseW Mine.hd.view_39 [Str.ofString "SettingError", Str.ofString "REGION_KEY", Str.ofString "HEAD_SIZE"]
/- the names of which the ghosted heap says nothing -/
noncomputable def loose : List Str := loose0 ++ List.map (fun x => x.name) (recsOf Mine.hd.view_39) ++ List.map (fun x => x.1) (litsOf Mine.hd.view_39) ++ List.map (fun x => x.name) (clssOf Mine.hd.view_39 loose0)
structure Dbg (P : Prop) : Prop where
  out : P
/- all but the ledger's objects stand -/
noncomputable def Hid (h : Heap) (news : List (Addr × Obj)) (g : Heap) : Prop := ∀ b o, h.get? b = some o → b ∉ news.map (·.1) → g.get? b = some o
noncomputable def Tell (w : World) (f : Addr) (vs : List Value) (d u : Nat) (news : List (Addr × Obj)) (Ret : Value → List (Addr × Obj) → Prop) : Prop :=
  ∀ (mean : ExcName → Option Value) (mg mb : Str → Option Value) (dp un : Nat) (gd : Option (List Code)) (cn : Str) (cs : Scope) (a : Addr) (ccd : Value) (cl : List (Str × Addr)) (outer : List Env) (A₀ : Around) (base h₀ : Heap) (L : Addr) (m : Str → Option Value) (s : Shared) (Q E : Value → Shared → Prop),
    Below A₀ base outer h₀ → Fr h₀ L s.heap m → (Mine.hd.heap_39 w.params).In h₀ → News h₀ L s.heap news → Top topProg loose mean mg mb h₀ → cs.kind = .function → dp + d < recursionLimit → un + u < cLine →
    (∀ (v : Value) (h' : Heap) (tk' : Nat) (news' : List (Addr × Obj)), Ret v news' → Hid s.heap news h' → Fr h₀ L h' m → News h₀ L h' news' → Q v { s with heap := h', toks := tk' }) →
    wpAny (model PySem.Challenge.pw_pc0377_01 w) (ktrTop dp un gd cn cs L a ccd cl outer) (call (.ref f) vs) Q E s

theorem Tell.use {w : World} {f : Addr} {vs : List Value} {d u : Nat} {news : List (Addr × Obj)} {Ret : Value → List (Addr × Obj) → Prop} (C : Tell w f vs d u news Ret)
    {mean : ExcName → Option Value} {mg mb : Str → Option Value} {dp un : Nat} {gd : Option (List Code)} {cn : Str} {cs : Scope} {a : Addr} {ccd : Value} {cl : List (Str × Addr)} {outer : List Env} {A₀ : Around} {base h₀ : Heap} {L : Addr} {m : Str → Option Value} {s : Shared} {Q E : Value → Shared → Prop}
    (B : Below A₀ base outer h₀) (F : Fr h₀ L s.heap m) (X : (Mine.hd.heap_39 w.params).In h₀) (N : News h₀ L s.heap news) (T : Top topProg loose mean mg mb h₀) (hk : cs.kind = .function) (hd : dp + d < recursionLimit) (hu : un + u < cLine)
    (h : ∀ (v : Value) (h' : Heap) (tk' : Nat) (news' : List (Addr × Obj)), Ret v news' → Hid s.heap news h' → Fr h₀ L h' m → News h₀ L h' news' → Q v { s with heap := h', toks := tk' }) :
    wpAny (model PySem.Challenge.pw_pc0377_01 w) (ktrTop dp un gd cn cs L a ccd cl outer) (call (.ref f) vs) Q E s := C _ _ _ _ _ _ _ _ _ _ _ _ _ _ _ _ _ _ _ _ B F X N T hk hd hu h

section
variable {prog : Program} {w : World} {A A₀ : Around} {s : Shared} {K : Frag} {L : Addr} {h₀ base : Heap} {m mg mb : Str → Option Value} {news : List (Addr × Obj)} {p : Program} {loose : List Str} {mean : ExcName → Option Value}
  {env : Env} {outer : List Env} {R : Result → Shared → Prop} {name qual : Str} {params : Arguments} {body : List Stmt} {scope : Scope} {dV kV doc pm cdv ct oc : Value} {an od : Option Addr} {osl : Array (Option Value)} {f : Addr} {args : Args} {binds : List (Str × Value)}
/- a def without cells is entered; what stands outside the ledger is said to stay -/
theorem enterP (B : Below A₀ base outer h₀) (F : Fr h₀ L s.heap m) (X₀ : K.In h₀) (N : News h₀ L s.heap news) (T : Top p loose mean mg mb h₀) (hA : A.frames = some (env :: outer)) (hf : env.frame = some L) (hke : env.scope.kind = .function)
    (ho : K.lookup f = some ⟨oc, od, .func (fnOf name qual params body scope dV kV doc pm an cdv ct), osl⟩) (hcd : codeIn K cdv qual = true) (hroom : A.depth < recursionLimit)
    (hbind : BindsTo s (fnOf name qual params body scope dV kV doc pm an cdv ct) args binds) (hloc : ∀ y ∈ binds, scope.names.lookup y.1 = some .local)
    (h : ∀ g L' h₁, Hid s.heap news g → Fr h₀ L g m → Fr g L' h₁ (fun y => binds.reverse.lookup y) → News g L' h₁ news → Below A base (env :: outer) g → K.In g → Top p loose mean mg mb g → (∀ p ∈ news, p.1 < L') →
      wpAny (model prog w) (A.deeper (envOf qual scope L' f cdv)) (execs body (envOf qual scope L' f cdv))
        (fun fl s' => LeaveK h₀ L m g R (match fl with | .ret v => v | _ => .none) s')
        (fun e s' => wpAny (model prog w) (A.deeper (envOf qual scope L' f cdv)) (leaving (envOf qual scope L' f cdv) e) (fun _ s'' => R (.error e) s'') (fun e' s'' => R (.error e') s'') s')
        { s with heap := h₁, toks := s.toks + binds.length })
    (hco : scope.isCoroutine = false) (hgen : scope.isGenerator = false) (hk : scope.kind = .function) (hcell : ∀ x ∈ scope.names, x.2 ≠ .cell) : codeAny (model prog w) A (.call (.ref f) args) R s := by
  obtain ⟨G, BG, st, back⟩ := groundX (R := R) B F N hA hf hke
  have X := X₀.keeps F.keep
  refine codeAny_call_def (fd := fnOf name qual params body scope dV kV doc pm an cdv ct) (body := body) (binds := binds) hroom (X _ _ ho) rfl (T.nolimit.keeps F.keep) (codeRec_of X hcd) rfl hbind hcell hloc (fun h₁ ns keep => ?_) hco hgen hk
  have lt : ∀ q ∈ news, q.1 < s.heap.objs.size := fun q hq => Heap.lt_size (N q hq).1
  refine wpAny_mono (h _ _ h₁ (fun b o e hb => hideAll_get _ e hb) G ⟨ns, fun b o e => keep b o (of_hideAll _ e), Nat.le_of_eq (hideAll_size _ _)⟩ (fun q hq => ?_) BG (X₀.keeps st) (T.keeps st) lt) (fun fl s' z => back _ _ z) fun _ _ z => z
  exact ⟨keep _ _ (N q hq).1, Nat.ne_of_lt (lt q hq), hideAll_none _ (List.mem_map_of_mem hq)⟩
/- a def with cells is entered -/
theorem enterC (B : Below A₀ base outer h₀) (F : Fr h₀ L s.heap m) (X₀ : K.In h₀) (N : News h₀ L s.heap news) (T : Top p loose mean mg mb h₀) (hA : A.frames = some (env :: outer)) (hf : env.frame = some L) (hke : env.scope.kind = .function)
    (ho : K.lookup f = some ⟨oc, od, .func (fnOf name qual params body scope dV kV doc pm an cdv ct), osl⟩) (hcd : codeIn K cdv qual = true) (hroom : A.depth < recursionLimit)
    (hbind : BindsTo s (fnOf name qual params body scope dV kV doc pm an cdv ct) args binds) (hkind : (binds.all fun y => scope.names.lookup y.1 == some .local || scope.names.lookup y.1 == some .cell) = true)
    (hnd : ((cellsFrom 0 scope.names []).map (·.1)).Nodup)
    (h : ∀ g L' h₁ tk cells, Hid s.heap news g → Fr h₀ L g m → Fr g L' h₁ (bindL (envOfC qual scope L' f cdv).kindOf binds fun _ => none) → News g L' h₁ (cells ++ news) →
      CellsAre (bindC (envOfC qual scope L' f cdv).kindOf binds fun _ => none) (cellsFrom (L' + 1) scope.names []) cells → Below A base (env :: outer) g → K.In g → Top p loose mean mg mb g → (∀ p ∈ news, p.1 < L') →
      wpAny (model prog w) (A.deeper (envOfC qual scope L' f cdv)) (execs body (envOfC qual scope L' f cdv))
        (fun fl s' => LeaveK h₀ L m g R (match fl with | .ret v => v | _ => .none) s')
        (fun e s' => wpAny (model prog w) (A.deeper (envOfC qual scope L' f cdv)) (leaving (envOfC qual scope L' f cdv) e) (fun _ s'' => R (.error e) s'') (fun e' s'' => R (.error e') s'') s')
        { s with heap := h₁, toks := tk })
    (hco : scope.isCoroutine = false) (hgen : scope.isGenerator = false) (hk : scope.kind = .function) : codeAny (model prog w) A (.call (.ref f) args) R s := by
  obtain ⟨G, BG, st, back⟩ := groundX (R := R) B F N hA hf hke
  have X := X₀.keeps F.keep
  have lt : ∀ q ∈ news, q.1 < s.heap.objs.size := fun q hq => Heap.lt_size (N q hq).1
  refine codeAny_call_function hroom (X _ _ ho) rfl hco hgen rfl (codeRec_of X hcd) (hbind _ _ _ _ ?_)
  refine wpAny_newFunctionEnv_cells hk (kindsX hkind _) fun env' he s' x => ?_
  subst he
  refine ⟨(T.nolimit.keeps F.keep).keeps x.toInCall.keep, codeAny_func ?_⟩
  obtain ⟨h₁, tk, rfl, _⟩ := x.done
  have keep := x.toInCall.keep
  obtain ⟨cells, NC, Y⟩ := Cl.news (h₀ := s.heap) (Nat.le_refl _) fun n c hm => ⟨x.cell n c (lookup_of_mem_nodup (cellsFrom_names scope.names 0 (s.heap.objs.size + 1) [] [] rfl ▸ hnd) hm), x.above n c hm⟩
  refine wpAny_mono (h _ _ h₁ tk cells (fun b o e hb => hideAll_get _ e hb) G ⟨x.toInCall.ns, fun b o e => keep b o (of_hideAll _ e), Nat.le_of_eq (hideAll_size _ _)⟩ (fun q hq => ?_) Y BG (X₀.keeps st) (T.keeps st) lt) (fun fl s' z => back _ _ z) fun _ _ z => z
  rcases List.mem_append.mp hq with hq | hq
  · refine ⟨(NC q hq).1, (NC q hq).2.1, ?_⟩
    cases e : (hideAll s.heap (news.map (·.1))).get? q.1 with
    | none => rfl
    | some o => exact absurd ((NC q hq).2.2.symm.trans (of_hideAll _ e)) (by nofun)
  · exact ⟨keep _ _ (N q hq).1, Nat.ne_of_lt (lt q hq), hideAll_none _ (List.mem_map_of_mem hq)⟩
end

/- the names that a def's arguments take -/
noncomputable def paramNames (p : Arguments) : List Str := (p.posonlyargs ++ p.args ++ p.kwonlyargs).map (·.arg)
section
variable {prog : Program} {w : World} {A A₀ : Around} {s : Shared} {K : Frag} {L : Addr} {h₀ base : Heap} {m mg mb : Str → Option Value} {news : List (Addr × Obj)} {p : Program} {loose : List Str} {mean : ExcName → Option Value}
  {env : Env} {outer : List Env} {R : Result → Shared → Prop} {name qual : Str} {params : Arguments} {body : List Stmt} {scope : Scope} {dV kV doc pm cdv ct oc : Value} {an od : Option Addr} {osl : Array (Option Value)} {f : Addr} {args : Args} {binds : List (Str × Value)}
theorem enterP2 {binds₀ : List (Str × Value)} {vs : List Value} (B : Below A₀ base outer h₀) (F : Fr h₀ L s.heap m) (X₀ : K.In h₀) (N : News h₀ L s.heap news) (T : Top p loose mean mg mb h₀) (hA : A.frames = some (env :: outer)) (hf : env.frame = some L) (hke : env.scope.kind = .function)
    (ho : K.lookup f = some ⟨oc, od, .func (fnOf name qual params body scope dV kV doc pm an cdv ct), osl⟩) (hcd : codeIn K cdv qual = true) (hroom : A.depth < recursionLimit)
    (hbind : BindsTo s (fnOf name qual params body scope dV kV doc pm an cdv ct) args binds₀) (hloc : ∀ y ∈ binds₀, scope.names.lookup y.1 = some .local)
    (h : ∀ g L' h₁, Hid s.heap news g → Fr h₀ L g m → Fr g L' h₁ (fun y => ((paramNames params).zip vs).reverse.lookup y) → News g L' h₁ news → Below A base (env :: outer) g → K.In g → Top p loose mean mg mb g → (∀ p ∈ news, p.1 < L') →
      wpAny (model prog w) (A.deeper (envOf qual scope L' f cdv)) (execs body (envOf qual scope L' f cdv))
        (fun fl s' => LeaveK h₀ L m g R (match fl with | .ret v => v | _ => .none) s')
        (fun e s' => wpAny (model prog w) (A.deeper (envOf qual scope L' f cdv)) (leaving (envOf qual scope L' f cdv) e) (fun _ s'' => R (.error e) s'') (fun e' s'' => R (.error e') s'') s')
        { s with heap := h₁, toks := s.toks + vs.length })
    (e1 : binds₀.map (·.1) = paramNames params) (e2 : binds₀.map (·.2) = vs) (hco : scope.isCoroutine = false) (hgen : scope.isGenerator = false) (hk : scope.kind = .function) (hcell : ∀ x ∈ scope.names, x.2 ≠ .cell) : codeAny (model prog w) A (.call (.ref f) args) R s := by
  have eb : binds₀ = (paramNames params).zip vs := by rw [← e1, ← e2]; exact (List.zip_map' (f := Prod.fst) (g := Prod.snd) (l := binds₀)).symm ▸ (by simp)
  refine enterP B F X₀ N T hA hf hke ho hcd hroom hbind hloc (fun g L' h₁ a1 a2 a3 a4 a5 a6 a7 a8 => ?_) hco hgen hk hcell
  have el : binds₀.length = vs.length := by rw [← e2, List.length_map]
  rw [el]
  rw [eb] at a3
  exact h g L' h₁ a1 a2 a3 a4 a5 a6 a7 a8
theorem enterC2 {binds₀ : List (Str × Value)} {vs : List Value} (B : Below A₀ base outer h₀) (F : Fr h₀ L s.heap m) (X₀ : K.In h₀) (N : News h₀ L s.heap news) (T : Top p loose mean mg mb h₀) (hA : A.frames = some (env :: outer)) (hf : env.frame = some L) (hke : env.scope.kind = .function)
    (ho : K.lookup f = some ⟨oc, od, .func (fnOf name qual params body scope dV kV doc pm an cdv ct), osl⟩) (hcd : codeIn K cdv qual = true) (hroom : A.depth < recursionLimit)
    (hbind : BindsTo s (fnOf name qual params body scope dV kV doc pm an cdv ct) args binds₀) (hkind : (binds₀.all fun y => scope.names.lookup y.1 == some .local || scope.names.lookup y.1 == some .cell) = true)
    (hnd : ((cellsFrom 0 scope.names []).map (·.1)).Nodup)
    (h : ∀ g L' h₁ tk cells, Hid s.heap news g → Fr h₀ L g m → Fr g L' h₁ (bindL (envOfC qual scope L' f cdv).kindOf ((paramNames params).zip vs) fun _ => none) → News g L' h₁ (cells ++ news) →
      CellsAre (bindC (envOfC qual scope L' f cdv).kindOf ((paramNames params).zip vs) fun _ => none) (cellsFrom (L' + 1) scope.names []) cells → Below A base (env :: outer) g → K.In g → Top p loose mean mg mb g → (∀ p ∈ news, p.1 < L') →
      wpAny (model prog w) (A.deeper (envOfC qual scope L' f cdv)) (execs body (envOfC qual scope L' f cdv))
        (fun fl s' => LeaveK h₀ L m g R (match fl with | .ret v => v | _ => .none) s')
        (fun e s' => wpAny (model prog w) (A.deeper (envOfC qual scope L' f cdv)) (leaving (envOfC qual scope L' f cdv) e) (fun _ s'' => R (.error e) s'') (fun e' s'' => R (.error e') s'') s')
        { s with heap := h₁, toks := tk })
    (e1 : binds₀.map (·.1) = paramNames params) (e2 : binds₀.map (·.2) = vs) (hco : scope.isCoroutine = false) (hgen : scope.isGenerator = false) (hk : scope.kind = .function) : codeAny (model prog w) A (.call (.ref f) args) R s := by
  have eb : binds₀ = (paramNames params).zip vs := by rw [← e1, ← e2]; exact (List.zip_map' (f := Prod.fst) (g := Prod.snd) (l := binds₀)).symm ▸ (by simp)
  refine enterC B F X₀ N T hA hf hke ho hcd hroom hbind hkind hnd (fun g L' h₁ tk cells a1 a2 a3 a4 a5 a6 a7 a8 a9 => ?_) hco hgen hk
  rw [eb] at a3 a5
  exact h g L' h₁ tk cells a1 a2 a3 a4 a5 a6 a7 a8 a9
end
theorem News.sub {h₀ h : Heap} {L : Addr} {big small : List (Addr × Obj)} (N : News h₀ L h big) (hs : ∀ p ∈ small, p ∈ big) : News h₀ L h small := fun p hp => N p (hs p hp)
inductive Pick (a : Addr) (o : Obj) : List (Addr × Obj) → List (Addr × Obj) → Prop
  | head {r} : Pick a o ((a, o) :: r) r
  | tail {p r r'} : Pick a o r r' → Pick a o (p :: r) (p :: r')
theorem Pick.mem {a : Addr} {o : Obj} {l r : List (Addr × Obj)} (k : Pick a o l r) : ∀ p ∈ (a, o) :: r, p ∈ l := by
  induction k with
  | head => exact fun _ hp => hp
  | tail k ih =>
    intro p hp
    rcases List.mem_cons.mp hp with rfl | hp
    · exact .tail _ (ih _ (.head _))
    · rcases List.mem_cons.mp hp with rfl | hp
      · exact .head _
      · exact .tail _ (ih _ (.tail _ hp))
/- what is left out of the ledger -/
inductive Sub : List (Addr × Obj) → List (Addr × Obj) → Prop
  | refl {r} : Sub r r
  | nil {r} : Sub [] r
  | keep {p r r'} : Sub r r' → Sub (p :: r) (p :: r')
  | skip {p r r'} : Sub r r' → Sub r (p :: r')
theorem Sub.mem {l r : List (Addr × Obj)} (k : Sub l r) : ∀ p ∈ l, p ∈ r := by
  induction k with
  | refl => exact fun _ hp => hp
  | nil => exact fun _ hp => nomatch hp
  | keep k ih =>
    intro p hp
    rcases List.mem_cons.mp hp with rfl | hp
    · exact .head _
    · exact .tail _ (ih _ hp)
  | skip k ih => exact fun p hp => .tail _ (ih _ hp)


/- the draws' source: the ints left, the seed, the list of ready ints -/
inductive SrcObj (l : Addr) (o1 o2 : Obj) : Prop
  | mk : ∀ (x y : Int) (t1 t2 : Tok) (n1 n2 : Nat) (vs : List Value) (ns : List Int), (o1 = listOf #[.int x t1, .int y t2, .ref l] n1) → (o2 = listOf vs.toArray n2) → (0 ≤ x) → (0 ≤ y) → (y < 2147483647) → (IntsAre vs ns) → ((∀ n ∈ ns, 0 ≤ n)) → (vs.length ≤ 100) → SrcObj l o1 o2

theorem fin_ {Ret : Value → List (Addr × Obj) → Prop} {h₀ h' g : Heap} {L L' : Addr} {m m' : Str → Option Value} {s : Shared} {Q : Value → Shared → Prop} {v : Value} {tk' : Nat} {news big small : List (Addr × Obj)}
    (hret : ∀ (v : Value) (h' : Heap) (tk' : Nat) (news' : List (Addr × Obj)), Ret v news' → Hid s.heap news h' → Fr h₀ L h' m → News h₀ L h' news' → Q v { s with heap := h', toks := tk' })
    (H : Hid s.heap news g) (F' : Fr g L' h' m') (F : Fr h₀ L h' m) (N : News h₀ L h' big) (S : Sub small big) (R : Ret v small) : Q v { s with heap := h', toks := tk' } :=
  hret _ _ _ _ R (fun b o e hb => F'.keep b o (H b o e hb)) F (News.sub N S.mem)
/- a caller's ledger behind a call that was told over a part of it -/
theorem after_ {h₀ h h' : Heap} {L : Addr} {full part part' rest : List (Addr × Obj)} (N : News h₀ L h full) (H : Hid h part h') (N' : News h₀ L h' part') (hr : ∀ p ∈ rest, p ∈ full ∧ p.1 ∉ part.map (·.1)) : News h₀ L h' (part' ++ rest) := fun p hp => by
  rcases List.mem_append.mp hp with hp | hp
  · exact N' p hp
  · have z := N p (hr p hp).1
    exact ⟨H _ _ z.1 (hr p hp).2, z.2⟩
/- the same, where the call leaves what it read -/
theorem after_read {h₀ h h' : Heap} {L : Addr} {full part new : List (Addr × Obj)} (N : News h₀ L h full) (hp : ∀ p ∈ part, p ∈ full) (H : Hid h part h') (N' : News h₀ L h' (new ++ part)) : News h₀ L h' (new ++ full) := fun p hm => by
  rcases List.mem_append.mp hm with hm | hm
  · exact N' p (List.mem_append_left _ hm)
  · by_cases hq : p.1 ∈ part.map (·.1)
    · obtain ⟨q, hi, e⟩ := List.mem_map.mp hq
      have zq := (N q (hp q hi)).1
      have zp := (N p hm).1
      rw [e] at zq
      have eo : q.2 = p.2 := Option.some.inj (zq.symm.trans zp)
      have : q = p := Prod.ext e eo
      subst this
      exact N' q (List.mem_append_right _ hi)
    · have z := N p hm
      exact ⟨H _ _ z.1 hq, z.2⟩
/- a call told over two picked entries of the ledger -/
theorem pick2 {h₀ h : Heap} {L a b : Addr} {o1 o2 : Obj} {full r1 rest : List (Addr × Obj)} (P1 : Pick a o1 full r1) (P2 : Pick b o2 r1 rest) (N : News h₀ L h full) : News h₀ L h [(a, o1), (b, o2)] := News.sub N fun p hp => P1.mem p (by
  rcases List.mem_cons.mp hp with rfl | hp
  · exact .head _
  · exact .tail _ (P2.mem p (by rcases List.mem_cons.mp hp with rfl | hp; exact .head _; cases hp)))
theorem pick2_after {h₀ h h' : Heap} {L a b : Addr} {o1 o2 o1' o2' : Obj} {full r1 rest : List (Addr × Obj)} (P1 : Pick a o1 full r1) (P2 : Pick b o2 r1 rest) (h1 : ∀ p ∈ rest, p.1 ≠ a) (h2 : ∀ p ∈ rest, p.1 ≠ b) (N : News h₀ L h full)
    (H : Hid h [(a, o1), (b, o2)] h') (N' : News h₀ L h' [(a, o1'), (b, o2')]) : News h₀ L h' ((a, o1') :: (b, o2') :: rest) :=
  after_ N H N' fun p hp => ⟨P1.mem p (.tail _ (P2.mem p (.tail _ hp))), fun hm => by
    rcases List.mem_cons.mp hm with e | hm
    · exact h1 p hp e
    · rcases List.mem_cons.mp hm with e | hm
      · exact h2 p hp e
      · cases hm⟩
/- q is none of these addresses -/
structure Aps (q : Addr) (l : List Addr) : Prop where
  all : ∀ a ∈ l, a ≠ q
theorem Aps.ne {a q : Addr} {l : List Addr} (h : Aps q l) (hm : a ∈ l) : a ≠ q := h.all a hm
section
variable {q z a0 b0 c0 d0 e0 f0 g0 h0 i0 j0 k0 : Addr} {l : List Addr}
theorem an0 (h : Aps q (z :: l)) : z ≠ q := h.all _ mm0
theorem as0 (h : Aps q (z :: l)) : q ≠ z := (h.all _ mm0).symm
theorem an1 (h : Aps q (a0 :: z :: l)) : z ≠ q := h.all _ mm1
theorem as1 (h : Aps q (a0 :: z :: l)) : q ≠ z := (h.all _ mm1).symm
theorem an2 (h : Aps q (a0 :: b0 :: z :: l)) : z ≠ q := h.all _ mm2
theorem as2 (h : Aps q (a0 :: b0 :: z :: l)) : q ≠ z := (h.all _ mm2).symm
theorem an3 (h : Aps q (a0 :: b0 :: c0 :: z :: l)) : z ≠ q := h.all _ mm3
theorem as3 (h : Aps q (a0 :: b0 :: c0 :: z :: l)) : q ≠ z := (h.all _ mm3).symm
theorem an4 (h : Aps q (a0 :: b0 :: c0 :: d0 :: z :: l)) : z ≠ q := h.all _ mm4
theorem as4 (h : Aps q (a0 :: b0 :: c0 :: d0 :: z :: l)) : q ≠ z := (h.all _ mm4).symm
theorem an5 (h : Aps q (a0 :: b0 :: c0 :: d0 :: e0 :: z :: l)) : z ≠ q := h.all _ mm5
theorem as5 (h : Aps q (a0 :: b0 :: c0 :: d0 :: e0 :: z :: l)) : q ≠ z := (h.all _ mm5).symm
theorem an6 (h : Aps q (a0 :: b0 :: c0 :: d0 :: e0 :: f0 :: z :: l)) : z ≠ q := h.all _ mm6
theorem as6 (h : Aps q (a0 :: b0 :: c0 :: d0 :: e0 :: f0 :: z :: l)) : q ≠ z := (h.all _ mm6).symm
theorem an7 (h : Aps q (a0 :: b0 :: c0 :: d0 :: e0 :: f0 :: g0 :: z :: l)) : z ≠ q := h.all _ mm7
theorem as7 (h : Aps q (a0 :: b0 :: c0 :: d0 :: e0 :: f0 :: g0 :: z :: l)) : q ≠ z := (h.all _ mm7).symm
theorem an8 (h : Aps q (a0 :: b0 :: c0 :: d0 :: e0 :: f0 :: g0 :: h0 :: z :: l)) : z ≠ q := h.all _ mm8
theorem as8 (h : Aps q (a0 :: b0 :: c0 :: d0 :: e0 :: f0 :: g0 :: h0 :: z :: l)) : q ≠ z := (h.all _ mm8).symm
theorem an9 (h : Aps q (a0 :: b0 :: c0 :: d0 :: e0 :: f0 :: g0 :: h0 :: i0 :: z :: l)) : z ≠ q := h.all _ mm9
theorem as9 (h : Aps q (a0 :: b0 :: c0 :: d0 :: e0 :: f0 :: g0 :: h0 :: i0 :: z :: l)) : q ≠ z := (h.all _ mm9).symm
theorem an10 (h : Aps q (a0 :: b0 :: c0 :: d0 :: e0 :: f0 :: g0 :: h0 :: i0 :: j0 :: z :: l)) : z ≠ q := h.all _ mm10
theorem as10 (h : Aps q (a0 :: b0 :: c0 :: d0 :: e0 :: f0 :: g0 :: h0 :: i0 :: j0 :: z :: l)) : q ≠ z := (h.all _ mm10).symm
theorem an11 (h : Aps q (a0 :: b0 :: c0 :: d0 :: e0 :: f0 :: g0 :: h0 :: i0 :: j0 :: k0 :: z :: l)) : z ≠ q := h.all _ mm11
theorem as11 (h : Aps q (a0 :: b0 :: c0 :: d0 :: e0 :: f0 :: g0 :: h0 :: i0 :: j0 :: k0 :: z :: l)) : q ≠ z := (h.all _ mm11).symm
end
theorem Aps.of {q : Addr} {full : List (Addr × Obj)} (h : ∀ p ∈ full, p.1 ≠ q) : Aps q (full.map (·.1)) := ⟨fun a hm => by obtain ⟨p, hp, rfl⟩ := List.mem_map.mp hm; exact h p hp⟩
theorem Aps.n {q : Addr} : Aps q [] := ⟨fun _ h => nomatch h⟩
theorem Aps.c {a q : Addr} {l : List Addr} (h : a ≠ q) (r : Aps q l) : Aps q (a :: l) := ⟨fun b hb => by
  rcases List.mem_cons.mp hb with rfl | hb
  · exact h
  · exact r.all b hb⟩
section
variable {M : Model} {A : Around} {E : Value → Shared → Prop} {s : Shared} {h₀ : Heap} {L a : Addr} {m : Str → Option Value} {news : List (Addr × Obj)} {cn : Str} {cs : Scope} {ccd : Value} {cl : List (Str × Addr)} {x : Str}
theorem newTupO {vs : List Value} {Q : Value → Shared → Prop} (F : Fr h₀ L s.heap m) (N : News h₀ L s.heap news) (hz : vs.length ≤ sizeLine)
    (h : ∀ D h', let o : Obj := { cls := .type "tuple", data := .seq vs.toArray }; Fr h₀ L h' m → News h₀ L h' ((D, o) :: news) → (∀ p ∈ news, p.1 < D) → Q (.ref D) { s with heap := h' }) : wpAny M A (newTuple vs) Q E s := kup_newTuple F N h hz
end
theorem aps_lt {q : Addr} {news : List (Addr × Obj)} (h : ∀ p ∈ news, p.1 < q) : Aps q (news.map (·.1)) := .of fun p hp => Nat.ne_of_lt (h p hp)
theorem aps_lt1 {q : Addr} {news : List (Addr × Obj)} (h : ∀ p ∈ news, p.1 < q) : Aps (q + 1) (news.map (·.1)) := .of fun p hp => Nat.ne_of_lt (Nat.lt_succ_of_lt (h p hp))
theorem aps_lt2 {q c : Addr} {news : List (Addr × Obj)} (h : ∀ p ∈ news, p.1 < q) (l : @LT.lt Nat _ q c) : Aps c (q :: news.map (·.1)) := .c (Nat.ne_of_lt l) (.of fun p hp => Nat.ne_of_lt (Nat.lt_trans (h p hp) l))
theorem Aps.led {q : Addr} {l : List Addr} {R : List (Addr × Obj)} (h : Aps q l) (hs : ∀ a ∈ R.map (·.1), a ∈ l) : ∀ p ∈ R, p.1 ≠ q := fun p hp => h.all _ (hs _ (List.mem_map_of_mem hp))
noncomputable def sel : List Bool → List (Str × Value) → List (Str × Value)
  | true :: fs, b :: bs => b :: sel fs bs
  | false :: fs, _ :: bs => sel fs bs
  | _, _ => []
theorem bindL_sel (k : Str → Option NameKind) (fs : List Bool) : ∀ (bs : List (Str × Value)) (m : Str → Option Value), bs.map (fun b => k b.1 == some .local) = fs → bindL k bs m = fun y => ((sel fs bs).reverse.lookup y).or (m y) := by
  induction fs with
  | nil =>
    intro bs m h
    cases bs with
    | nil => rfl
    | cons b bs => cases h
  | cons f fs ih =>
    intro bs m h
    cases bs with
    | nil => cases h
    | cons b bs =>
      obtain ⟨n, v⟩ := b
      rw [mapc] at h
      injection h with h1 h2
      unfold bindL
      rw [ih bs _ h2]
      funext y
      subst h1
      cases hk : (k n == some .local) with
      | true =>
        have e : k n = some .local := eq_of_beq hk
        rw [if_pos e]
        rw [show sel (true :: fs) ((n, v) :: bs) = (n, v) :: sel fs bs from rfl, List.reverse_cons]
        rw [List.lookup_append]
        cases (sel fs bs).reverse.lookup y with
        | some z => rfl
        | none =>
          show (if y = n then some v else m y) = (match y == n with | true => some v | false => none).or (m y)
          by_cases q : y = n
          · rw [if_pos q, beq_iff_eq.mpr q]; rfl
          · rw [if_neg q, beq_eq_false_iff_ne.mpr q]; rfl
      | false =>
        have e : ¬ (k n = some .local) := fun e => by rw [e] at hk; cases hk
        rw [if_neg e]
        rfl
section
variable {prog : Program} {w : World} {A A₀ : Around} {s : Shared} {K : Frag} {L : Addr} {h₀ base : Heap} {m mg mb : Str → Option Value} {news : List (Addr × Obj)} {p : Program} {loose : List Str} {mean : ExcName → Option Value}
  {env : Env} {outer : List Env} {R : Result → Shared → Prop} {name qual : Str} {params : Arguments} {body : List Stmt} {scope : Scope} {dV kV doc pm cdv ct oc : Value} {an od : Option Addr} {osl : Array (Option Value)} {f : Addr} {args : Args} {binds : List (Str × Value)}
theorem enterC3 {binds₀ : List (Str × Value)} {vs : List Value} {fs : List Bool} (B : Below A₀ base outer h₀) (F : Fr h₀ L s.heap m) (X₀ : K.In h₀) (N : News h₀ L s.heap news) (T : Top p loose mean mg mb h₀) (hA : A.frames = some (env :: outer)) (hf : env.frame = some L) (hke : env.scope.kind = .function)
    (ho : K.lookup f = some ⟨oc, od, .func (fnOf name qual params body scope dV kV doc pm an cdv ct), osl⟩) (hcd : codeIn K cdv qual = true) (hroom : A.depth < recursionLimit)
    (hbind : BindsTo s (fnOf name qual params body scope dV kV doc pm an cdv ct) args binds₀) (hkind : (binds₀.all fun y => scope.names.lookup y.1 == some .local || scope.names.lookup y.1 == some .cell) = true)
    (hnd : ((cellsFrom 0 scope.names []).map (·.1)).Nodup) (hfs : ((paramNames params).zip vs).map (fun b => (envOfC qual scope 0 f cdv).kindOf b.1 == some .local) = fs)
    (h : ∀ g L' h₁ tk cells, Hid s.heap news g → Fr h₀ L g m → Fr g L' h₁ (fun y => (sel fs ((paramNames params).zip vs)).reverse.lookup y) → News g L' h₁ (cells ++ news) →
      CellsAre (bindC (envOfC qual scope L' f cdv).kindOf ((paramNames params).zip vs) fun _ => none) (cellsFrom (L' + 1) scope.names []) cells → Below A base (env :: outer) g → K.In g → Top p loose mean mg mb g → (∀ p ∈ news, p.1 < L') →
      wpAny (model prog w) (A.deeper (envOfC qual scope L' f cdv)) (execs body (envOfC qual scope L' f cdv))
        (fun fl s' => LeaveK h₀ L m g R (match fl with | .ret v => v | _ => .none) s')
        (fun e s' => wpAny (model prog w) (A.deeper (envOfC qual scope L' f cdv)) (leaving (envOfC qual scope L' f cdv) e) (fun _ s'' => R (.error e) s'') (fun e' s'' => R (.error e') s'') s')
        { s with heap := h₁, toks := tk })
    (e1 : binds₀.map (·.1) = paramNames params) (e2 : binds₀.map (·.2) = vs) (hco : scope.isCoroutine = false) (hgen : scope.isGenerator = false) (hk : scope.kind = .function) : codeAny (model prog w) A (.call (.ref f) args) R s := by
  refine enterC2 B F X₀ N T hA hf hke ho hcd hroom hbind hkind hnd (fun g L' h₁ tk cells a1 a2 a3 a4 a5 a6 a7 a8 a9 => ?_) e1 e2 hco hgen hk
  refine h g L' h₁ tk cells a1 a2 ?_ a4 a5 a6 a7 a8 a9
  have e : bindL (envOfC qual scope L' f cdv).kindOf ((paramNames params).zip vs) (fun _ => none) = fun y => (sel fs ((paramNames params).zip vs)).reverse.lookup y := by
    have hfs' : ((paramNames params).zip vs).map (fun b => (envOfC qual scope L' f cdv).kindOf b.1 == some .local) = fs := hfs
    rw [bindL_sel _ fs _ _ hfs']
    funext y
    simp
  rw [e] at a3
  exact a3
end
theorem am0 {a b : Int} (hb : 0 < b) : 0 ≤ a.fmod b := by rw [Int.fmod_eq_emod_of_nonneg _ (Int.le_of_lt hb)]; exact Int.emod_nonneg _ (by omega)
theorem am1 {a b : Int} (hb : 0 < b) : a.fmod b < b := by rw [Int.fmod_eq_emod_of_nonneg _ (Int.le_of_lt hb)]; exact Int.emod_lt_of_pos _ hb
theorem ad0 {a b : Int} (ha : 0 ≤ a) (hb : 0 < b) : 0 ≤ a.fdiv b := by rw [Int.fdiv_eq_ediv_of_nonneg _ (Int.le_of_lt hb)]; exact Int.ediv_nonneg ha (Int.le_of_lt hb)
/- rooms: what is left of the depth, of the units -/
theorem room1 {k i j n M : Nat} (h : k + n < M) (e : Nat.ble (i + j) n = true) : k + i + j < M := by
  rw [Nat.add_assoc]; exact Nat.lt_of_le_of_lt (Nat.add_le_add_left (Nat.le_of_ble_eq_true e) k) h
theorem room0 {k j n M : Nat} (h : k + n < M) (e : Nat.ble j n = true) : k + j < M := Nat.lt_of_le_of_lt (Nat.add_le_add_left (Nat.le_of_ble_eq_true e) k) h
theorem roomz {k n M : Nat} (h : k + n < M) : k < M := Nat.lt_of_le_of_lt (Nat.le_add_right k n) h
/- the caller said once -/
theorem foldA {M : Model} {A0 : Around} {t : Sem Flow} {Q : Flow → Shared → Prop} {E : Value → Shared → Prop} {s : Shared} (k : let A1 := A0; wpAny M A1 t Q E s) : wpAny M A0 t Q E s := k
section
variable {prog : Program} {w : World} {A A₀ : Around} {E : Value → Shared → Prop} {s : Shared} {K : Frag} {C L : Addr} {h₀ base : Heap} {m : Str → Option Value} {news : List (Addr × Obj)} {Q : Value → Shared → Prop}
theorem call_cls2 {pos : List Value} {kw : List (Str × Value)} {fI : Addr} (F : Fr h₀ L s.heap m) (X₀ : K.In h₀) (N : News h₀ L s.heap news) (hm : makesIn K C = true) (hi : findIn K (.ref C) "__init__" = some (some (.ref fI))) (hf : isFn K (.ref fI) = true)
    (h : ∀ x dx h', Fr h₀ L h' m → News h₀ L h' ((x, instObj C dx) :: (dx, dictOf [] 0) :: news) → (∀ p ∈ news, p.1 < dx) → dx < x → Aps x (news.map (·.1)) →
      codeAny (model prog w) (A.under (.builtin "type.__call__" ⟨.ref C :: pos, kw⟩)) (.call (.ref fI) ⟨.ref x :: pos, kw⟩) (InitBack x fun r s' => match r with | .ok (.ret v) => Q v s' | .ok _ => False | .error e => E e s') { s with heap := h' }) :
    wpAny (model prog w) A (call (.ref C) pos kw) Q E s :=
  call_cls F X₀ N hm hi hf fun x dx h' F' N' l1 l2 => h x dx h' F' N' l1 l2 (.of fun p hp => Nat.ne_of_lt (Nat.lt_trans (l1 p hp) l2))
end
theorem offc {d x : Addr} {o : Obj} {l : List (Addr × Obj)} (h : d ≠ x) (r : ∀ p ∈ l, p.1 ≠ x) : ∀ p ∈ (d, o) :: l, p.1 ≠ x := List.forall_mem_cons.mpr ⟨h, r⟩
theorem offn {x : Addr} : ∀ p ∈ ([] : List (Addr × Obj)), p.1 ≠ x := fun _ h => nomatch h
theorem subc {a : Addr × Obj} {l big : List (Addr × Obj)} (h : a ∈ big) (r : ∀ p ∈ l, p ∈ big) : ∀ p ∈ a :: l, p ∈ big := List.forall_mem_cons.mpr ⟨h, r⟩
theorem forall_app {α : Type} {P : α → Prop} {X Y : List α} (h : ∀ p ∈ X, P p) (k : ∀ p ∈ Y, P p) : ∀ p ∈ X ++ Y, P p := fun p hp => (List.mem_append.mp hp).elim (h p) (k p)
theorem len_s {α : Type} {l : List α} {n : Nat} (h : l.length = n + 1) : ∃ a t, l = a :: t ∧ t.length = n := by
  cases l with
  | nil => cases h
  | cons a t => exact ⟨a, t, rfl, Nat.succ.inj h⟩
theorem nabL {y k : Int} {n : Nat} (h0 : 0 ≤ y) (h1 : y ≤ k) (h : k < (n : Int)) : y.natAbs < n := by
  obtain ⟨m, rfl⟩ := Int.eq_ofNat_of_zero_le h0
  exact Int.ofNat_lt.mp (Int.lt_of_le_of_lt h1 h)
end Mine
namespace Mine
/- expressions that are evaluated in one known way, in any context -/
structure Ev (M : Model) (A : Around) (env : Env) (e : Expr) (v : Value) (s s' : Shared) : Prop where
  plain : ∀ r, starEach (e :: r) env = (false, eval e env) :: starEach r env
  use : ∀ {Q : Value → Shared → Prop} {E : Value → Shared → Prop}, Q v s' → wpAny M A (eval e env) Q E s
inductive EvL (M : Model) (A : Around) (env : Env) : List Expr → List Value → Shared → Shared → Prop
  | n {s : Shared} : EvL M A env [] [] s s
  | c {s s1 s2 : Shared} {e : Expr} {v : Value} {es : List Expr} {vs : List Value} : Ev M A env e v s s1 → EvL M A env es vs s1 s2 → EvL M A env (e :: es) (v :: vs) s s2
/- of which kind a name is in a function's scope -/
noncomputable def kindIs (env : Env) (k : NameKind) (x : Str) : Bool := env.scope.kind == .function && env.scope.names.lookup x == some k && !(x == ("__debug__" : Str))
theorem kindIs_of {env : Env} {k : NameKind} {x : Str} (h : true = kindIs env k x) : env.scope.kind = .function ∧ env.kindOf x = some k ∧ (x == ("__debug__" : Str)) = false := by
  unfold kindIs at h
  have h' := h.symm
  simp only [Bool.and_eq_true, beq_iff_eq, Bool.not_eq_true'] at h'
  exact ⟨h'.1.1, h'.1.2, h'.2⟩
theorem Ev.I {M : Model} {A : Around} {env : Env} {h : Heap} {g : _} {d : _} {t : Nat} {o : _} {n : Int} {k : Nat} {pos : Pos} :
    Ev M A env (.Constant (.int n) k pos) (.int n t) (Shared.mk h g d t o) (Shared.mk h g d (t + 1) o) :=
  ⟨fun _ => rfl, fun q => wpAny_Constant_int q⟩
theorem Ev.S {M : Model} {A : Around} {env : Env} {h : Heap} {g : _} {d : _} {t : Nat} {o : _} {n : Str} {k : Nat} {pos : Pos} :
    Ev M A env (.Constant (.str n) k pos) (.str n t) (Shared.mk h g d t o) (Shared.mk h g d (t + 1) o) :=
  ⟨fun _ => rfl, fun q => Calls.Constant_str q⟩
theorem Ev.L {M : Model} {A : Around} {env : Env} {h₀ : Heap} {L : Addr} {m : Str → Option Value} {s : Shared} (F : Fr h₀ L s.heap m) {x : Str} {pos : Pos} {v : Value}
    (hx : (L, true) = (env.locals, kindIs env .local x)) (hv : some v = m x) : Ev M A env (.Name x pos) v s s := by
  have hL := congrArg Prod.fst hx
  obtain ⟨h1, h2, h3⟩ := kindIs_of (congrArg Prod.snd hx)
  dsimp only at hL
  subst hL
  exact ⟨fun _ => rfl, fun q => wpAny_Name (wpAny_loadName_local h1 h2 F.ns hv.symm q) h3⟩
theorem Ev.C {M : Model} {A : Around} {env : Env} {h₀ : Heap} {L : Addr} {news : List (Addr × Obj)} {s : Shared} (N : News h₀ L s.heap news) {x : Str} {pos : Pos} {c : Addr} {o : Obj} {v : Value}
    (hx : (some c, true) = (env.cells.lookup x, kindIs env .cell x)) (hm : (c, o) ∈ news) (hd : o.data = .cell (some v)) : Ev M A env (.Name x pos) v s s := by
  have hL := congrArg Prod.fst hx
  obtain ⟨h1, h2, h3⟩ := kindIs_of (congrArg Prod.snd hx)
  dsimp only at hL
  exact ⟨fun _ => rfl, fun q => wpAny_Name (wpAny_loadName_cell h1 h2 hL.symm ⟨o, N.get hm, hd⟩ q) h3⟩
theorem Ev.K {M : Model} {A : Around} {env : Env} {h₀ : Heap} {L : Addr} {m mg mb : Str → Option Value} {K : Frag} {p : Program} {loose : List Str} {s : Shared} (F : Fr h₀ L s.heap m) (X : K.In h₀) (T : TopRead p loose mg mb h₀)
    {x : Str} {pos : Pos} {v : Value} (hx : (mainGlobals, true) = (env.globals, kindIs env .globalImplicit x)) (e : nsIn K mainGlobals x = some (some v)) : Ev M A env (.Name x pos) v s s := by
  have hL := congrArg Prod.fst hx
  obtain ⟨h1, h2, h3⟩ := kindIs_of (congrArg Prod.snd hx)
  dsimp only at hL
  exact ⟨fun _ => rfl, fun q => Name_function_global h1 h2 (loadGlobal_global (env := env) (hL ▸ T.g.keeps F.keep) (mg_of X T.g e) q) h3⟩
theorem Ev.B {M : Model} {A : Around} {env : Env} {h₀ : Heap} {L : Addr} {m mg mb : Str → Option Value} {K : Frag} {p : Program} {loose : List Str} {s : Shared} (F : Fr h₀ L s.heap m) (X : K.In h₀) (T : TopRead p loose mg mb h₀)
    {x : Str} {pos : Pos} {v : Value} (hx : ((mainGlobals, builtinsNs), true) = ((env.globals, env.builtins), kindIs env .globalImplicit x)) (e : nsIn K mainGlobals x = some none) (hv : bootBuiltins x = some v) (hn : x ≠ "__name__") : Ev M A env (.Name x pos) v s s := by
  have hL := congrArg Prod.fst hx
  obtain ⟨h1, h2, h3⟩ := kindIs_of (congrArg Prod.snd hx)
  have hg := congrArg Prod.fst hL
  have hb := congrArg Prod.snd hL
  dsimp only at hg hb
  exact ⟨fun _ => rfl, fun q => Name_function_global h1 h2 (loadGlobal_builtin (env := env) (hg ▸ T.g.keeps F.keep) (mg_none_of X T.g e) (hb ▸ T.b.keeps F.keep) ((T.builtins x hn).trans hv) q) h3⟩
theorem EvL.use {M : Model} {A : Around} {env : Env} {pos : Pos} {E : Value → Shared → Prop} {es : List Expr} {vs : List Value} {s s' : Shared} (h : EvL M A env es vs s s') :
    ∀ {Q : List Value → Shared → Prop}, Q vs s' → wpAny M A (spliced (backTo pos (starEach es env))) Q E s := by
  induction h with
  | n => intro Q q; exact args_nil q
  | c h1 _ ih => intro Q q; exact args_cons (h1.use (ih q)) (h1.plain _)
theorem EvL.noStar {M : Model} {A : Around} {env : Env} {pos : Pos} {es : List Expr} {vs : List Value} {s s' : Shared} (h : EvL M A env es vs s s') :
    (backTo pos (starEach es env)).any (·.1) = false := by
  induction h with
  | n => rfl
  | c h1 _ ih => rw [h1.plain]; exact ih
/- a whole list of arguments, all of them simple -/
theorem spl {M : Model} {A : Around} {env : Env} {pos : Pos} {E : Value → Shared → Prop} {es : List Expr} {vs : List Value} {s s' : Shared} {Q : List Value → Shared → Prop} (h : EvL M A env es vs s s') (q : Q vs s') :
    wpAny M A (spliced (backTo pos (starEach es env))) Q E s := h.use q
/- the first of some arguments is simple -/
theorem spc {M : Model} {A : Around} {env : Env} {pos : Pos} {E : Value → Shared → Prop} {e : Expr} {es : List Expr} {v : Value} {s s' : Shared} {Q : List Value → Shared → Prop} (h : Ev M A env e v s s')
    (q : wpAny M A (spliced (backTo pos (starEach es env))) (fun vs s₂ => Q (v :: vs) s₂) E s') : wpAny M A (spliced (backTo pos (starEach (e :: es) env))) Q E s :=
  args_cons (h.use q) (h.plain _)
/- a call of a name -/
theorem calN {M : Model} {A : Around} {env : Env} {pos np : Pos} {E : Value → Shared → Prop} {x : Str} {es : List Expr} {v : Value} {s s' : Shared} {Q : Value → Shared → Prop} (h : Ev M A env (.Name x np) v s s')
    (q : wpAny M A (callWith pos v [] (backTo pos (starEach es env)) []) Q E s') : wpAny M A (eval (.Call (.Name x np) es [] pos) env) Q E s :=
  Call_ (h.use q)
/- a def's call, its arguments simple -/
theorem calK {M : Model} {A : Around} {env : Env} {pos : Pos} {E : Value → Shared → Prop} {K : Frag} {h₀ : Heap} {f : Value} {e : Expr} {es : List Expr} {first : List Value} {v : Value} {vs : List Value} {s s1 s' : Shared} {Q : Value → Shared → Prop} (X : K.In h₀) (hk : keepIn K f = true)
    (h1 : Ev M A env e v s s1) (h2 : EvL M A env es vs s1 s') (q : K.In s'.heap ∧ wpAny M A (call f (first ++ (v :: vs))) Q E s') : wpAny M A (callWith pos f first (backTo pos (starEach (e :: es) env)) []) Q E s :=
  callWith_K X hk (args_cons (h1.use (h2.use q)) (h1.plain _)) (h1.plain _) h2.noStar
theorem binS {M : Model} {A : Around} {env : Env} {pos : Pos} {E : Value → Shared → Prop} {op : Operator} {e1 e2 : Expr} {v1 v2 : Value} {s s1 s2 : Shared} {Q : Value → Shared → Prop} (h1 : Ev M A env e1 v1 s s1) (h2 : Ev M A env e2 v2 s1 s2)
    (q : wpAny M A (binaryOp op v1 v2) Q E s2) : wpAny M A (eval (.BinOp e1 op e2 pos) env) Q E s := wpAny_BinOp (h1.use (h2.use q))
theorem binL {M : Model} {A : Around} {env : Env} {pos : Pos} {E : Value → Shared → Prop} {op : Operator} {e1 e2 : Expr} {v1 : Value} {s s1 : Shared} {Q : Value → Shared → Prop} (h1 : Ev M A env e1 v1 s s1)
    (q : wpAny M A (eval e2 env) (fun b s₂ => wpAny M A (binaryOp op v1 b) Q E s₂) E s1) : wpAny M A (eval (.BinOp e1 op e2 pos) env) Q E s := wpAny_BinOp (h1.use q)
theorem subS {M : Model} {A : Around} {env : Env} {pos : Pos} {E : Value → Shared → Prop} {e1 e2 : Expr} {v1 v2 : Value} {s s1 s2 : Shared} {Q : Value → Shared → Prop} (h1 : Ev M A env e1 v1 s s1) (h2 : Ev M A env e2 v2 s1 s2)
    (q : wpAny M A (subscriptTail e1 e2 v1 v2) Q E s2) : wpAny M A (eval (.Subscript e1 e2 pos) env) Q E s := Subscript_ (h1.use (h2.use q))
theorem cmpS {M : Model} {A : Around} {env : Env} {pos : Pos} {E : Value → Shared → Prop} {op : CmpOp} {e1 e2 : Expr} {v1 v2 : Value} {s s1 s2 : Shared} {Q : Value → Shared → Prop} (hm : false = behindInMarks op e2) (h1 : Ev M A env e1 v1 s s1) (h2 : Ev M A env e2 v2 s1 s2)
    (q : wpAny M A (compareOp op v1 v2) Q E s2) : wpAny M A (eval (.Compare e1 [op] [e2] pos) env) Q E s := wpAny_Compare1 (h1.use (h2.use q)) hm.symm
theorem cmpT {M : Model} {A : Around} {env : Env} {pos : Pos} {E : Value → Shared → Prop} {op : CmpOp} {e1 e2 : Expr} {v1 v2 : Value} {s s1 s2 : Shared} {whole} {Q : Bool → Shared → Prop} (hm : false = behindInMarks op e2) (h1 : Ev M A env e1 v1 s s1) (h2 : Ev M A env e2 v2 s1 s2)
    (q : wpAny M A (compareOp op v1 v2) (fun c s₃ => wpAny M A (truthy c) Q E s₃) E s2) : wpAny M A (isTrue (.Compare e1 [op] [e2] pos) env whole) Q E s := wpAny_isTrue_Compare1 (h1.use (h2.use q)) hm.symm
theorem cmpL {M : Model} {A : Around} {env : Env} {pos : Pos} {E : Value → Shared → Prop} {op : CmpOp} {e1 e2 : Expr} {v1 : Value} {s s1 : Shared} {Q : Value → Shared → Prop} (hm : false = behindInMarks op e2) (h1 : Ev M A env e1 v1 s s1)
    (q : wpAny M A (eval e2 env) (fun b s₂ => wpAny M A (compareOp op v1 b) Q E s₂) E s1) : wpAny M A (eval (.Compare e1 [op] [e2] pos) env) Q E s := wpAny_Compare1 (h1.use q) hm.symm
theorem evU {M : Model} {A : Around} {env : Env} {E : Value → Shared → Prop} {e : Expr} {v : Value} {s s' : Shared} {Q : Value → Shared → Prop} (h : Ev M A env e v s s') (q : Q v s') : wpAny M A (eval e env) Q E s := h.use q
theorem conI {M : Model} {A : Around} {env : Env} {E : Value → Shared → Prop} {h : Heap} {g : _} {d : _} {o : _} {t : Nat} {n : Int} {k : Nat} {pos : Pos} {Q : Value → Shared → Prop} (q : Q (.int n t) (Shared.mk h g d (t + 1) o)) :
    wpAny M A (eval (.Constant (.int n) k pos) env) Q E (Shared.mk h g d t o) := wpAny_Constant_int q
theorem conS {M : Model} {A : Around} {env : Env} {E : Value → Shared → Prop} {h : Heap} {g : _} {d : _} {o : _} {t : Nat} {n : Str} {k : Nat} {pos : Pos} {Q : Value → Shared → Prop} (q : Q (.str n t) (Shared.mk h g d (t + 1) o)) :
    wpAny M A (eval (.Constant (.str n) k pos) env) Q E (Shared.mk h g d t o) := Calls.Constant_str q
theorem Ev.add {prog : Program} {w : World} {A : Around} {env : Env} {h : Heap} {g : _} {d : _} {o : _} {k : Nat} {s s1 : Shared} {e1 e2 : Expr} {a b : Int} {t u : Tok} {pos : Pos} (h1 : Ev (model prog w) A env e1 (.int a t) s s1) (h2 : Ev (model prog w) A env e2 (.int b u) s1 (Shared.mk h g d k o)) :
    Ev (model prog w) A env (.BinOp e1 .Add e2 pos) (.int (a + b) k) s (Shared.mk h g d (k + 1) o) := ⟨fun _ => rfl, fun q => wpAny_BinOp (h1.use (h2.use (add_int q)))⟩
theorem Ev.sub {prog : Program} {w : World} {A : Around} {env : Env} {h : Heap} {g : _} {d : _} {o : _} {k : Nat} {s s1 : Shared} {e1 e2 : Expr} {a b : Int} {t u : Tok} {pos : Pos} (h1 : Ev (model prog w) A env e1 (.int a t) s s1) (h2 : Ev (model prog w) A env e2 (.int b u) s1 (Shared.mk h g d k o)) :
    Ev (model prog w) A env (.BinOp e1 .Sub e2 pos) (.int (a - b) k) s (Shared.mk h g d (k + 1) o) := ⟨fun _ => rfl, fun q => wpAny_BinOp (h1.use (h2.use (sub_int q)))⟩
/- the two ends of a tree by names (no id) -/
theorem foldW {α : Type} {M : Model} {A : Around} {t : Sem α} {Q : α → Shared → Prop} {E : Value → Shared → Prop} {s : Shared} (h : let qk := Q; let ek := E; wpAny M A t qk ek s) : wpAny M A t Q E s := h
/- x = e -/
theorem asgN {M : Model} {A : Around} {env : Env} {E : Value → Shared → Prop} {s : Shared} {x : Str} {p pos : Pos} {e : Expr} {rest : List Stmt} {Q : Flow → Shared → Prop} (hs : pure false = swapsWith e (some (.Name x p)) pos.line env)
    (h : wpAny M A (eval e env) (fun v s₁ => wpAny M A (storeName env x v) (fun _ s₂ => wpAny M A (execs rest env) Q E s₂) E s₁) E s) : wpAny M A (execs (.Assign [.Name x p] e pos :: rest) env) Q E s :=
  wpAny_execs_cons (wpAny_Assign_Name h hs.symm)
theorem stoL {M : Model} {A : Around} {env : Env} {E : Value → Shared → Prop} {h₀ : Heap} {L : Addr} {m : Str → Option Value} {news : List (Addr × Obj)} {h : Heap} {g : _} {d : _} {o : _} {t : Nat} {x : Str} {v : Value} {Q : Unit → Shared → Prop}
    (F : Fr h₀ L h m) (N : News h₀ L h news) (hx : (L, true) = (env.locals, kindIs env .local x)) (k : ∀ h', Fr h₀ L h' (fun y => if y = x then some v else m y) → News h₀ L h' news → Q () (Shared.mk h' g d (t + 1) o)) :
    wpAny M A (storeName env x v) Q E (Shared.mk h g d t o) := by
  have hL := congrArg Prod.fst hx
  obtain ⟨h1, h2, _⟩ := kindIs_of (congrArg Prod.snd hx)
  dsimp only at hL
  subst hL
  exact wpAny_storeName_local h2 F.ns (fun h' hn hs => k h' (F.set hn hs) (N.set hs)) (by show (env.scope.kind == .class || (env.scope.kind == .module && env.locals != env.globals)) = false; rw [h1]; rfl)
/- x = e, the value simple -/
theorem asgL {M : Model} {A : Around} {env : Env} {E : Value → Shared → Prop} {h₀ : Heap} {L : Addr} {m : Str → Option Value} {news : List (Addr × Obj)} {s : Shared} {h : Heap} {g : _} {d : _} {o : _} {t : Nat} {x : Str} {p pos : Pos} {e : Expr} {v : Value} {rest : List Stmt} {Q : Flow → Shared → Prop}
    (H : Ev M A env e v s (Shared.mk h g d t o)) (F : Fr h₀ L h m) (N : News h₀ L h news) (hx : (L, true) = (env.locals, kindIs env .local x)) (hs : pure false = swapsWith e (some (.Name x p)) pos.line env)
    (k : ∀ h', Fr h₀ L h' (fun y => if y = x then some v else m y) → News h₀ L h' news → wpAny M A (execs rest env) Q E (Shared.mk h' g d (t + 1) o)) :
    wpAny M A (execs (.Assign [.Name x p] e pos :: rest) env) Q E s := asgN hs (H.use (stoL F N hx k))
theorem retN {M : Model} {A : Around} {env : Env} {E : Value → Shared → Prop} {s : Shared} {pos : Pos} {e : Expr} {rest : List Stmt} {Q : Flow → Shared → Prop} (h : wpAny M A (eval e env) (fun v s₁ => Q (.ret v) s₁) E s) :
    wpAny M A (execs (.Return (some e) pos :: rest) env) Q E s := wpAny_execs_cons (wpAny_Return_some h)
/- a new tuple of simple parts -/
theorem tupL {M : Model} {A : Around} {env : Env} {E : Value → Shared → Prop} {h₀ : Heap} {L : Addr} {m : Str → Option Value} {news : List (Addr × Obj)} {s : Shared} {h : Heap} {g : _} {d : _} {o : _} {t : Nat} {es : List Expr} {vs : List Value} {n : Nat} {pos : Pos} {Q : Value → Shared → Prop}
    (H : EvL M A env es vs s (Shared.mk h g d t o)) (F : Fr h₀ L h m) (N : News h₀ L h news) (hz : vs.length ≤ sizeLine)
    (k : ∀ D h', let ob : Obj := { cls := .type "tuple", data := .seq vs.toArray }; Fr h₀ L h' m → News h₀ L h' ((D, ob) :: news) → (∀ p ∈ news, p.1 < D) → Q (.ref D) (Shared.mk h' g d t o)) : wpAny M A (eval (.Tuple es n pos) env) Q E s :=
  Tuple_ (H.use (newTupO F N hz k))
theorem tupO {M : Model} {A : Around} {E : Value → Shared → Prop} {h₀ : Heap} {L : Addr} {m : Str → Option Value} {news : List (Addr × Obj)} {h : Heap} {g : _} {d : _} {o : _} {t : Nat} {vs : List Value} {Q : Value → Shared → Prop}
    (F : Fr h₀ L h m) (N : News h₀ L h news) (hz : vs.length ≤ sizeLine)
    (k : ∀ D h', let ob : Obj := { cls := .type "tuple", data := .seq vs.toArray }; Fr h₀ L h' m → News h₀ L h' ((D, ob) :: news) → (∀ p ∈ news, p.1 < D) → Q (.ref D) (Shared.mk h' g d t o)) : wpAny M A (newTuple vs) Q E (Shared.mk h g d t o) :=
  newTupO F N hz k
theorem lisO {M : Model} {A : Around} {E : Value → Shared → Prop} {h₀ : Heap} {L : Addr} {m : Str → Option Value} {news : List (Addr × Obj)} {h : Heap} {g : _} {d : _} {o : _} {t : Nat} {vs : List Value} {Q : Value → Shared → Prop}
    (F : Fr h₀ L h m) (N : News h₀ L h news) (hz : vs.length ≤ sizeLine)
    (k : ∀ l h', Fr h₀ L h' m → News h₀ L h' ((l, listOf vs.toArray 0) :: news) → (∀ p ∈ news, p.1 < l) → Q (.ref l) (Shared.mk h' g d t o)) : wpAny M A (newList vs) Q E (Shared.mk h g d t o) :=
  newList_K F N k hz
theorem lisL {M : Model} {A : Around} {env : Env} {E : Value → Shared → Prop} {h₀ : Heap} {L : Addr} {m : Str → Option Value} {news : List (Addr × Obj)} {s : Shared} {h : Heap} {g : _} {d : _} {o : _} {t : Nat} {es : List Expr} {vs : List Value} {pos : Pos} {Q : Value → Shared → Prop}
    (H : EvL M A env es vs s (Shared.mk h g d t o)) (F : Fr h₀ L h m) (N : News h₀ L h news) (hz : vs.length ≤ sizeLine)
    (k : ∀ l h', Fr h₀ L h' m → News h₀ L h' ((l, listOf vs.toArray 0) :: news) → (∀ p ∈ news, p.1 < l) → Q (.ref l) (Shared.mk h' g d t o)) : wpAny M A (eval (.List es pos) env) Q E s :=
  List_ (H.use (newList_K F N k hz))
/- a def's call by its name, the arguments simple -/
theorem calNK {M : Model} {A : Around} {env : Env} {pos np : Pos} {E : Value → Shared → Prop} {K : Frag} {h₀ : Heap} {L : Addr} {m : Str → Option Value} {f : Value} {x : Str} {e : Expr} {es : List Expr} {v : Value} {vs : List Value} {s s1 s' : Shared} {Q : Value → Shared → Prop} (hf : Ev M A env (.Name x np) f s s) (X : K.In h₀) (hk : keepIn K f = true)
    (h1 : Ev M A env e v s s1) (h2 : EvL M A env es vs s1 s') (F : Fr h₀ L s'.heap m) (q : wpAny M A (call f (v :: vs)) Q E s') : wpAny M A (eval (.Call (.Name x np) (e :: es) [] pos) env) Q E s :=
  calN hf (calK X hk h1 h2 ⟨X.keeps F.keep, q⟩)
end Mine
namespace Mine
set_option linter.all false
set_option tactic.hygienic false
set_option maxRecDepth 100000
section
theorem lines_fast : True := by
  k_with "wpstep" => (first | (with_reducible (first | refine PySem.wpAny_pure ?_ | refine PySem.wpAny_bind ?_ | refine PySem.wpAny_holding ?_ | refine PySem.wpAny_standAt ?_ | refine PySem.wpAny_point ?_ | refine PySem.wpAny_rule ?_ | refine PySem.wpAny_letGo ?_ | refine PySem.wpAny_mkInt' ?_ | refine PySem.wpAny_fresh' ?_ | refine PySem.wpAny_alloc' ?_ | refine PySem.wpAny_attempt ?_ | refine PySem.wpAny_throw ?_ | refine PySem.wpAny_of_eq (by assumption) ?_ | refine PySem.wpAny_typeOf (by assumption) ?_ | refine PySem.wpAny_specialOf_val (by assumption) (by assumption) ?_ | refine PySem.wpAny_specialOf (by assumption) (by assumption) ?_ | refine PySem.wpAny_isInstance_val (by assumption) (by assumption) ?_ | refine PySem.wpAny_isInstance (by assumption) (by assumption) ?_ | refine PySem.wpAny_call ?_ | refine PySem.wpAny_runValue ?_ | refine PySem.wpAny_run ?_)) | ((with_reducible apply PySem.wpAny_load'); focus (heap_get; done)) | ((with_reducible apply PySem.wpAny_update'); focus (heap_get; done)) | ((with_reducible apply PySem.wpAny_loadPart'); focus (heap_get; done)) | ((with_reducible apply PySem.wpAny_updatePart'); focus (heap_get; done)) | ((with_reducible apply PySem.wpAny_handled_none); focus (assumption; done)) | ((with_reducible apply PySem.wpAny_ite_false); focus (rfl; done)) | ((with_reducible apply PySem.wpAny_ite_true); focus (rfl; done)) | ((with_reducible apply PySem.wpAny_ite_false); focus (simp [*]; done)) | ((with_reducible apply PySem.wpAny_ite_true); focus (simp [*]; done)) | wp_delta | with_reducible_and_instances refine PySem.wpAny_pure ?_ | with_reducible_and_instances refine PySem.wpAny_bind ?_)
  trivial
section
variable {nm q : Str} {C N : Addr} {bs bm bmB : List Value} {hdct : Bool} {sn : List Str} {sub : List Value} {ab : Bool} {col : Option Bool} {dd : Option Addr} {k0 k1 k2 k3 k5 : Option Value} {B newId initId : String}
/- the tail of an own class's order holds what its built-in base's holds -/
noncomputable def HasT (bmB bm : List Value) : Prop := ∀ (X : String) (b : Bool), bmB.contains (.type X) = b → bm.contains (.type X) = b
theorem hasT_one {a : Addr} : HasT bmB (.ref a :: bmB) := fun X b e => by rw [List.contains_cons, e]; rfl
section
variable {M : Model} {A : Around} {E : Value → Shared → Prop} {h : Heap} {g : Array GenState} {d : Drawn} {t : Nat} {os : OsState}
theorem x_check_new (F : ExcBaseFacts B newId initId bmB) (T : HasT bmB bm) {rest : List Value} {Q : Unit → Shared → Prop} (hC : h.get? C = some (excClassObj nm q C N bs bm hdct sn sub ab col dd k0 k1 k2 k3 k5 newId))
    (hq : Q () ⟨h, g, d, t, os⟩) : wpAny M A (checkBuiltinCall newId ⟨.ref C :: rest, []⟩) Q E ⟨h, g, d, t, os⟩ := by
  have hcont : (Value.ref C :: bm).contains (.type B) = true := by rw [List.contains_cons, T _ _ F.hasB, Bool.or_true]
  have hstar := F.noStar
  simp only [checkBuiltinCall, F.newKind, F.newSplit, F.newRow]
  repeat (first | refine wpAny_loadPart_at hC ?_ | (refine wpAny_isSubtype_exc hC ?_; rw [hcont]) | refine wpAny_staticBase_exc hC ?_ | refine wpAny_madeBy_exc hC ?_ | simp only [bne_self_eq_false, Bool.false_eq_true, if_false] | k_extra "wpstep")
  exact hq
theorem x_check_init (F : ExcBaseFacts B newId initId bmB) (T : HasT bmB bm) {e : Addr} {oe : Obj} {rest : List Value} {Q : Unit → Shared → Prop}
    (hC : h.get? C = some (excClassObj nm q C N bs bm hdct sn sub ab col dd k0 k1 k2 k3 k5 newId)) (he : h.get? e = some oe) (hcls : oe.cls = .ref C) (hq : Q () ⟨h, g, d, t, os⟩) :
    wpAny M A (checkBuiltinCall initId ⟨.ref e :: rest, []⟩) Q E ⟨h, g, d, t, os⟩ := by
  have hcB : (Value.ref C :: bm).contains (.type B) = true := by rw [List.contains_cons, T _ _ F.hasB, Bool.or_true]
  have hshort := F.noStar
  simp only [checkBuiltinCall, F.initKind, F.initSplit, F.initRow]
  repeat (first | (with_reducible refine wpAny_loadPart_at he ?_; rw [hcls]) | with_reducible refine wpAny_loadPart_at hC ?_ | (with_reducible refine wpAny_isSubtype_exc hC ?_; rw [hcB]) | k_extra "wpstep")
  refine wpAny_onRaise ?_
  rw [show ∀ (a b : String) (n : Nat), Bind.check ⟨.positional, "*", B, .self, [⟨"args", .varPos, false⟩]⟩ a b n (List.map (fun x => x.fst) ({ pos := Value.ref e :: rest } : Args).kw) = pure () from
    fun a b n => check_star_args _ _ _ _ _ _]
  exact wpAny_pure hq
end
section
variable {prog : Program} {w : World} {A : Around} {E : Value → Shared → Prop} {R : Result → Shared → Prop} {h : Heap} {g : Array GenState} {d : Drawn} {t : Nat} {os : OsState}
theorem x_new (F : ExcBaseFacts B newId initId bmB) (T : HasT bmB bm) {rest : List Value} (hC : h.get? C = some (excClassObj nm q C N bs bm hdct sn sub ab col dd k0 k1 k2 k3 k5 newId))
    (hq : R (.ok (.ret (.ref (h.objs.size + 1)))) ⟨(h.push { cls := .type "tuple", data := .seq rest.toArray }).push
      { cls := .ref C, data := .fields #[.ref h.objs.size, .none, .none, .none, .bool false, .none] }, g, d, t, os⟩) (hrest : rest.length ≤ sizeLine) :
    codeAny (model prog w) A (.builtin newId ⟨.ref C :: rest, []⟩) R ⟨h, g, d, t, os⟩ := by
  have hends := F.ends
  have hcB : (Value.ref C :: bm).contains (.type B) = true := by rw [List.contains_cons, T _ _ F.hasB, Bool.or_true]
  have hcA : (Value.ref C :: bm).contains (.type "AttributeError") = false := by rw [List.contains_cons, T _ _ F.noAttr]; rfl
  have hcN : (Value.ref C :: bm).contains (.type "NameError") = false := by rw [List.contains_cons, T _ _ F.noName]; rfl
  refine codeAny_builtinAt F.entry ?_
  unfold Builtin.«BaseException.__new__»
  refine PySem.wpAt_bind ?_
  show PySem.wpAt _ _ _ (stack >>= _) _ _ _
  refine PySem.wpAt_bind (PySem.wpAt_stack fun p below => PySem.wpAt_of_wpAny ?_)
  repeat k_extra "wpstep"
  refine PySem.wpAt_of_wpAny ?_
  rw [F.owner]
  repeat (first | with_reducible refine wpAny_madeHere_exc F.canon hC ?_ | with_reducible refine wpAny_loadPart_at hC ?_ | (with_reducible refine wpAny_isSubtype_exc hC ?_; first | rw [hcB] | rw [hcA] | rw [hcN]) | k_extra "wpstep")
  show R _ _
  rw [Heap.size_push]
  exact hq
/- an instance of an own exception class, before its own __init__ -/
structure MadeX (h h' : Heap) (e : Addr) (C : Addr) : Prop where
  keeps : ∀ b o, h.get? b = some o → h'.get? b = some o
  new : h.get? e = none
  above : h.objs.size ≤ e
  there : ∃ t, h'.get? e = some { cls := .ref C, data := .fields #[.ref t, .none, .none, .none, .bool false, .none] }
/- where the class finds its __init__ -/
noncomputable def FindsInit (prog : Program) (w : World) (C fI : Addr) (h : Heap) : Prop := ∀ (h' : Heap), (∀ b o, h.get? b = some o → h'.get? b = some o) → ∀ (A : Around) (E : Value → Shared → Prop) (Q : Option Value → Shared → Prop) (g : Array GenState) (d : Drawn) (t : Nat) (os : OsState),
  Q (some (.ref fI)) ⟨h', g, d, t, os⟩ → wpAny (model prog w) A (typeLookup (.ref C) "__init__") Q E ⟨h', g, d, t, os⟩
theorem x_type_call (F : ExcBaseFacts B newId initId bmB) (T : HasT bmB bm) {rest : List Value} {fI : Addr} {oI : Obj} {Q : Fin → Shared → Prop}
    (hC : h.get? C = some (excClassObj nm q C N bs bm hdct sn sub ab col dd k0 k1 k2 k3 k5 newId)) (hi : FindsInit prog w C fI h)
    (hfI : h.get? fI = some oI) (hfc : oI.cls = .type "function")
    (hq : ∀ h' e, MadeX h h' e C →
      wpAny (model prog w) A (call (.ref fI) (.ref e :: rest)) (fun r s' => r = .none ∧ Q (.done (.ret (.ref e))) s') E ⟨h', g, d, t, os⟩) (hrest : rest.length ≤ sizeLine) :
    wpAny (model prog w) A (Builtin.«type.__call__» ⟨.ref C :: rest, []⟩) Q E ⟨h, g, d, t, os⟩ := by
  repeat (first | with_reducible refine wpAny_loadPart_at hC ?_ | with_reducible refine wpAny_madeBy_exc hC ?_ | k_extra "wpstep")
  refine codeAny_call_builtin_code (Code.quiet_builtin _ F.quiet) (x_check_new F T hC ?_)
  refine x_new F T hC ?_ hrest
  show wpAny _ _ _ _ _ _
  have kk : ∀ b o, h.get? b = some o → ((h.push { cls := .type "tuple", data := .seq rest.toArray }).push { cls := .ref C, data := .fields #[.ref h.objs.size, .none, .none, .none, .bool false, .none] }).get? b = some o :=
    fun b o e => Heap.get?_push_of_some _ (Heap.get?_push_of_some _ e)
  have hC₁ := kk _ _ hC
  have hfI₁ := kk _ _ hfI
  have hget : ((h.push { cls := .type "tuple", data := .seq rest.toArray }).push
      { cls := .ref C, data := .fields #[.ref h.objs.size, .none, .none, .none, .bool false, .none] }).get? (h.objs.size + 1) = some
      { cls := .ref C, data := .fields #[.ref h.objs.size, .none, .none, .none, .bool false, .none] } := by heap_get
  have hcC : (Value.ref C :: bm).contains (.ref C) = true := by simp
  unfold isInstance
  repeat (first | with_reducible refine wpAny_loadPart_at hget ?_ | (with_reducible refine wpAny_isSubtype_exc hC₁ ?_; rw [hcC]) | k_extra "wpstep")
  show wpAny _ _ (typeLookup (.ref C) _) _ _ _
  refine hi _ kk _ _ _ _ _ _ _ ?_
  refine wpAny_holding (wpAny_bind ?_)
  unfold bindSpecial
  refine wpAny_bind (wpAny_typeOf (T := "function") ⟨_, hfI₁, hfc⟩ ?_)
  rw [if_pos (by decide)]
  refine wpAny_pure (wpAny_bind (wpAny_mono (hq _ (h.objs.size + 1) ⟨kk, Heap.get?_none_of_le (Nat.le_succ _), Nat.le_succ _, h.objs.size, hget⟩) (fun r s' hr => ?_) fun _ _ x => x))
  obtain ⟨rfl, hQ⟩ := hr
  repeat k_extra "wpstep"
  exact hQ
theorem x_call (F : ExcBaseFacts B newId initId bmB) (T : HasT bmB bm) {rest : List Value} {fI : Addr} {oI : Obj} {Q : Value → Shared → Prop}
    (hC : h.get? C = some (excClassObj nm q C N bs bm hdct sn sub ab col dd k0 k1 k2 k3 k5 newId)) (hi : FindsInit prog w C fI h)
    (hfI : h.get? fI = some oI) (hfc : oI.cls = .type "function")
    (hq : ∀ h' e, MadeX h h' e C →
      wpAny (model prog w) (A.under (.builtin "type.__call__" ⟨.ref C :: rest, []⟩)) (call (.ref fI) (.ref e :: rest)) (fun r s' => r = .none ∧ Q (.ref e) s') E ⟨h', g, d, t, os⟩) (hrest : rest.length ≤ sizeLine) :
    wpAny (model prog w) A (call (.ref C) rest) Q E ⟨h, g, d, t, os⟩ := by
  have f1 := tc_lookup
  have f2 := tc_bind (.ref C)
  have hT : (⟨h, g, d, t, os⟩ : Shared).TypeIs (.ref C) "type" := ⟨_, hC, rfl⟩
  refine wpAny_call (codeAny_of_tree ?_)
  show wpAny _ _ (callAny (.ref C) _) _ _ _
  repeat (any_goals (first | assumption | with_reducible refine wpAny_loadPart_at hC ?_ | k_extra "wpstep"))
  refine ⟨rfl, ?_⟩
  refine codeAny_call_builtin_at (Code.quiet_builtin _ (by decide +kernel)) entry_typeCall (wpAny_check_type_call_sub hC (x_type_call (hrest := hrest) F T hC hi hfI hfc fun h' e hm => ?_))
  exact hq h' e hm
end
end
end
section
section
open PySem.Spec PyProof.V PySem.Builtin PySem.Builtin.ObjectAttr
noncomputable def tyIs (x : Value) (n : String) : Bool := match x with | .type a => a == n | _ => false
theorem tyIs_eq {x : Value} {n : String} (h : tyIs x n = true) : x = .type n := by
  cases x <;> first | exact absurd h Bool.false_ne_true | exact congrArg _ (eq_of_beq h)
noncomputable def refIs (x : Value) : Bool := match x with | .ref _ => true | _ => false
theorem refIs_eq {x : Value} (h : refIs x = true) : ∃ c, x = .ref c := by
  cases x <;> first | exact absurd h Bool.false_ne_true | exact ⟨_, rfl⟩
noncomputable def twoAre (l : List Value) : Bool := match l with | [] => false | a :: l => tyIs a "BaseException" && (match l with | [] => false | b :: l => tyIs b "object" && l.isEmpty)
theorem twoAre_eq {l : List Value} (h : twoAre l = true) : l = [.type "BaseException", .type "object"] := by
  cases l with
  | nil => cases h
  | cons a l =>
    have h1 := (Bool.and_eq_true _ _).mp h
    rw [tyIs_eq h1.1]
    cases l with
    | nil => exact absurd h1.2 Bool.false_ne_true
    | cons b l =>
      have h2 := (Bool.and_eq_true _ _).mp h1.2
      rw [tyIs_eq h2.1]
      cases l with
      | nil => rfl
      | cons c l => exact absurd h2.2 Bool.false_ne_true
noncomputable def exTail : List Value → Bool
  | [] => false
  | x :: r => (refIs x && exTail r) || (tyIs x "Exception" && twoAre r)
theorem refuse_base (self : Value) : refuseLoop self "__setattr__" [.type "Exception", .type "BaseException", .type "object"] = pure () := by kernel_rfl
theorem exTail_cases {l : List Value} (e : exTail l = true) : (l = [.type "Exception", .type "BaseException", .type "object"]) ∨ ∃ c r, l = .ref c :: r ∧ exTail r = true := by
  cases l with
  | nil => cases e
  | cons x r =>
    rcases (Bool.or_eq_true _ _).mp e with h | h
    · obtain ⟨h1, h2⟩ := (Bool.and_eq_true _ _).mp h
      obtain ⟨c, rfl⟩ := refIs_eq h1
      exact .inr ⟨c, r, rfl, h2⟩
    · obtain ⟨h1, h2⟩ := (Bool.and_eq_true _ _).mp h
      rw [tyIs_eq h1, twoAre_eq h2]
      exact .inl rfl
theorem refuse_ex (self : Value) : ∀ {l : List Value}, exTail l = true → refuseLoop self "__setattr__" l = pure () := by
  intro l
  induction l with
  | nil => intro e; cases e
  | cons x l ih =>
    intro e
    rcases exTail_cases e with q | ⟨c, r, q, er⟩
    · rw [q]; exact refuse_base self
    · cases q; rw [refuseLoop_ref]; exact ih er
theorem ex_has {X : String} {b : Bool} (hb : ([.type "Exception", .type "BaseException", .type "object"] : List Value).contains (.type X) = b) : ∀ {l : List Value}, exTail l = true → l.contains (.type X) = b := by
  intro l
  induction l with
  | nil => intro e; cases e
  | cons x l ih =>
    intro e
    rcases exTail_cases e with q | ⟨c, r, q, er⟩
    · rw [q]; exact hb
    · cases q; rw [List.contains_cons, ih er]; rfl
noncomputable def exOver (K : Frag) (C : Addr) : Bool := (clsIn K C).any fun cd => exTail cd.mro
theorem exOver_of {K : Frag} {C : Addr} {c : Value} {d : Option Addr} {cd : ClassData} {sl : Array (Option Value)} (h : K.lookup C = some ⟨c, d, .cls cd, sl⟩) (e : exTail cd.mro = true) : exOver K C = true := by
  unfold exOver clsIn
  rw [h]
  exact e
variable {prog : Program} {w : World} {A : Around} {E : Value → Shared → Prop} {R : Result → Shared → Prop} {s : Shared} {K : Frag} {x C L : Addr} {h₀ : Heap} {m : Str → Option Value} {news rest : List (Addr × Obj)} {name : Str} {v : Value}
theorem osaX_open {ox : Obj} {od : Option Obj} {tk : Tok} {r : Option Value} (X : K.In s.heap) (I : InstAt s.heap x ox C od) (hp : exOver K C = true) (ht : takerIn K C name = some r)
    (h : ∀ b, wpAny (model prog w) A.in1 (match r with | some a => setByDescriptor a (.ref x) v | none => storeInOwnDict (.ref x) (.ref C) (.str name tk) name v b)
      (fun fin s' => match fin with | .done f => R (.ok f) s' | .again c' => c'.quiet = true ∧ codeAny (model prog w) A c' R s') (fun e s' => R (.error e) s') s) :
    codeAny (model prog w) A (.call (.builtin "object.__setattr__") ⟨[.ref x, .str name tk, v], []⟩) R s := by
  have SF := PySem.F.store_object
  obtain ⟨cd, hc, ho⟩ := any_some hp
  have ne : cd.mro.isEmpty = false := by cases q : cd.mro with | nil => rw [q] at ho; cases ho | cons _ _ => rfl
  have sub : Looks (model prog w) s.heap (isInstance (.ref x) (.type "object")) true := I.type.andThen (looks_mroIn X (by unfold mroIn; rw [hc, Option.bind_some, if_neg (by rw [ne]; decide), ex_has (X := "object") (b := true) (by decide) ho]))
  refine codeAny_call_builtin SF.slot.plain SF.entry (@check_slot (model prog w) _ _ s "object.__setattr__" "object" "__setattr__" (.ref x) [.str name tk, v] [] _ SF.kind SF.split sub (SF.args (.ref x) (.str name tk) v) ?_)
  obtain ⟨attr, ha, hr⟩ := Option.bind_eq_some_iff.mp ht
  have hm : Looks (model prog w) s.heap (mroOf (.ref C)) cd.mro := (looks_clsIn X hc).andThen .now
  have L3 : Looks (model prog w) s.heap (storeTaker? attr) r := by
    cases attr with
    | none => cases hr; exact .now
    | some a =>
      obtain ⟨b, hb, rfl⟩ := Option.map_eq_some_iff.mp hr
      refine (looks_takesIn X hb).andThen ?_
      cases b <;> exact .now
  rw [osa_eq, refuse_eq]
  refine wpAny_bind (wpAny_bind (I.type.here (wpAny_bind (hm.here ?_))))
  rw [refuse_ex _ ho]
  refine wpAny_pure (wpAny_bind (I.type.here (wpAny_bind ((looks_findIn X ha).here (wpAny_bind (L3.here ?_))))))
  exact h _
/- an exception with an own dict -/
noncomputable abbrev excObj (C : Addr) (d : Option Addr) (t : Value) : Obj := { cls := .ref C, dict := d, data := .fields #[t, .none, .none, .none, .bool false, .none] }
theorem exI0 {h : Heap} {t : Value} (e : h.get? x = some (excObj C none t)) : InstAt h x (excObj C none t) C none := ⟨e, rfl, rfl, trivial⟩
theorem exI1 {h : Heap} {t : Value} {d : Addr} {o : Obj} (e : h.get? x = some (excObj C (some d) t)) (hd : h.get? d = some o) : InstAt h x (excObj C (some d) t) C (some o) := ⟨e, rfl, rfl, hd⟩
/- the first store into an exception's own dict -/
theorem exset_first {t : Value} {Q : Unit → Shared → Prop} (F : Fr h₀ L s.heap m) (X₀ : K.In h₀) (N : News h₀ L s.heap ((x, excObj C none t) :: rest)) (hne : ∀ p ∈ rest, p.1 ≠ x)
    (hs : findIn K (.ref C) "__setattr__" = some (some (.builtin "object.__setattr__"))) (hp : exOver K C = true) (ht : takerIn K C name = some none) (hh : hasDictIn K C = true)
    (h : ∀ h' d o, Fr h₀ L h' m → News h₀ L h' ((d, o) :: (x, excObj C (some d) t) :: rest) → (∀ p ∈ (x, excObj C none t) :: rest, p.1 < d) → (∃ e : DictEntry, e.key = .str name (s.toks + 1) ∧ o = dictOf [e] 1) → Q () { s with heap := h', toks := s.toks + 2 }) :
    wpAny (model prog w) A (setAttr (.ref x) name v) Q E s := by
  have hx := (N (x, excObj C none t) (.head _)).1
  have X := X₀.keeps F.keep
  refine set_plain X (exI0 hx) hs (osaX_open (s := { s with toks := s.toks + 1 }) X (exI0 hx) hp ht fun b => ?_)
  obtain ⟨cd, hc, hd'⟩ := any_some hh
  refine wpAny_bind (wpAny_pure (wpAny_bind (wpAny_bind (wpAny_loadPart hx (wpAny_bind (looks_clsIn X hc _ _ _ _ (fun _ _ e => e) ?_))))))
  rw [hd']
  refine wpAny_bind (wpAny_alloc ?_)
  have lt : ∀ q ∈ (x, excObj C none t) :: rest, q.1 < s.heap.objs.size := fun q hq => Heap.lt_size (N q hq).1
  have F₁ : Fr h₀ L (s.heap.push { cls := .type "dict", data := .dict #[] }) m := F.push _
  have N₁ : News h₀ L (s.heap.push { cls := .type "dict", data := .dict #[] }) ((s.heap.objs.size, { cls := .type "dict", data := .dict #[] }) :: (x, excObj C none t) :: rest) := fun q hq => by
    rcases List.mem_cons.mp hq with rfl | hq
    · exact ⟨Heap.get?_push_size _ rfl, Nat.ne_of_gt F.ns.lt, none_at_size F⟩
    · exact ⟨Heap.get?_push_of_some _ (N q hq).1, (N q hq).2⟩
  obtain ⟨F₂, N₂⟩ := news_upd (d := x) (pre := [(s.heap.objs.size, { cls := .type "dict", data := .dict #[] })]) (post := rest) (o := excObj C none t) (o' := excObj C (some s.heap.objs.size) t) (f := fun o => { o with dict := some s.heap.objs.size }) F₁ N₁
    (fun q hq => by rw [List.mem_singleton.mp hq]; exact Nat.ne_of_gt (lt _ (.head _))) hne rfl rfl
  refine wpAny_bind (wpAny_update (Heap.get?_push_of_some _ hx) ?_)
  refine wpAny_pure (a := some s.heap.objs.size) (wpAny_bind (wpAny_pure (wpAny_bind ?_)))
  unfold nsSet
  refine wpAny_bind (wpAny_bind (wpAny_askSetting (wpAny_pure (wpAny_bind (wpAny_mkText (wpAny_bind (wpAny_loadPart (N₂ (s.heap.objs.size, _) (.head _)).1 ?_)))))))
  dsimp only
  have c : (!(#[] : Array DictEntry).any (·.key.isStr name) && (#[] : Array DictEntry).any (·.refKey)) = false := by simp
  rw [aRefKeyMayBeTheName_at, c]
  obtain ⟨F₃, N₃⟩ := news_upd (d := s.heap.objs.size) (pre := []) (post := (x, excObj C (some s.heap.objs.size) t) :: rest) (f := Obj.putName name (PyData.keyHash w.params name) (.str name (s.toks + 1)) v) (o' := dictOf [{ hash := PyData.keyHash w.params name, key := .str name (s.toks + 1), val := v }] 1) F₂ N₂ (fun q hq => nomatch hq)
    (fun q hq => Nat.ne_of_lt (by
      rcases List.mem_cons.mp hq with rfl | hq
      · exact lt (x, excObj C none t) (.head _)
      · exact lt q (.tail _ hq))) (putName_dict (es := []) ..) rfl
  refine wpAny_updatePart (N₂ (s.heap.objs.size, _) (.head _)).1 ?_
  refine wpAny_bind (wpAny_lookBehind (N₃ (s.heap.objs.size, _) (.head _)).1 (by exact pastItsLine_dict (by rw [sizeLine_eq]; exact Nat.le_of_ble_eq_true rfl)) ?_)
  exact wpAny_pure (h _ _ _ F₃ N₃ lt ⟨_, rfl, rfl⟩)
set_option tactic.hygienic true in
/- a later store into it -/
theorem exset_again {t : Value} {d : Addr} {es es' : List DictEntry} {n n' : Nat} {Q : Unit → Shared → Prop} (F : Fr h₀ L s.heap m) (X₀ : K.In h₀) (N : News h₀ L s.heap ((d, dictOf es n) :: (x, excObj C (some d) t) :: rest)) (hd : @Ne Nat x d) (hne : ∀ p ∈ rest, p.1 ≠ d)
    (hs : findIn K (.ref C) "__setattr__" = some (some (.builtin "object.__setattr__"))) (hp : exOver K C = true) (ht : takerIn K C name = some none) (hh : hasDictIn K C = true) (hl : (getL name es).isSome = true)
    (e : (putL name (PyData.keyHash w.params name) (.str name (s.toks + 1)) v es, putN name es n) = (es', n')) (hz : es'.length ≤ 1000)
    (h : ∀ h', Fr h₀ L h' m → News h₀ L h' ((d, dictOf es' n') :: (x, excObj C (some d) t) :: rest) → Q () { s with heap := h', toks := s.toks + 2 }) :
    wpAny (model prog w) A (setAttr (.ref x) name v) Q E s := by
  obtain ⟨e1, e2⟩ := Prod.mk.inj e
  have hx := (N (x, excObj C (some d) t) (.tail _ (.head _))).1
  have hdd := (N (d, dictOf es n) (.head _)).1
  have X := X₀.keeps F.keep
  refine set_plain X (exI1 hx hdd) hs (osaX_open (s := { s with toks := s.toks + 1 }) X (exI1 hx hdd) hp ht fun b => ?_)
  obtain ⟨cd, hc, hd'⟩ := any_some hh
  obtain ⟨U1, U2⟩ := news_upd (d := d) (pre := []) (post := (x, excObj C (some d) t) :: rest) (f := Obj.putName name (PyData.keyHash w.params name) (.str name (s.toks + 1)) v) (o' := dictOf es' n') F N (fun q hq => nomatch hq)
    (fun q hq => by
      rcases List.mem_cons.mp hq with rfl | hq
      · exact hd
      · exact hne q hq) (by rw [putName_dict, e1, e2]) rfl
  refine wpAny_bind (wpAny_pure (wpAny_bind (wpAny_bind (wpAny_loadPart hx (wpAny_bind (looks_clsIn X hc _ _ _ _ (fun _ _ e => e) ?_))))))
  rw [hd']
  refine wpAny_pure (a := some d) (wpAny_bind (wpAny_pure (wpAny_bind ?_)))
  unfold nsSet
  refine wpAny_bind (wpAny_bind (wpAny_askSetting (wpAny_pure (wpAny_bind (wpAny_mkText (wpAny_bind (wpAny_loadPart hdd ?_)))))))
  dsimp only
  have c : (!es.toArray.any (·.key.isStr name) && es.toArray.any (·.refKey)) = false := by
    unfold getL at hl
    rw [← Array.any_toList, ← Array.any_toList]
    split at hl
    · rename_i en he
      rw [List.any_eq_true.mpr ⟨en, List.mem_of_find?_eq_some he, List.find?_some he⟩]; rfl
    · split at hl
      · cases hl
      · rename_i z; rw [Bool.not_eq_true] at z; rw [z, Bool.and_false]
  rw [aRefKeyMayBeTheName_at, c]
  refine wpAny_updatePart hdd ?_
  refine wpAny_bind (wpAny_lookBehind (U2 (d, _) (.head _)).1 (by exact pastItsLine_dict (by rw [List.size_toArray, sizeLine_eq]; lia)) ?_)
  exact wpAny_pure (h _ U1 U2)
theorem getL_other {en : DictEntry} {k : Tok} {a b : Str} (h : en.key = .str a k) (hn : (a == b) = false) : (getL b [en]).isSome = true := by
  obtain ⟨hh, key, val⟩ := en
  dsimp only at h
  subst h
  have h1 : (Value.str a k).isStr b = false := hn
  simp [getL, List.find?, h1, DictEntry.refKey]
theorem put_small {name : Str} {hash : Int} {key v : Value} {en : DictEntry} : (putL name hash key v [en]).length ≤ 1000 := by
  unfold putL
  split <;> simp [putL]
theorem ty_exc : typeOf (.type "Exception") = pure (.type "type") := by kernel_rfl
theorem stub_exc : Manifest.isStub "Exception" = false := by decide +kernel
/- Exception.__init__ upon such an instance -/
theorem ex_init {t : Addr} {d : Option Addr} {Q : Value → Shared → Prop} {args : List Value} (F : Fr h₀ L s.heap m) (X₀ : K.In h₀) (N : News h₀ L s.heap ((x, excObj C d (.ref t)) :: rest)) (hne : ∀ p ∈ rest, p.1 ≠ x)
    {nm q : Str} {N' : Addr} {bs bm : List Value} {hdct : Bool} {sn : List Str} {sub : List Value} {ab : Bool} {col : Option Bool} {dd : Option Addr} {k0 k1 k2 k3 k5 : Option Value}
    (hC : K.lookup C = some (excClassObj nm q C N' bs bm hdct sn sub ab col dd k0 k1 k2 k3 k5 "Exception.__new__")) (T : HasT [.type "Exception", .type "BaseException", .type "object"] bm) (hz : args.length ≤ sizeLine)
    (h : ∀ h' t', Fr h₀ L h' m → News h₀ L h' ((x, excObj C d (.ref t')) :: rest) → Q .none { s with heap := h' }) :
    wpAny (model prog w) A (call (.builtin "Exception.__init__") (.ref x :: args)) Q E s := by
  have X := X₀.keeps F.keep
  have hx := (N (x, excObj C d (.ref t)) (.head _)).1
  have FE := PySem.F.excBase_Exception
  obtain ⟨hp, g, dr, tk, os⟩ := s
  refine wpAny_call (codeAny_call_builtin FE.init.plain FE.initEntry (x_check_init FE T (X _ _ hC) hx rfl ?_))
  wp_walk
  have F₁ : Fr h₀ L (hp.push { cls := .type "tuple", data := .seq args.toArray }) m := F.push _
  have N₁ : News h₀ L (hp.push { cls := .type "tuple", data := .seq args.toArray }) ((x, excObj C d (.ref t)) :: rest) := fun q hq => ⟨Heap.get?_push_of_some _ (N q hq).1, (N q hq).2⟩
  obtain ⟨F₂, N₂⟩ := news_upd (d := x) (pre := []) (post := rest) (f := Obj.mapFields fun vs => vs.setIfInBounds 0 (Value.ref hp.objs.size)) (o' := excObj C d (.ref hp.objs.size)) F₁ N₁ (fun q hq => nomatch hq) hne rfl rfl
  exact h _ _ F₂ N₂
end
end
section
section
variable {A : Around} {E : Value → Shared → Prop} {s : Shared} {env : Env}
/- an instance of an own exception class that may be raised -/
inductive RaisableV (E : Value → Shared → Prop) (v : Value) (s₁ : Shared) : Prop
  | mk : ∀ (a C : Addr) (d : Option Addr) (t : Value) (nm q : Str) (N : Addr) (bs bm : List Value) (hdct : Bool) (sn : List Str) (sub : List Value) (ab : Bool) (col : Option Bool) (dd : Option Addr) (k0 k1 k2 k3 k5 : Option Value) (newId : String), (v = .ref a) → (s₁.heap.get? a = some (excObj C d t)) → (s₁.heap.get? C = some (excClassObj nm q C N bs bm hdct sn sub ab col dd k0 k1 k2 k3 k5 newId)) → (bm.contains (.type "BaseException") = true) → (E (.ref a) s₁) → RaisableV E v s₁
theorem Raise_V {prog : Program} {w : World} {e : Expr} {pos : Pos} {Q : Flow → Shared → Prop} (hh : A.handled = none)
    (h : wpAny (model prog w) A (eval e env) (RaisableV E) E s) : wpAny (model prog w) A (exec (.Raise (some e) none pos) env) Q E s := by
  show wpAny _ A (do standAt pos; raiseStmt env (some (do let v ← eval e env; standAt pos; pure v)) none) Q E s
  refine wpAny_bind (wpAny_standAt ?_)
  unfold raiseStmt
  dsimp only
  refine wpAny_bind (wpAny_bind (wpAny_mono h (fun v s₁ h₁ => wpAny_bind (wpAny_standAt (wpAny_pure ?_))) fun _ _ x => x))
  obtain ⟨a, C, d, t, nm, q, N, bs, bm, hdct, sn, sub, ab, col, dd, k0, k1, k2, k3, k5, newId, rfl, ha, hC, hb, hE⟩ := h₁
  have hcB : (Value.ref C :: bm).contains (.type "BaseException") = true := by rw [List.contains_cons, hb, Bool.or_true]
  obtain ⟨hp, g, dr, tk, os⟩ := s₁
  repeat (first | with_reducible refine wpAny_loadPart_at ha ?_ | with_reducible refine wpAny_loadPart_at hC ?_ | (with_reducible refine wpAny_isSubtype_exc hC ?_; rw [hcB]) | wp_step)
  exact wpAny_raiseNew_none hh hE
end
section
variable {A₀ : Around} {E : Value → Shared → Prop} {s' : Shared} {base g g₀ g₂ G : Heap} {outer : List Env} {L e C : Addr} {m : Str → Option Value} {env : Env} {news : List (Addr × Obj)}
/- what flies: an exception of an own class; the ground G up to the frames' marks -/
noncomputable def FliesV (base G : Heap) (l : List Env) (e : Addr) (cls : Value) (news : List (Addr × Obj)) (h : Heap) : Prop := RaisedSN base G l e cls news h
theorem memX {env : Env} {L b : Addr} {outer : List Env} (hf : env.frame = some L) (hm : b ∈ (env :: outer).filterMap (·.frame)) : b = L ∨ b ∈ outer.filterMap (·.frame) := by
  obtain ⟨env', he, hf'⟩ := List.mem_filterMap.mp hm
  rcases List.mem_cons.mp he with rfl | he
  · exact .inl (Option.some.inj (hf.symm.trans hf')).symm
  · exact .inr (List.mem_filterMap.mpr ⟨env', he, hf'⟩)
/- a raise leaves the frame where it was made -/
theorem leave_newV {M : Model} {Q : Unit → Shared → Prop} {d : Option Addr} {t : Value} (K : Below A₀ base outer g) (F : Fr g L s'.heap m) (N : News g L s'.heap ((e, excObj C d t) :: news)) (hne : ∀ p ∈ news, p.1 ≠ e) (hf : env.frame = some L) (hke : env.scope.kind = .function)
    (hQ : ∀ h', FliesV base g outer e (.ref C) news h' → g.UpToSlots h' → Q () { s' with heap := h' }) : wpAny M (A₀.deeper env) (leaving env (.ref e)) Q E s' := by
  -- the heap without the exception
  have he := N (e, excObj C d t) (.head _)
  have K' := pushX K F hf hke
  have hin : ∀ env' ∈ (env :: outer), ∀ b, env'.frame = some b → b ∈ (env :: outer).filterMap (·.frame) := fun env' he b hb => List.mem_filterMap.mpr ⟨env', he, hb⟩
  have eL : e ≠ L := he.2.1
  have nf : ∀ b ∈ (env :: outer).filterMap (·.frame), b ≠ e := fun b hm z => by
    rcases memX hf hm with q | q
    · exact eL (z ▸ q)
    · obtain ⟨_, o, ho, _⟩ := K.frames.mem q
      rw [z, he.2.2] at ho; cases ho
  have hl : ∀ q ∈ news, (hideAll (hideAll s'.heap [e]) ((env :: outer).filterMap (·.frame))).get? q.1 = some q.2 ∧ g.get? q.1 = none ∧ base.get? q.1 = none := fun q hq => by
    have z := N q (.tail _ hq)
    refine ⟨hideAll_get _ (hideAll_get _ z.1 fun hm => hne q hq (List.mem_singleton.mp hm)) fun hm => ?_, z.2.2, fresh_of_stays K.stays z.2.2⟩
    rcases memX hf hm with q' | q'
    · exact z.2.1 q'
    · obtain ⟨_, o, ho, _⟩ := K.frames.mem q'
      rw [z.2.2] at ho; cases ho
  have sub : ∀ b o, (hideAll (hideAll s'.heap [e]) ((env :: outer).filterMap (·.frame))).get? b = some o → s'.heap.get? b = some o := fun b o q => of_hideAll _ (of_hideAll _ q)
  have st : base.StaysIn (hideAll (hideAll s'.heap [e]) ((env :: outer).filterMap (·.frame))) := fun b o q => hideAll_get _ (hideAll_get _ (K'.stays b o q) fun hm => by
    have z := K.stays b o q
    rw [List.mem_singleton.mp hm, he.2.2] at z; cases z) fun hm => by
    rw [(K'.frames.mem hm).1] at q; cases q
  have sg : ∀ b o, g.get? b = some o → b ∉ outer.filterMap (·.frame) → (hideAll (hideAll s'.heap [e]) ((env :: outer).filterMap (·.frame))).get? b = some o := fun b o q nm => hideAll_get _ (hideAll_get _ (F.keep b o q) fun hm => by
    rw [List.mem_singleton.mp hm, he.2.2] at q; cases q) fun hm => by
    rcases memX hf hm with z | z
    · rw [z, kts_self F] at q; cases q
    · exact nm z
  have hen : (hideAll (hideAll s'.heap [e]) ((env :: outer).filterMap (·.frame))).get? e = none := by
    cases q : (hideAll (hideAll s'.heap [e]) ((env :: outer).filterMap (·.frame))).get? e with
    | none => rfl
    | some o =>
      have := of_hideAll _ q
      rw [hideAll_none _ (List.mem_singleton.mpr rfl)] at this; cases this
  have ff : s'.heap.FunFrames (hideAll (hideAll s'.heap [e]) ((env :: outer).filterMap (·.frame))) (env :: outer) := by
    have z : (hideAll s'.heap [e]).FunFrames base (env :: outer) := K'.frames.of_keeps fun b o hb hm => ⟨o, hideAll_get _ hb fun q => by
      rw [List.mem_singleton.mp q, he.1] at hb
      cases hb
      exact hm _ rfl, rfl⟩
    exact (funFrames_hide z hin).of_keeps fun b o hb _ => ⟨o, of_hideAll _ hb, rfl⟩
  refine wpAny_leaving_firstW (a0 := t) K'.stack ff hf he.1 sub hen rfl rfl rfl fun h' hL => ?_
  obtain ⟨k1, ⟨_, _, k2⟩, k3, k4⟩ := hL
  exact hQ h' ⟨_, t, st, sg, hl, k1, hen, k2, k3⟩ ((Heap.UpToSlots.of_keeps F.keep).trans k4)
/- it leaves a frame that it passes -/
theorem leave_onV {M : Model} {Q : Unit → Shared → Prop} {cls : Value} (K : Below A₀ base outer g) (F : Fr g L g₂ m) (hf : env.frame = some L) (R : FliesV base g₂ (env :: outer) e cls news s'.heap) (hsm : g₂.UpToSlots s'.heap)
    (hQ : ∀ h', FliesV base g outer e cls news h' → g.UpToSlots h' → Q () { s' with heap := h' }) :
    wpAny M (A₀.deeper env) (leaving env (.ref e)) Q E s' := by
  obtain ⟨B, a0, hB, hBG, hl, hfl⟩ := R
  exact wpAny_leaves_onW (Around.frames_deeper K.stack) hf hfl fun h' x1 x2 =>
    hQ h' ⟨B, a0, hB, fun b o q nm => hBG b o (F.keep b o q) (fun hm => by
      rcases memX hf hm with z | z
      · rw [z, kts_self F] at q; cases q
      · exact nm z), fun q hq => ⟨(hl q hq).1, kts_none F.keep (hl q hq).2.1, (hl q hq).2.2⟩, x1⟩ ((Heap.UpToSlots.of_keeps F.keep).trans (hsm.trans x2))
end
theorem raisable_ {K : Frag} {E : Value → Shared → Prop} {h₀ : Heap} {L a C : Addr} {m : Str → Option Value} {news : List (Addr × Obj)} {s₁ : Shared} {d : Option Addr} {t : Value} {nm q : Str} {N' : Addr} {bs bm : List Value} {hdct : Bool} {sn : List Str} {sub : List Value} {ab : Bool} {col : Option Bool} {dd : Option Addr} {k0 k1 k2 k3 k5 : Option Value} {newId : String}
    (N : News h₀ L s₁.heap news) (hm : (a, excObj C d t) ∈ news) (X : K.In h₀) (F : Fr h₀ L s₁.heap m) (hC : K.lookup C = some (excClassObj nm q C N' bs bm hdct sn sub ab col dd k0 k1 k2 k3 k5 newId)) (hb : bm.contains (.type "BaseException") = true) (h : E (.ref a) s₁) : RaisableV E (.ref a) s₁ :=
  ⟨a, C, d, t, nm, q, N', bs, bm, hdct, sn, sub, ab, col, dd, k0, k1, k2, k3, k5, newId, rfl, N.get hm, F.keep _ _ (X _ _ hC), hb, h⟩
theorem News.swap2 {h₀ h : Heap} {L : Addr} {p q : Addr × Obj} {r : List (Addr × Obj)} (N : News h₀ L h (p :: q :: r)) : News h₀ L h (q :: p :: r) := fun x hx => N x (by
  rcases List.mem_cons.mp hx with rfl | hx
  · exact .tail _ (.head _)
  · rcases List.mem_cons.mp hx with rfl | hx
    · exact .head _
    · exact .tail _ (.tail _ hx))
end
section
section
variable {prog : Program} {w : World} {A₀ : Around} {E : Value → Shared → Prop} {s' : Shared} {base g g₀ G : Heap} {outer : List Env} {L a e C : Addr} {m : Str → Option Value} {name : Str} {scope : Scope} {cd : Value}
  {b₀ : Stmt} {suite : List Stmt} {pos np : Pos} {rest : List ExceptHandler} {Q : Flow → Shared → Prop} {news : List (Addr × Obj)} {KF : Frag}
  {p : Program} {loose : List Str} {mean : ExcName → Option Value} {mg mb : Str → Option Value} {x : Str}
/- an exception of an own class, caught by the class that a local name holds -/
theorem caught_V (R : FliesV base G (envOf name scope L a cd :: outer) e (.ref C) news s'.heap) (F : Fr g L G m) (K : Below A₀ base outer g) (hsm : G.UpToSlots s'.heap) (XB : KF.In base) (TB : Top p loose mean mg mb base)
    (T0 : KtsTurn (outer.filterMap (·.frame)) g₀ g) (hm : m x = some (.ref C)) (q : ktsIn KF C "BaseException" = true)
    (k : ∀ h' g', KtsTurn (outer.filterMap (·.frame)) g₀ g' → Fr g' L h' m → News g' L h' news → Below A₀ base outer g' → KF.In g' → Top p loose mean mg mb g' →
      wpAny (model prog w) ((A₀.deeper (envOf name scope L a cd)).mark (some (.ref e))) (execs (b₀ :: suite) (envOf name scope L a cd)) Q E { s' with heap := h' })
    (hk : scope.kind = .function := by rfl) (hx : (envX name scope L a cd []).kindOf x = some .local := by rfl) (hd : (x == ("__debug__" : Str)) = false := by decide)
    (hE : PassesOwnAt (model prog w) ((A₀.deeper (envOf name scope L a cd)).mark (some (.ref e))) (A₀.deeper (envOf name scope L a cd)) (envOf name scope L a cd) E := by passes_own) :
    wpAny (model prog w) (A₀.deeper (envOf name scope L a cd)) (noteFrame (.ref e) (envOf name scope L a cd))
      (fun _ s₂ => wpAny (model prog w) (A₀.deeper (envOf name scope L a cd)) (setFlight (.ref e) none) (fun _ s₃ =>
        wpAny (model prog w) (A₀.deeper (envOf name scope L a cd)) (handleBy (.ref e) (envOf name scope L a cd) (.ExceptHandler (some (.Name x np)) none (b₀ :: suite) pos :: rest)) Q E s₃) E s₂) E s' := by
  obtain ⟨B, a0, hB, hBG, hl, hfl⟩ := R
  have hL : B.get? L = none := by
    obtain ⟨_, ⟨L', _, hf, hn', _⟩, _⟩ := hfl.2.2.1
    obtain rfl : L = L' := Option.some.inj hf
    exact hn'
  refine wpAny_looks_onW (Around.frames_deeper K.stack) rfl hfl fun h₄ hheld₄ hsm₄ => ?_
  refine wpAny_landsW hheld₄ fun h₅ hheld hsm₅' => ?_
  have hsm₅ := hsm₄.trans hsm₅'
  obtain ⟨g₅, T₅, F₅, K₅⟩ := kts_ground K F hBG hheld.1 (hsm.trans hsm₅)
  have X₅ : KF.In g₅ := XB.keeps K₅.stays
  obtain ⟨ob, hob, hobc⟩ := hheld.there
  obtain ⟨nm, q', N, bs, bm, hdct, sn, sub, ab, col, dd, k0, k1, k2, k3, k5, newId, hC, hbase, hbT⟩ := kts_cls X₅ q
  have hC₅ := F₅.keep _ _ hC
  refine wpAny_handleBy_cons (codeAny_handlers_test (nameX_L (cl := []) F₅ hm ?_ hk hx hd)) (by intro q; cases q)
  refine wpAny_excMatches_sub_self hC₅ hob hobc hbase (codeAny_handlers_suite ?_)
  refine lands_againW hheld fun h₆ hfl₆ hsm₆ => ?_
  obtain ⟨g₆, T₆, F₆, K₆⟩ := kts_ground K F hBG hfl₆.1 ((hsm.trans hsm₅).trans hsm₆)
  have Nl : News g₆ L h₆ news := fun q hq => ⟨hfl₆.1 _ _ (hl q hq).1, (fun z => by have := (hl q hq).1; rw [z, hL] at this; cases this), T₆.none_ _ (kts_none F.keep (hl q hq).2.1)⟩
  exact wpAny_passesOwnAt hE (k h₆ g₆ (T0.trans T₆) F₆ Nl K₆ (XB.keeps K₆.stays) (TB.keeps K₆.stays))
end
end
theorem filled_top : (PySem.Challenge.rw_pc0377_01, Mine.hd.heap_39) = (PySem.Challenge.rw_pc0377_01, Mine.hd.heap_39) := by
  k_fill
  rfl
local macro_rules | `(tactic| k_with "reset" => $t:tacticSeq) => `(tactic| ((k_with_none); (k_with "S" => k_with "reset" => $t); ($t)))
theorem lines_store : True := by
  k_with "S" =>
    k_with "reset" =>
      k_with "ld:pre" =>
        k_with "m:units_room" => ktr_units
        k_with "m:k_room" => ktr_room
        k_with "m:k_units" => ktr_units
        k_with "m:cell_enter" => first | (refine' enterP2 ?k1_u0_3 ?k2_u0_3 ?k3_u0_3 ?k4_u0_3 ?k5_u0_3 ?kA_u0_3 ?kF_u0_3 ?kK_u0_3 ?k6_u0_3 ?k7_u0_3 ?k8_u0_3 ?k9_u0_3 ?kB_u0_3 ?_ ?e1_u0_3 ?e2_u0_3 ?c2_u0_3 ?c3_u0_3 ?c4_u0_3 ?c5_u0_3; (case kA_u0_3 => exact rfl); (case kF_u0_3 => exact rfl); (case kK_u0_3 => first | exact rfl | assumption); (case k1_u0_3 => k_asm); (case k2_u0_3 => k_asm); (case k3_u0_3 => k_asm); (case k4_u0_3 => k_asm); (case k5_u0_3 => k_asm); (case k6_u0_3 => k_is); (case k7_u0_3 => k_is); (case k8_u0_3 => ktr_room); (case k9_u0_3 => first | exact BindsTo.of_eq rfl | exact binds_K (by k_in) rfl (by k_is) rfl rfl rfl); (case c5_u0_3 => decide); (case kB_u0_3 => exact locs rfl); (case e1_u0_3 => exact rfl); (case e2_u0_3 => kl_lit); (case c2_u0_3 => exact rfl); (case c3_u0_3 => exact rfl); (case c4_u0_3 => exact rfl); k_whole; intro g' L' h' H' FG' F' N' B' X' T' l1; (try dsimp only [paramNames, mapc, mapn, List.nil_append, List.cons_append, List.zip_cons_cons, List.zip_nil_left, List.zip_nil_right, revd, revc, revn] at F'); (try (have a9' := aps_lt l1; (try dsimp only [mapc, mapn] at a9'))); (try (replace l1 := allLt_of l1; simp only [AllLt, and_true] at l1)); (try dsimp only); (try k_lift B'); (try k_extra "m:fold"); (try (refine foldA ?_; intro A1'))) | (refine' enterC3 ?k1_u0_3 ?k2_u0_3 ?k3_u0_3 ?k4_u0_3 ?k5_u0_3 ?kA_u0_3 ?kF_u0_3 ?kK_u0_3 ?k6_u0_3 ?k7_u0_3 ?k8_u0_3 ?k9_u0_3 ?kB_u0_3 ?kD_u0_3 ?fs_u0_3 ?_ ?e1_u0_3 ?e2_u0_3 ?c2_u0_3 ?c3_u0_3 ?c4_u0_3; (case kA_u0_3 => exact rfl); (case kF_u0_3 => exact rfl); (case kK_u0_3 => first | exact rfl | assumption); (case k1_u0_3 => k_asm); (case k2_u0_3 => k_asm); (case k3_u0_3 => k_asm); (case k4_u0_3 => k_asm); (case k5_u0_3 => k_asm); (case k6_u0_3 => k_is); (case k7_u0_3 => k_is); (case k8_u0_3 => ktr_room); (case k9_u0_3 => first | exact BindsTo.of_eq rfl | exact binds_K (by k_in) rfl (by k_is) rfl rfl rfl); (case kB_u0_3 => exact rfl); (case kD_u0_3 => decide +kernel); (case e1_u0_3 => exact rfl); (case e2_u0_3 => kl_lit); (case fs_u0_3 => first | exact (rfl : _ = [false]) | exact (rfl : _ = [true]) | exact (rfl : _ = [true, false]) | exact (rfl : _ = [false, true]) | exact (rfl : _ = [false, false]) | exact (rfl : _ = [true, true])); (case c2_u0_3 => exact rfl); (case c3_u0_3 => exact rfl); (case c4_u0_3 => exact rfl); k_whole; intro g' L' h' tk' cells' H' FG' F' N' Y' B' X' T' l1; (try dsimp only [paramNames, mapc, mapn, List.nil_append, List.cons_append, List.zip_cons_cons, List.zip_nil_left, List.zip_nil_right, revd, revc, revn, sel] at F' Y'); (try (have a8' := aps_lt1 l1; simp only [mapc, mapn] at a8')); (try (have a9' := aps_lt l1; (try dsimp only [mapc, mapn] at a9'))); (try (replace l1 := allLt_of l1; simp only [AllLt, and_true] at l1)); k_cells Y'; (try simp only [List.cons_append, List.nil_append] at N'); (try dsimp only); (try k_lift B'); (try k_extra "m:fold"); (try (refine foldA ?_; intro A1')))
        k_with "m:k_all" => assumption
        k_with "m:k_mem" => assumption
        k_with "m:k_mem" => first | (with_reducible assumption) | (with_reducible first | exact mm0 | exact mm1 | exact mm2 | exact mm3 | exact mm4 | exact mm5 | exact mm6 | exact mm7 | exact mm8 | exact mm9 | exact mm10 | exact mm11) | ((with_reducible (repeat' (first | assumption | exact List.mem_cons_self | refine List.mem_cons_of_mem _ ?_))); done)
        k_with "m:eval Name" => (k_here; (first | (with_reducible show wpAny _ _ (eval (Expr.Name _ _) (envOf _ _ _ _ _)) _ _ _) | (with_reducible show wpAny _ _ (eval (Expr.Name _ _) (envOfC _ _ _ _ _)) _ _ _)); k_dflt (first
  | (refine' nameX_L ?F_u0_7 ?v_u0_7 ?_ ?a_u0_7 ?b_u0_7 ?d_u0_7; (case b_u0_7 => rfl); (case a_u0_7 => rfl); (case F_u0_7 => k_asm); (case v_u0_7 => rfl); (case d_u0_7 => decide); k_whole)
  | (refine' nameX_C ?N_u0_7 ?c_u0_7 ?m_u0_7 ?d_u0_7 ?_ ?a_u0_7 ?b_u0_7 ?e_u0_7; (case b_u0_7 => rfl); (case a_u0_7 => rfl); (case N_u0_7 => k_asm); (case c_u0_7 => rfl); (case m_u0_7 => k_mem); (case d_u0_7 => k_asm); (case e_u0_7 => decide); k_whole)
  | (refine' nameX_K ?F_u0_7 ?X_u0_7 ?T_u0_7 ?e_u0_7 ?_ ?a_u0_7 ?b_u0_7 ?d_u0_7; (case b_u0_7 => rfl); (case a_u0_7 => rfl); (case F_u0_7 => k_asm); (case X_u0_7 => k_asm); (case T_u0_7 => k_asm); (case e_u0_7 => k_is); (case d_u0_7 => decide); k_whole)
  | (refine' nameX_B ?F_u0_7 ?X_u0_7 ?T_u0_7 ?e_u0_7 ?v_u0_7 ?n_u0_7 ?_ ?a_u0_7 ?b_u0_7 ?d_u0_7; (case b_u0_7 => rfl); (case a_u0_7 => rfl); (case F_u0_7 => k_asm); (case X_u0_7 => k_asm); (case T_u0_7 => k_asm); (case e_u0_7 => k_is); (case v_u0_7 => boot_fast); (case n_u0_7 => decide); (case d_u0_7 => decide); k_whole)))
        k_with "m:k_ne" => first | exact Nat.ne_of_gt (by with_reducible assumption) | exact Nat.ne_of_lt (by with_reducible assumption) | (with_reducible first | exact an0 (by assumption) | exact as0 (by assumption) | exact an1 (by assumption) | exact as1 (by assumption) | exact an2 (by assumption) | exact as2 (by assumption) | exact an3 (by assumption) | exact as3 (by assumption) | exact an4 (by assumption) | exact as4 (by assumption) | exact an5 (by assumption) | exact as5 (by assumption) | exact an6 (by assumption) | exact as6 (by assumption) | exact an7 (by assumption) | exact as7 (by assumption) | exact an8 (by assumption) | exact as8 (by assumption) | exact an9 (by assumption) | exact as9 (by assumption) | exact an10 (by assumption) | exact as10 (by assumption) | exact an11 (by assumption) | exact as11 (by assumption)) | ((with_reducible refine' Aps.ne (by assumption) ?_); (repeat' (first | exact List.Mem.head _ | refine' List.Mem.tail _ ?_)); done) | ((with_reducible refine' Ne.symm (Aps.ne (by assumption) ?_)); (repeat' (first | exact List.Mem.head _ | refine' List.Mem.tail _ ?_)); done) | (refine neN ?_; (try dsimp only); lia)
        k_with "m:k_all" => first | (with_reducible assumption) | ((with_reducible (repeat' (first | assumption | exact offn | exact List.forall_mem_nil _ | refine' offc ?_ ?_ | refine' List.forall_mem_cons.mpr ⟨?_, ?_⟩))); (all_goals first | k_ne | ((with_reducible refine Aps.led (by with_reducible assumption) ?_); intro a ha; (repeat' (first | (with_reducible exact ha) | (with_reducible refine List.mem_cons_of_mem _ ?_))); done)); done)
        k_with "m:callWith ref" => (k_here; k_dflt (first
  | (refine' callWith_K ?k1_u0_10 ?k2_u0_10 ?_; (case k1_u0_10 => k_asm); (case k2_u0_10 => k_is); k_whole)
  | (refine' callWith_K0 ?k1_u0_10 ?k2_u0_10 ?_; (case k1_u0_10 => k_in); (case k2_u0_10 => k_is); k_whole)
  | (refine' callWith_KW ?k1_u0_10 ?k2_u0_10 ?k3_u0_10 ?_; (case k1_u0_10 => k_asm); (case k2_u0_10 => k_is); (case k3_u0_10 => exact rfl); k_whole)
  | (refine' callWith_KW0 ?k1_u0_10 ?k2_u0_10 ?k3_u0_10 ?_; (case k1_u0_10 => k_asm); (case k2_u0_10 => k_is); (case k3_u0_10 => exact rfl); k_whole)))
        k_with "m:k_in" => first | (with_reducible assumption) | exact Frag.In.keeps (by k_asm) (Fr.keep (by k_asm)) | ((refine Frag.In.keeps ?_ (Fr.keep (by with_reducible assumption))); (with_reducible assumption))
        k_with "m:ktr_units" => first | (refine' room1 ?rh_u0_12 ?re_u0_12; (case rh_u0_12 => assumption); (case re_u0_12 => exact rfl)) | (refine' room0 ?rh_u0_12 ?re_u0_12; (case rh_u0_12 => assumption); (case re_u0_12 => exact rfl)) | exact roomz (by assumption)
        k_with "m:ktr_room" => first | (refine' room1 ?rh_u0_13 ?re_u0_13; (case rh_u0_13 => assumption); (case re_u0_13 => exact rfl)) | (refine' room0 ?rh_u0_13 ?re_u0_13; (case rh_u0_13 => assumption); (case re_u0_13 => exact rfl)) | exact roomz (by assumption)
        k_with "m:k_all" => first | (with_reducible assumption) | ((with_reducible (repeat' (first | assumption | exact offn | exact List.forall_mem_nil _ | (refine Aps.led (by assumption) ?_; intro a ha; (repeat' (first | (exact ha) | (refine List.mem_cons_of_mem _ ?_))); done) | refine' offc ?_ ?_ | refine' List.forall_mem_cons.mpr ⟨?_, ?_⟩))); (all_goals first | k_ne | (refine Aps.led (by with_reducible assumption) ?_; intro a ha; (repeat' (first | exact ha | refine List.mem_cons_of_mem _ ?_)); done)); done)
        k_with "m:newTuple" => (k_here; k_dflt ((with_reducible refine' tupO ?F_u0_15 ?N_u0_15 ?z_u0_15 ?_); (case F_u0_15 => k_asm); (case N_u0_15 => k_asm); (case z_u0_15 => kmk_size)); intro D' h' o' F' N' l1; (try k_lt l1); (try k_sweep))
        k_with "m:k_steps" => repeat' (first | ((fail_if_success (fail_if_success k_unfold)); (first | (with_reducible refine' (?_ : wpAny _ _ _ _ _ _)) | k_unfold); (try dsimp only)) | (k_end; wrow_close) | ((fail_if_success (fail_if_success (with_reducible show wpAny _ _ (execs (_ :: _) _) _ _ _))); walk1; all_goals (try k_extra "m:fold")) | walk1 | (dsimp only; walk1) | (leave1; walk_say "STEP leave1"; try dsimp only) | fail "no step")
        k_with "m:call ref" => (k_here; k_dflt (refine' call_cls2 ?k1_u0_17 ?k2_u0_17 ?k3_u0_17 ?k4_u0_17 ?k5_u0_17 ?k6_u0_17 ?_; (case k1_u0_17 => k_asm); (case k2_u0_17 => k_asm); (case k3_u0_17 => k_asm); (case k4_u0_17 => k_is); (case k5_u0_17 => k_is); (case k6_u0_17 => k_is); k_whole; intro x' d' h' F' N' l1 l2 a7'; (try simp only [mapc, mapn] at a7'); (try k_lt l1); (try k_lt2 l2); (try k_sweep); k_enter))
        k_with "m:ev" => first
  | (with_reducible exact Ev.I)
  | (with_reducible exact Ev.S)
  | ((with_reducible refine' Ev.L ?eF_u0_18 ?eX_u0_18 ?eV_u0_18); (case eF_u0_18 => k_asm); (case eV_u0_18 => exact rfl); (case eX_u0_18 => exact rfl))
  | ((with_reducible refine' Ev.C ?eN_u0_18 ?eX_u0_18 ?eM_u0_18 ?eD_u0_18); (case eX_u0_18 => exact rfl); (case eN_u0_18 => k_asm); (case eM_u0_18 => k_mem); (case eD_u0_18 => k_asm))
  | ((with_reducible refine' Ev.K ?eF_u0_18 ?eX_u0_18 ?eT_u0_18 ?eR_u0_18 ?eE_u0_18); (case eF_u0_18 => k_asm); (case eR_u0_18 => exact rfl); (case eX_u0_18 => k_asm); (case eT_u0_18 => k_asm); (case eE_u0_18 => k_is))
  | ((with_reducible refine' Ev.B ?eF_u0_18 ?eX_u0_18 ?eT_u0_18 ?eR_u0_18 ?eE_u0_18 ?eV_u0_18 ?eN_u0_18); (case eF_u0_18 => k_asm); (case eR_u0_18 => exact rfl); (case eX_u0_18 => k_asm); (case eT_u0_18 => k_asm); (case eE_u0_18 => k_is); (case eV_u0_18 => boot_fast); (case eN_u0_18 => decide))
        k_with "m:evl" => first | exact EvL.n | ((with_reducible refine' EvL.c ?eh_u0_19 ?et_u0_19); (case eh_u0_19 => k_extra "m:ev"); (case et_u0_19 => k_extra "m:evl"))
        k_with "m:eval Name" => (k_here; k_dflt ((with_reducible refine' evU ?H_u0_20 ?_); (case H_u0_20 => k_extra "m:ev"); k_whole))
        k_with "m:eval Constant int" => (k_here; k_dflt (with_reducible refine conI ?_))
        k_with "m:eval Constant str" => (k_here; k_dflt (with_reducible refine conS ?_))
        k_with "m:spliced" => (k_here; k_dflt (first
  | ((with_reducible refine' spl ?L_u0_23 ?_); (case L_u0_23 => k_extra "m:evl"); k_whole; (try simp only [List.cons_append, List.nil_append]))
  | ((with_reducible refine' spc ?L_u0_23 ?_); (case L_u0_23 => k_extra "m:ev"); k_whole)))
        k_with "m:eval Call" => (k_here; k_dflt (first
  | ((with_reducible refine' calNK ?H_u0_24 ?k1_u0_24 ?k2_u0_24 ?L1_u0_24 ?L_u0_24 ?F_u0_24 ?_); (case H_u0_24 => k_extra "m:ev"); (case k1_u0_24 => k_asm); (case k2_u0_24 => k_is); (case L1_u0_24 => k_extra "m:ev"); (case L_u0_24 => k_extra "m:evl"); (case F_u0_24 => k_asm); k_whole)
  | ((with_reducible refine' calN ?H_u0_24 ?_); (case H_u0_24 => k_extra "m:ev"); k_whole)))
        k_with "m:callWith ref" => (k_here; k_dflt ((with_reducible refine' calK ?k1_u0_25 ?k2_u0_25 ?L1_u0_25 ?L_u0_25 ?_); (case k1_u0_25 => k_asm); (case k2_u0_25 => k_is); (case L1_u0_25 => k_extra "m:ev"); (case L_u0_25 => k_extra "m:evl"); k_whole))
        k_with "m:eval BinOp" => (k_here; k_dflt (first
  | ((with_reducible refine' evU ?H_u0_26 ?_); (case H_u0_26 => k_extra "m:ev"); k_whole)
  | ((with_reducible refine' binS ?H_u0_26 ?H2_u0_26 ?_); (case H_u0_26 => k_extra "m:ev"); (case H2_u0_26 => k_extra "m:ev"); k_whole)
  | ((with_reducible refine' binL ?H_u0_26 ?_); (case H_u0_26 => k_extra "m:ev"); k_whole)))
        k_with "m:eval Subscript" => (k_here; k_dflt ((with_reducible refine' subS ?H_u0_27 ?H2_u0_27 ?_); (case H_u0_27 => k_extra "m:ev"); (case H2_u0_27 => k_extra "m:ev"); k_whole))
        k_with "m:eval Compare" => (k_here; k_dflt (first
  | ((with_reducible refine' cmpS ?hm_u0_28 ?H_u0_28 ?H2_u0_28 ?_); (case hm_u0_28 => exact rfl); (case H_u0_28 => k_extra "m:ev"); (case H2_u0_28 => k_extra "m:ev"); k_whole)
  | ((with_reducible refine' cmpL ?hm_u0_28 ?H_u0_28 ?_); (case hm_u0_28 => exact rfl); (case H_u0_28 => k_extra "m:ev"); k_whole)))
        k_with "m:isTrue Compare" => (k_here; k_dflt ((with_reducible refine' cmpT ?hm_u0_29 ?H_u0_29 ?H2_u0_29 ?_); (case hm_u0_29 => exact rfl); (case H_u0_29 => k_extra "m:ev"); (case H2_u0_29 => k_extra "m:ev"); k_whole))
        k_with "m:fold" => ((fail_if_success (fail_if_success k_fold)); (with_reducible refine foldW ?_); intro qk ek)
        k_with "m:newList" => (k_here; k_dflt ((with_reducible refine' lisO ?F_u0_31 ?N_u0_31 ?z_u0_31 ?_); (case F_u0_31 => k_asm); (case N_u0_31 => k_asm); (case z_u0_31 => kmk_size)); intro l' h' F' N' l1; (try k_lt l1); (try k_sweep))
        k_with "m:eval Tuple" => (k_here; k_dflt ((with_reducible refine' tupL ?H_u0_32 ?F_u0_32 ?N_u0_32 ?z_u0_32 ?_); (case H_u0_32 => k_extra "m:evl"); (case F_u0_32 => k_asm); (case N_u0_32 => k_asm); (case z_u0_32 => kmk_size); k_whole); intro D' h' o' F' N' l1; (try k_lt l1); (try k_sweep))
        k_with "m:eval List" => (k_here; k_dflt ((with_reducible refine' lisL ?H_u0_33 ?F_u0_33 ?N_u0_33 ?z_u0_33 ?_); (case H_u0_33 => k_extra "m:evl"); (case F_u0_33 => k_asm); (case N_u0_33 => k_asm); (case z_u0_33 => kmk_size); k_whole); intro l' h' F' N' l1; (try k_lt l1); (try k_sweep))
        k_with "m:storeName" => (k_here; k_dflt ((with_reducible refine' stoL ?F_u0_34 ?N_u0_34 ?x_u0_34 ?_); (case F_u0_34 => k_asm); (case N_u0_34 => k_asm); (case x_u0_34 => exact rfl); k_whole); intro h' F' N'; (try k_sweep))
        k_with "m:execs cons" => (k_here; (fail_if_success (fail_if_success (first | (with_reducible show wpAny _ _ (execs (Stmt.Assign [_] _ _ :: _) _) _ _ _) | (with_reducible show wpAny _ _ (execs (Stmt.Return (some _) _ :: _) _) _ _ _)))); (fail_if_success k_gentoks); k_dflt (first
  | ((with_reducible refine' asgL ?H_u0_35 ?F_u0_35 ?N_u0_35 ?x_u0_35 ?hs_u0_35 ?_); (case H_u0_35 => k_extra "m:ev"); (case F_u0_35 => k_asm); (case N_u0_35 => k_asm); (case x_u0_35 => exact rfl); (case hs_u0_35 => exact rfl); k_whole; intro h' F' N'; (try k_sweep))
  | ((fail_if_success (with_reducible show wpAny _ _ (execs (Stmt.Assign _ (Expr.ListComp _ _ _ _) _ :: _) _) _ _ _)); (fail_if_success (with_reducible show wpAny _ _ (execs (Stmt.Assign _ (Expr.DictComp _ _ _ _ _) _ :: _) _) _ _ _)); ((with_reducible refine' asgN ?hs_u0_35 ?_); (case hs_u0_35 => exact rfl); k_whole))
  | (with_reducible refine retN ?_)))
        k_with "m:ar" => (k_whole; first | decide +kernel | (with_reducible first | assumption | exact And.left (by assumption) | exact And.right (by assumption)) | k_extra "m:and" | (with_reducible first | exact Nat.le_trans (by assumption) (by decide +kernel) | exact Nat.lt_of_lt_of_le (by assumption) (by decide +kernel) | exact Nat.lt_of_le_of_lt (by assumption) (by decide +kernel) | exact Int.le_trans (by assumption) (by decide +kernel) | exact Int.lt_of_lt_of_le (by assumption) (by decide +kernel) | exact Int.lt_of_le_of_lt (by assumption) (by decide +kernel) | exact Int.lt_of_lt_of_le (And.right (by assumption)) (by decide +kernel) | exact Int.lt_of_lt_of_le (by decide +kernel) (by assumption) | exact Int.lt_of_lt_of_le (by decide +kernel) (And.left (by assumption)) | exact Int.lt_trans (by decide +kernel) (by assumption) | exact Int.ofNat_lt.mpr (Nat.lt_of_lt_of_le (by assumption) (by assumption)) | exact Nat.lt_trans (by assumption) (by assumption) | exact Nat.lt_of_lt_of_le (by assumption) (by assumption) | exact Nat.le_of_lt (by assumption) | exact Int.le_of_lt (by assumption) | exact Int.mul_nonneg (by decide +kernel) (by assumption) | exact Int.emod_nonneg _ (by decide +kernel) | exact Int.lt_of_lt_of_le (Int.emod_lt_of_pos _ (by decide +kernel)) (by decide +kernel) | exact Int.lt_of_lt_of_le (by decide +kernel) (Int.emod_nonneg _ (by decide +kernel)) | exact Int.ediv_nonneg (by assumption) (by decide +kernel) | exact Int.ediv_nonneg (And.left (by assumption)) (by decide +kernel) | exact Int.fdiv_nonneg (Int.mul_nonneg (by decide +kernel) (by assumption)) (by decide +kernel) | exact nabL (Int.le_of_lt (by assumption)) (by assumption) (by decide +kernel) | exact nabL (by assumption) (Int.le_of_lt (by assumption)) (by decide +kernel) | exact Int.add_nonneg (Int.mul_nonneg (by decide +kernel) (by assumption)) (by assumption) | exact Int.add_nonneg (Int.mul_nonneg (by decide +kernel) (by assumption)) (And.left (by assumption)) | fail "ar"))
        k_with "m:lia" => k_extra "m:ar"
        k_with "m:omega" => k_extra "m:ar"
        k_with "m:and0" => with_reducible first | exact And.left (And.right (by assumption)) | exact And.right (And.right (by assumption)) | exact And.left (And.right (And.right (by assumption))) | exact And.right (And.right (And.right (by assumption))) | exact And.left (And.right (And.right (And.right (by assumption)))) | exact And.right (And.right (And.right (And.right (by assumption)))) | exact And.left (And.right (And.right (And.right (And.right (by assumption))))) | exact And.right (And.right (And.right (And.right (And.right (by assumption))))) | exact And.left (And.right (And.right (And.right (And.right (And.right (by assumption)))))) | exact And.right (And.right (And.right (And.right (And.right (And.right (by assumption)))))) | exact And.left (And.right (And.right (And.right (And.right (And.right (And.right (by assumption))))))) | exact And.right (And.right (And.right (And.right (And.right (And.right (And.right (by assumption))))))) | exact And.left (And.right (And.right (And.right (And.right (And.right (And.right (And.right (by assumption)))))))) | exact And.right (And.right (And.right (And.right (And.right (And.right (And.right (And.right (by assumption)))))))) | exact And.left (And.right (And.right (And.right (And.right (And.right (And.right (And.right (And.right (by assumption))))))))) | exact And.right (And.right (And.right (And.right (And.right (And.right (And.right (And.right (And.right (by assumption))))))))) | exact And.left (And.right (And.right (And.right (And.right (And.right (And.right (And.right (And.right (And.right (by assumption)))))))))) | exact And.right (And.right (And.right (And.right (And.right (And.right (And.right (And.right (And.right (And.right (by assumption)))))))))) | exact And.left (And.right (And.right (And.right (And.right (And.right (And.right (And.right (And.right (And.right (And.right (by assumption))))))))))) | exact And.right (And.right (And.right (And.right (And.right (And.right (And.right (And.right (And.right (And.right (And.right (by assumption))))))))))) | exact And.left (And.right (And.right (And.right (And.right (And.right (And.right (And.right (And.right (And.right (And.right (And.right (by assumption)))))))))))) | exact And.right (And.right (And.right (And.right (And.right (And.right (And.right (And.right (And.right (And.right (And.right (And.right (by assumption)))))))))))) | exact And.left (And.right (And.right (And.right (And.right (And.right (And.right (And.right (And.right (And.right (And.right (And.right (And.right (by assumption))))))))))))) | exact And.right (And.right (And.right (And.right (And.right (And.right (And.right (And.right (And.right (And.right (And.right (And.right (And.right (by assumption))))))))))))) | fail "and"
        k_with "m:wpstep" => (first | (with_reducible (first | refine PySem.wpAny_pure ?_ | refine PySem.wpAny_bind ?_ | refine PySem.wpAny_holding ?_ | refine PySem.wpAny_standAt ?_ | refine PySem.wpAny_point ?_ | refine PySem.wpAny_rule ?_ | refine PySem.wpAny_letGo ?_ | refine PySem.wpAny_mkInt' ?_ | refine PySem.wpAny_fresh' ?_ | refine PySem.wpAny_alloc' ?_ | refine PySem.wpAny_attempt ?_ | refine PySem.wpAny_throw ?_ | refine PySem.wpAny_of_eq (by assumption) ?_ | refine PySem.wpAny_typeOf (by assumption) ?_ | refine PySem.wpAny_specialOf_val (by assumption) (by assumption) ?_ | refine PySem.wpAny_specialOf (by assumption) (by assumption) ?_ | refine PySem.wpAny_isInstance_val (by assumption) (by assumption) ?_ | refine PySem.wpAny_isInstance (by assumption) (by assumption) ?_ | refine PySem.wpAny_call ?_ | refine PySem.wpAny_runValue ?_ | refine PySem.wpAny_run ?_)) | ((with_reducible apply PySem.wpAny_load'); focus (heap_get; done)) | ((with_reducible apply PySem.wpAny_update'); focus (heap_get; done)) | ((with_reducible apply PySem.wpAny_loadPart'); focus (heap_get; done)) | ((with_reducible apply PySem.wpAny_updatePart'); focus (heap_get; done)) | ((with_reducible apply PySem.wpAny_handled_none); focus (assumption; done)) | ((with_reducible apply PySem.wpAny_ite_false); focus (rfl; done)) | ((with_reducible apply PySem.wpAny_ite_true); focus (rfl; done)) | ((with_reducible apply PySem.wpAny_ite_false); focus (simp [*]; done)) | ((with_reducible apply PySem.wpAny_ite_true); focus (simp [*]; done)) | wp_delta | with_reducible_and_instances refine PySem.wpAny_pure ?_ | with_reducible_and_instances refine PySem.wpAny_bind ?_)
        k_with "m:ite" => (k_closed; k_dflt (first | ((with_reducible refine' PySem.W.ite_pos ?c_u0_41 ?_); (case c_u0_41 => decide)) | ((with_reducible refine' PySem.W.ite_neg ?c_u0_41 ?_); (case c_u0_41 => decide))))
      k_with "ld:exset" =>
        k_with "m:getMethod type:Exception" => (k_here; k_dflt (with_reducible refine' method_type ?F_u1_0 ?X_u1_0 ty_exc stub_exc ?e_u1_0 ?h_u1_0 ?_; (case F_u1_0 => k_asm); (case X_u1_0 => k_asm); (case e_u1_0 => k_is); (case h_u1_0 => decide)))
        k_with "m:call builtin:Exception.__init__" => (k_here; k_dflt (refine' ex_init ?F_u1_1 ?X_u1_1 ?N_u1_1 ?ne_u1_1 ?hC_u1_1 ?T_u1_1 ?z_u1_1 ?_; (case F_u1_1 => k_asm); (case X_u1_1 => k_asm); (case N_u1_1 => k_asm); (case ne_u1_1 => k_all); (case hC_u1_1 => k_is); (case T_u1_1 => exact hasT_one); (case z_u1_1 => exact Nat.le_of_ble_eq_true rfl)); intro h' t' F' N')
        k_with "m:setAttr ref" => (k_here; k_dflt (first
  | (refine' exset_first ?F_u1_2 ?X_u1_2 ?N_u1_2 ?ne_u1_2 ?hs_u1_2 ?hp_u1_2 ?ht_u1_2 ?hh_u1_2 ?_; (case F_u1_2 => k_asm); (case X_u1_2 => k_asm); (case N_u1_2 => k_asm); (case ne_u1_2 => k_all); (case hs_u1_2 => k_is); (case hp_u1_2 => exact exOver_of (by k_is) rfl); (case ht_u1_2 => k_is); (case hh_u1_2 => k_is); intro h' d' o' F' N' l1 x'; (try k_lt l1); obtain ⟨e', ke', eo'⟩ := x'; subst eo')))
      k_with "ld:swinit" =>
        k_with "m:call ref" => (k_here; (with_reducible show wpAny _ _ (call (Value.ref 35) _) _ _ _); k_dflt (refine' use_swinit83 ?B_u2_0 ?F_u2_0 ?X_u2_0 ?N_u2_0 ?ne_u2_0 ?T_u2_0 ?hk_u2_0 ?hd_u2_0 ?hu_u2_0 ?_; (case F_u2_0 => k_asm); (case N_u2_0 => k_asm); (case ne_u2_0 => k_all); (case B_u2_0 => k_asm); (case X_u2_0 => k_asm); (case T_u2_0 => k_asm); (case hk_u2_0 => first | exact rfl | assumption); (case hd_u2_0 => ktr_room); (case hu_u2_0 => ktr_units)); intro h' tk' d' t' en' k' hen' F' N' hlt'; (try dsimp only); (try k_sweep); (try k_extra "m:fold"))
        k_with "m:setAttr ref" => (k_here; k_dflt (refine' exset_again ?F_u2_1 ?X_u2_1 ?N_u2_1 ?hd_u2_1 ?ne_u2_1 ?hs_u2_1 ?hp_u2_1 ?ht_u2_1 ?hh_u2_1 ?hl_u2_1 ?e_u2_1 ?hz_u2_1 ?_; (case F_u2_1 => k_asm); (case X_u2_1 => k_asm); (case N_u2_1 => k_asm); (case hd_u2_1 => k_ne); (case ne_u2_1 => k_all); (case hs_u2_1 => k_is); (case hp_u2_1 => exact exOver_of (by k_is) rfl); (case ht_u2_1 => k_is); (case hh_u2_1 => k_is); (case e_u2_1 => exact rfl); (case hl_u2_1 => exact getL_other (by assumption) (by decide +kernel)); (case hz_u2_1 => exact put_small); intro h' F' N'))
      k_with "ld:o_swinit" =>
        k_with "m:oldlt" => skip
        k_with "m:and" => walk_at "and0"
      k_with "ld:tellx" =>
        k_with "m:exec Raise some none" => (k_here; k_dflt (refine' Raise_V ?hh_u4_0 ?_; (case hh_u4_0 => exact rfl)))
        k_with "m:call ref" => (k_here; (with_reducible show wpAny _ _ (call (Value.ref 51) _) _ _ _); k_dflt (refine' exc_K (C := 51) (fI := 35) (fun e9 t9 => c_swinit _ e9 t9 _ _) ?hC_u4_1 ?T'_u4_1 ?hfi_u4_1 ?hfI_u4_1 ?hfc_u4_1 ?B_u4_1 ?F_u4_1 ?X_u4_1 ?N_u4_1 ?T_u4_1 ?hk_u4_1 ?hd_u4_1 ?hu_u4_1 ?_; (case hC_u4_1 => k_is); (case T'_u4_1 => exact hasT_one); (case hfi_u4_1 => k_is); (case hfI_u4_1 => k_is); (case hfc_u4_1 => exact rfl); (case F_u4_1 => k_asm); (case N_u4_1 => k_asm); (case B_u4_1 => k_asm); (case X_u4_1 => k_asm); (case T_u4_1 => k_asm); (case hk_u4_1 => first | exact rfl | assumption); (case hd_u4_1 => ktr_room); (case hu_u4_1 => ktr_units)); intro h' tk' e' t' d' o' F' N' l1 hed'; (try k_lt l1); (try dsimp only))
        k_with "m:call ref" => (k_here; (with_reducible show wpAny _ _ (call (Value.ref 83) _) _ _ _); k_dflt (refine' exc_K (C := 83) (fI := 80) (fun e9 t9 => c_setinit _ e9 t9 _ _) ?hC_u4_2 ?T'_u4_2 ?hfi_u4_2 ?hfI_u4_2 ?hfc_u4_2 ?B_u4_2 ?F_u4_2 ?X_u4_2 ?N_u4_2 ?T_u4_2 ?hk_u4_2 ?hd_u4_2 ?hu_u4_2 ?_; (case hC_u4_2 => k_is); (case T'_u4_2 => exact hasT_one); (case hfi_u4_2 => k_is); (case hfI_u4_2 => k_is); (case hfc_u4_2 => exact rfl); (case F_u4_2 => k_asm); (case N_u4_2 => k_asm); (case B_u4_2 => k_asm); (case X_u4_2 => k_asm); (case T_u4_2 => k_asm); (case hk_u4_2 => first | exact rfl | assumption); (case hd_u4_2 => ktr_room); (case hu_u4_2 => ktr_units)); intro h' tk' e' t' d' o' F' N' l1 hed'; (try k_lt l1); (try dsimp only))
        k_with "m:RaisableV" => (k_dflt (refine' raisable_ ?N_u4_3 ?m_u4_3 ?X_u4_3 ?F_u4_3 ?hC_u4_3 ?b_u4_3 ?_; (case N_u4_3 => k_asm); (case m_u4_3 => k_mem); (case X_u4_3 => k_asm); (case F_u4_3 => k_asm); (case hC_u4_3 => k_is); (case b_u4_3 => decide)); (try dsimp only))
        k_with "m:leaving ref" => (k_here; k_dflt (first
  | (refine' leave_onV ?K_u4_4 ?F_u4_4 ?hf_u4_4 ?R_u4_4 ?U_u4_4 ?_; (case R_u4_4 => k_asm); (case K_u4_4 => k_asm); (case F_u4_4 => k_asm); (case U_u4_4 => k_asm); (case hf_u4_4 => exact rfl))
  | (refine' leave_newV ?K_u4_4 ?F_u4_4 ?N_u4_4 ?ne_u4_4 ?hf_u4_4 ?hke_u4_4 ?_; (case N_u4_4 => (first | k_asm | exact News.swap2 (by k_asm))); (case K_u4_4 => k_asm); (case F_u4_4 => k_asm); (case ne_u4_4 => k_all); (case hf_u4_4 => exact rfl); (case hke_u4_4 => exact rfl))); intro h' R' U'; (try dsimp only))
      k_with "ld:enters" =>
        k_with "m:LeaveT" => (k_dflt (refine' leaveT_ ?F_u5_0 ?N_u5_0 ?T_u5_0 ?_; (case F_u5_0 => k_asm); (case N_u5_0 => k_asm); (case T_u5_0 => first | assumption | exact KtsTurn.refl); k_whole); intro kg kT kF kN kB kX₀ kP; (have kX := kFor kF kX₀); (try dsimp only))
      k_with "ld:o_refused" =>
        k_with "m:cell_enter" => (refine' enterT ?k1_u6_0 ?k2_u6_0 ?k3_u6_0 ?k4_u6_0 ?k5_u6_0 ?kX_u6_0 ?kT_u6_0 ?k0_u6_0 ?kA_u6_0 ?kF_u6_0 ?kK_u6_0 ?k6_u6_0 ?k7_u6_0 ?k8_u6_0 ?k9_u6_0 ?kB_u6_0 ?_ ?c2_u6_0 ?c3_u6_0 ?c4_u6_0 ?c5_u6_0; (case kA_u6_0 => exact rfl); (case kF_u6_0 => exact rfl); (case kK_u6_0 => first | exact rfl | assumption); (case k1_u6_0 => k_asm); (case k2_u6_0 => k_asm); (case k3_u6_0 => k_asm); (case k4_u6_0 => k_asm); (case k5_u6_0 => k_asm); (case kX_u6_0 => assumption); (case kT_u6_0 => assumption); (case k0_u6_0 => assumption); (case k6_u6_0 => k_is); (case k7_u6_0 => k_is); (case k8_u6_0 => ktr_room); (case k9_u6_0 => first | exact BindsTo.of_eq rfl | exact binds_K (by k_in) rfl (by k_is) rfl rfl rfl); (case c5_u6_0 => decide); (case kB_u6_0 => exact locs rfl); (case c2_u6_0 => exact rfl); (case c3_u6_0 => exact rfl); (case c4_u6_0 => exact rfl); k_whole; intro g' L' h' H' FG' F' N' B' X' T' l1; (try dsimp only); (try k_lift B'); (try k_extra "m:fold"))
        k_with "m:callWith ref" => (k_here; k_dflt (refine' callWith_F0 ?k1_u6_1 ?_; (case k1_u6_1 => exact FnAt.of (by k_asm) (by assumption)); k_whole; try dsimp only [List.nil_append, List.cons_append]))
        k_with "m:call ref" => (k_here; k_dflt (refine' TellX.use (by assumption) ?B_u6_2 ?F_u6_2 ?X_u6_2 ?N_u6_2 ?T_u6_2 ?hk_u6_2 ?hd_u6_2 ?hu_u6_2 ?_; (case F_u6_2 => k_asm); (case N_u6_2 => k_asm); (case B_u6_2 => k_asm); (case X_u6_2 => k_asm); (case T_u6_2 => k_asm); (case hk_u6_2 => first | exact rfl | assumption); (case hd_u6_2 => ktr_room); (case hu_u6_2 => ktr_units)); intro e' h' G' tk' H' FG' U' R'; (try dsimp only))
        k_with "m:noteFrame ref" => (k_here; k_dflt (refine' caught_V ?R_u6_3 ?F_u6_3 ?K_u6_3 ?U_u6_3 ?XB_u6_3 ?TB_u6_3 ?T0_u6_3 ?hm_u6_3 ?q_u6_3 ?_; (case R_u6_3 => k_asm); (case F_u6_3 => k_asm); (case K_u6_3 => k_asm); (case U_u6_3 => k_asm); (case XB_u6_3 => assumption); (case TB_u6_3 => assumption); (case T0_u6_3 => exact KtsTurn.refl); (case hm_u6_3 => exact rfl); (case q_u6_3 => assumption)); intro h' g' T' F' N' K' X' P'; (try k_lift K'))
      k_with "ld:take" =>
        k_with "m:call ref" => (k_here; (with_reducible show wpAny _ _ (call (Value.ref 366) _) _ _ _); k_dflt (refine' use_take ?P1_u7_0 ?hS_u7_0 ?P2_u7_0 ?hlt_u7_0 ?hr1_u7_0 ?hr2_u7_0 ?htop_u7_0 ?htop2_u7_0 ?B_u7_0 ?F_u7_0 ?X_u7_0 ?N_u7_0 ?T_u7_0 ?hk_u7_0 ?hd_u7_0 ?hu_u7_0 ?_; (case F_u7_0 => k_asm); (case N_u7_0 => k_asm); (case P1_u7_0 => (repeat' (first | exact Pick.head | refine' Pick.tail ?_))); (case hS_u7_0 => k_asm); (case P2_u7_0 => (repeat' (first | exact Pick.head | refine' Pick.tail ?_))); (case hlt_u7_0 => k_asm); (case hr1_u7_0 => k_all); (case hr2_u7_0 => k_all); (case htop_u7_0 => (first | decide | assumption | lia)); (case htop2_u7_0 => (first | decide | assumption | lia)); (case B_u7_0 => k_asm); (case X_u7_0 => k_asm); (case T_u7_0 => k_asm); (case hk_u7_0 => first | exact rfl | assumption); (case hd_u7_0 => ktr_room); (case hu_u7_0 => ktr_units)); intro R' r1' r2' d' t' o1' o2' h' tk' hd0' hd1' hS' F' N'; (try dsimp only); (try k_sweep); (try k_extra "m:fold"))
      k_with "ld:o_take" =>
        k_with "m:subscriptTail Name" => k_extra "m:subscriptTail"
        k_with "m:subscriptTail Name Constant ref int" => k_extra "m:subscriptTail"
        k_with "m:call builtin:list.pop" => (k_here; k_dflt (refine' pop0 ?F_u8_2 ?N_u8_2 ?U_u8_2 ?z_u8_2 ?_; (case F_u8_2 => k_asm); (case N_u8_2 => k_asm); (case U_u8_2 => k_upd); (case z_u8_2 => (simp only [List.length_cons] at *; lia))); (intro h' F' N'; (try dsimp only [List.nil_append, List.cons_append] at N')))
      k_with "ld:one" =>
        k_with "m:call ref" => (k_here; (with_reducible show wpAny _ _ (call (Value.ref 373) _) _ _ _); k_dflt (first
  | (refine' use_oneI ?P3_u9_0 ?hi_u9_0 ?P1_u9_0 ?hS_u9_0 ?P2_u9_0 ?hlt_u9_0 ?hr1_u9_0 ?hr2_u9_0 ?hr3_u9_0 ?h4_u9_0 ?h5_u9_0 ?hv1_u9_0 ?hv2_u9_0 ?B_u9_0 ?F_u9_0 ?X_u9_0 ?N_u9_0 ?T_u9_0 ?hk_u9_0 ?hd_u9_0 ?hu_u9_0 ?_; (case F_u9_0 => k_asm); (case N_u9_0 => k_asm); (case P3_u9_0 => (repeat' (first | exact Pick.head | refine' Pick.tail ?_))); (case hi_u9_0 => repeat' constructor); (case P1_u9_0 => (repeat' (first | exact Pick.head | refine' Pick.tail ?_))); (case hS_u9_0 => k_asm); (case P2_u9_0 => (repeat' (first | exact Pick.head | refine' Pick.tail ?_))); (case hlt_u9_0 => k_asm); (case hr1_u9_0 => k_all); (case hr2_u9_0 => k_all); (case hr3_u9_0 => k_all); (case h4_u9_0 => k_ne); (case h5_u9_0 => k_ne); (case hv1_u9_0 => exact rfl); (case hv2_u9_0 => exact rfl); (case B_u9_0 => k_asm); (case X_u9_0 => k_asm); (case T_u9_0 => k_asm); (case hk_u9_0 => first | exact rfl | assumption); (case hd_u9_0 => ktr_room); (case hu_u9_0 => ktr_units))
  | (refine' use_oneS ?P3_u9_0 ?hi_u9_0 ?P1_u9_0 ?hS_u9_0 ?P2_u9_0 ?hlt_u9_0 ?hr1_u9_0 ?hr2_u9_0 ?hr3_u9_0 ?h4_u9_0 ?h5_u9_0 ?hv1_u9_0 ?hv2_u9_0 ?B_u9_0 ?F_u9_0 ?X_u9_0 ?N_u9_0 ?T_u9_0 ?hk_u9_0 ?hd_u9_0 ?hu_u9_0 ?_; (case F_u9_0 => k_asm); (case N_u9_0 => k_asm); (case P3_u9_0 => (repeat' (first | exact Pick.head | refine' Pick.tail ?_))); (case hi_u9_0 => repeat' constructor); (case P1_u9_0 => (repeat' (first | exact Pick.head | refine' Pick.tail ?_))); (case hS_u9_0 => k_asm); (case P2_u9_0 => (repeat' (first | exact Pick.head | refine' Pick.tail ?_))); (case hlt_u9_0 => k_asm); (case hr1_u9_0 => k_all); (case hr2_u9_0 => k_all); (case hr3_u9_0 => k_all); (case h4_u9_0 => k_ne); (case h5_u9_0 => k_ne); (case hv1_u9_0 => exact rfl); (case hv2_u9_0 => exact rfl); (case B_u9_0 => k_asm); (case X_u9_0 => k_asm); (case T_u9_0 => k_asm); (case hk_u9_0 => first | exact rfl | assumption); (case hd_u9_0 => ktr_room); (case hu_u9_0 => ktr_units))); intro R' r1' r2' x' t' o1' o2' h' tk' hx' hS' F' N'; (try (simp only [List.mem_cons, List.not_mem_nil, or_false] at hx'; (first | (have hB' : 0 ≤ x' ∧ x' < 65536 := by lia) | (have hB' : 0 ≤ x' ∧ x' < 4294967296 := by lia) | (have hB' : 0 ≤ x' ∧ x' < 281474976710656 := by lia)); clear hx')); (try dsimp only); (try k_sweep); (try k_extra "m:fold"))
      k_with "ld:o_one" =>
        k_with "m:call builtin:len" => (k_here; (with_reducible show wpAny _ _ (call _ [Value.ref _]) _ _ _); k_dflt (refine' len_in ?N_u10_0 ?m_u10_0 ?z_u10_0 ?_; (case N_u10_0 => k_asm); (case m_u10_0 => k_mem); (case z_u10_0 => assumption)))
        k_with "m:subscriptTail" => (k_here; (with_reducible show wpAny _ _ (subscriptTail _ _ (Value.ref _) (Value.int _ _)) _ _ _); k_dflt (refine' item_in ?N_u10_1 ?m_u10_1 ?a_u10_1 ?b_u10_1 ?z_u10_1 ?_ ?hs_u10_1; (case N_u10_1 => k_asm); (case m_u10_1 => k_mem); (case a_u10_1 => assumption); (case b_u10_1 => assumption); (case z_u10_1 => assumption); (case hs_u10_1 => with_unfolding_all rfl)); intro v' hv')
      k_with "ld:massign" =>
        k_with "m:eval Name" => (k_here; (with_reducible show wpAny _ _ (eval (Expr.Name _ _) (compEnvC _ _ _ _)) _ _ _); k_dflt (refine LCgL.ld_own (by k_asm) (by k_mem) (by assumption) (by exact rfl) ?_))
        k_with "m:eval ListComp" => (k_here; k_dflt (refine' mstart_list ?c_u11_1 ?k_u11_1 ?n_u11_1 ?_; (case c_u11_1 => with_unfolding_all rfl); (case k_u11_1 => exact rfl); (case n_u11_1 => decide)))
        k_with "m:eval DictComp" => (k_here; k_dflt (refine' mstart_dict ?c_u11_2 ?k_u11_2 ?n_u11_2 ?_; (case c_u11_2 => with_unfolding_all rfl); (case k_u11_2 => exact rfl); (case n_u11_2 => decide)))
        k_with "m:exec Assign cons ListComp" => (k_here; k_dflt (refine' massign_list ?w_u11_3 ?c_u11_3 ?k_u11_3 ?n_u11_3 ?_; (case w_u11_3 => with_unfolding_all rfl); (case c_u11_3 => with_unfolding_all rfl); (case k_u11_3 => exact rfl); (case n_u11_3 => decide)))
        k_with "m:exec Assign cons DictComp" => (k_here; k_dflt (refine' massign_dict ?w_u11_4 ?c_u11_4 ?k_u11_4 ?n_u11_4 ?_; (case w_u11_4 => with_unfolding_all rfl); (case c_u11_4 => with_unfolding_all rfl); (case k_u11_4 => exact rfl); (case n_u11_4 => decide)))
        k_with "m:MSrc" => (k_here; k_dflt (first
  | (refine' iter_list ?F_u11_5 ?N_u11_5 ?s_u11_5 ?c_u11_5 ?d_u11_5 ?_; (case F_u11_5 => k_asm); (case N_u11_5 => k_asm); (case s_u11_5 => exact srcIn_news (by k_asm) (by k_mem)); (case c_u11_5 => exact rfl); (case d_u11_5 => exact rfl))
  | (refine' iter_tuple ?F_u11_5 ?N_u11_5 ?s_u11_5 ?c_u11_5 ?d_u11_5 ?_; (case F_u11_5 => k_asm); (case N_u11_5 => k_asm); (case s_u11_5 => first | exact srcIn_news (by k_asm) (by k_mem) | exact srcIn_base (by k_asm) (by k_asm) (by k_is)); (case c_u11_5 => exact rfl); (case d_u11_5 => exact rfl))
  | (refine' iter_range ?F_u11_5 ?N_u11_5 ?r_u11_5 ?sm_u11_5 ?n_u11_5 ?_; (case F_u11_5 => k_asm); (case N_u11_5 => k_asm); (case r_u11_5 => first | (with_reducible assumption) | assumption); (case sm_u11_5 => decide); (case n_u11_5 => exact rfl))
  | (refine' iter_vals (knd := PySem.intKind _ _) ?F_u11_5 ?N_u11_5 ?m_u11_5 ?c_u11_5 ?d_u11_5 ?s_u11_5 ?o_u11_5 ?_; (case F_u11_5 => k_asm); (case N_u11_5 => k_asm); (case m_u11_5 => k_mem); (case c_u11_5 => exact rfl); (case d_u11_5 => exact rfl); (case s_u11_5 => exact srcIn_news (by k_asm) (by k_mem)); (case o_u11_5 => first | (with_reducible assumption) | assumption))); intro I' h' o' F' N' l1 S' x'; (try k_lt l1); clear x'; (try dsimp only))
        k_with "m:lcg_src" => first | exact srcIn_nil | exact srcIn_news (by k_asm) (by k_mem) | exact srcIn_base (by k_asm) (by k_asm) (by k_is)
        k_with "m:MMake ListComp" => (k_here; k_dflt (first
  | ((with_reducible refine' mmake_list0 ?hh_u11_7 ?F_u11_7 ?N_u11_7 ?S_u11_7 ?m_u11_7 ?s_u11_7 ?c_u11_7 ?k_u11_7 ?_); (case hh_u11_7 => exact rfl); (case F_u11_7 => k_asm); (case N_u11_7 => k_asm); (case S_u11_7 => first | (with_reducible assumption) | assumption); (case m_u11_7 => k_mem); (case s_u11_7 => lcg_src); (case c_u11_7 => decide); (case k_u11_7 => exact rfl); intro D' C' h' o' k' F' N' l1 l2 c'; (try (have a8' := aps_lt2 l1 l2; simp only [mapc, mapn] at a8')); (try k_lt l1))
  | ((with_reducible refine' mmake_list1 ?hh_u11_7 ?F_u11_7 ?N_u11_7 ?S_u11_7 ?m_u11_7 ?s_u11_7 ?c_u11_7 ?p_u11_7 ?_); (case hh_u11_7 => exact rfl); (case F_u11_7 => k_asm); (case N_u11_7 => k_asm); (case S_u11_7 => first | (with_reducible assumption) | assumption); (case m_u11_7 => k_mem); (case s_u11_7 => lcg_src); (case c_u11_7 => exact fun _ _ => rfl); (case p_u11_7 => exact fun _ => rfl); intro D' C' K' h' o' oK' F' N' l1 l2 l3 c' k'; (try k_lt l1))))
        k_with "m:MMake DictComp" => (k_here; k_dflt ((with_reducible refine' mmake_dict0 ?hh_u11_8 ?F_u11_8 ?N_u11_8 ?b_u11_8 ?S_u11_8 ?m_u11_8 ?s_u11_8 ?c_u11_8 ?k_u11_8 ?_); (case hh_u11_8 => exact rfl); (case F_u11_8 => k_asm); (case N_u11_8 => k_asm); (case b_u11_8 => exact modules_low (Top.nolimit (by k_asm))); (case S_u11_8 => first | (with_reducible assumption) | assumption); (case m_u11_8 => k_mem); (case s_u11_8 => lcg_src); (case c_u11_8 => decide); (case k_u11_8 => exact rfl); intro D' C' h' o' k' oD' F' N' d1 d2 lo' l1 l2 c'; (try (have a8' := aps_lt2 l1 l2; simp only [mapc, mapn] at a8')); (try k_lt l1)))
        k_with "m:MLoop ListComp" => (k_here; k_dflt ((with_reducible refine' mloop_end_L ?hh_u11_9 ?S_u11_9 ?F_u11_9 ?N_u11_9 ?U_u11_9 ?e_u11_9 ?s_u11_9 ?_); (case hh_u11_9 => exact rfl); (case F_u11_9 => k_asm); (case N_u11_9 => k_asm); (case S_u11_9 => first | (with_reducible assumption) | assumption); (case U_u11_9 => (repeat' (first | exact Pick.head | refine' Pick.tail ?_))); (case e_u11_9 => k_all); (case s_u11_9 => lcg_src); (intro h' k' F' N')))
        k_with "m:MLoop ListComp" => (k_here; (with_reducible show MLoop _ _ _ (Expr.ListComp _ [⟨_, _, [_], 0⟩] _ _) _ _ _ _ _); k_dflt ((with_reducible refine' mloop_L1 ?hh_u11_10 ?S_u11_10 ?i_u11_10 ?F_u11_10 ?N_u11_10 ?U_u11_10 ?s_u11_10 ?_); (case hh_u11_10 => exact rfl); (case F_u11_10 => k_asm); (case N_u11_10 => k_asm); (case U_u11_10 => k_updF); (case S_u11_10 => first | (with_reducible assumption) | assumption); (case i_u11_10 => exact Nat.le_of_ble_eq_true rfl); (case s_u11_10 => lcg_src); (intro v' h' k' o' P' S' F' N'; (first | lcg_open P' | (obtain ⟨t9, e9⟩ := P'; subst e9; (try simp only [Int.ofNat_zero, Int.natCast_zero, Int.natCast_one, Nat.cast_ofNat_Int, Int.zero_mul, Int.one_mul, Int.add_zero, Int.zero_add, Int.reduceAdd, Int.reduceNeg, Int.reduceMul, Nat.reduceAdd])) | (obtain ⟨t9, e9⟩ := P'; simp only [List.getElem?_cons_zero, List.getElem?_cons_succ, Option.some.injEq, Prod.mk.injEq] at e9; obtain ⟨e8, e7⟩ := e9; subst e8; subst e7)); (try dsimp only at N'); (try dsimp only))))
        k_with "m:MLoop ListComp" => (k_here; (with_reducible show MLoop _ _ _ (Expr.ListComp _ [⟨_, _, [], 0⟩] _ _) _ _ _ _ _); k_dflt ((with_reducible refine' mloop_L0 ?hh_u11_11 ?S_u11_11 ?i_u11_11 ?F_u11_11 ?N_u11_11 ?U_u11_11 ?s_u11_11 ?_); (case hh_u11_11 => exact rfl); (case F_u11_11 => k_asm); (case N_u11_11 => k_asm); (case U_u11_11 => k_updF); (case S_u11_11 => first | (with_reducible assumption) | assumption); (case i_u11_11 => exact Nat.le_of_ble_eq_true rfl); (case s_u11_11 => lcg_src); (intro v' h' k' o' P' S' F' N'; (first | lcg_open P' | (obtain ⟨t9, e9⟩ := P'; subst e9; (try simp only [Int.ofNat_zero, Int.natCast_zero, Int.natCast_one, Nat.cast_ofNat_Int, Int.zero_mul, Int.one_mul, Int.add_zero, Int.zero_add, Int.reduceAdd, Int.reduceNeg, Int.reduceMul, Nat.reduceAdd])) | (obtain ⟨t9, e9⟩ := P'; simp only [List.getElem?_cons_zero, List.getElem?_cons_succ, Option.some.injEq, Prod.mk.injEq] at e9; obtain ⟨e8, e7⟩ := e9; subst e8; subst e7)); (try dsimp only at N'); (try dsimp only))))
        k_with "m:MLoop DictComp" => (k_here; k_dflt ((with_reducible refine' mloop_end_D ?hh_u11_12 ?S_u11_12 ?F_u11_12 ?N_u11_12 ?U_u11_12 ?e_u11_12 ?s_u11_12 ?_); (case hh_u11_12 => exact rfl); (case F_u11_12 => k_asm); (case N_u11_12 => k_asm); (case S_u11_12 => first | (with_reducible assumption) | assumption); (case U_u11_12 => (repeat' (first | exact Pick.head | refine' Pick.tail ?_))); (case e_u11_12 => k_all); (case s_u11_12 => lcg_src); (intro h' k' F' N')))
        k_with "m:MLoop DictComp" => (k_here; (with_reducible show MLoop _ _ _ (Expr.DictComp _ _ [⟨_, _, [_], 0⟩] _ _) _ _ _ _ _); k_dflt ((with_reducible refine' mloop_D1 ?hh_u11_13 ?S_u11_13 ?i_u11_13 ?F_u11_13 ?N_u11_13 ?U_u11_13 ?s_u11_13 ?_); (case hh_u11_13 => exact rfl); (case F_u11_13 => k_asm); (case N_u11_13 => k_asm); (case U_u11_13 => k_updF); (case S_u11_13 => first | (with_reducible assumption) | assumption); (case i_u11_13 => exact Nat.le_of_ble_eq_true rfl); (case s_u11_13 => lcg_src); (intro v' h' k' o' P' S' F' N'; (first | lcg_open P' | (obtain ⟨t9, e9⟩ := P'; subst e9; (try simp only [Int.ofNat_zero, Int.natCast_zero, Int.natCast_one, Nat.cast_ofNat_Int, Int.zero_mul, Int.one_mul, Int.add_zero, Int.zero_add, Int.reduceAdd, Int.reduceNeg, Int.reduceMul, Nat.reduceAdd])) | (obtain ⟨t9, e9⟩ := P'; simp only [List.getElem?_cons_zero, List.getElem?_cons_succ, Option.some.injEq, Prod.mk.injEq] at e9; obtain ⟨e8, e7⟩ := e9; subst e8; subst e7)); (try dsimp only at N'); (try dsimp only))))
        k_with "m:MLoop DictComp" => (k_here; (with_reducible show MLoop _ _ _ (Expr.DictComp _ _ [⟨_, _, [], 0⟩] _ _) _ _ _ _ _); k_dflt ((with_reducible refine' mloop_D0 ?hh_u11_14 ?S_u11_14 ?i_u11_14 ?F_u11_14 ?N_u11_14 ?U_u11_14 ?s_u11_14 ?_); (case hh_u11_14 => exact rfl); (case F_u11_14 => k_asm); (case N_u11_14 => k_asm); (case U_u11_14 => k_updF); (case S_u11_14 => first | (with_reducible assumption) | assumption); (case i_u11_14 => exact Nat.le_of_ble_eq_true rfl); (case s_u11_14 => lcg_src); (intro v' h' k' o' P' S' F' N'; (first | lcg_open P' | (obtain ⟨t9, e9⟩ := P'; subst e9; (try simp only [Int.ofNat_zero, Int.natCast_zero, Int.natCast_one, Nat.cast_ofNat_Int, Int.zero_mul, Int.one_mul, Int.add_zero, Int.zero_add, Int.reduceAdd, Int.reduceNeg, Int.reduceMul, Nat.reduceAdd])) | (obtain ⟨t9, e9⟩ := P'; simp only [List.getElem?_cons_zero, List.getElem?_cons_succ, Option.some.injEq, Prod.mk.injEq] at e9; obtain ⟨e8, e7⟩ := e9; subst e8; subst e7)); (try dsimp only at N'); (try dsimp only))))
        k_with "m:MAssign Name" => (k_here; k_dflt (first
  | ((with_reducible refine' massign_name ?F_u11_15 ?N_u11_15 ?U_u11_15 ?C_u11_15 ?x_u11_15 ?k_u11_15 ?_); (case F_u11_15 => k_asm); (case N_u11_15 => k_asm); (case x_u11_15 => exact rfl); (case U_u11_15 => k_updF); (case C_u11_15 => first | (with_reducible assumption) | assumption); (case k_u11_15 => exact rfl); (intro h' o' F' N' c'; (try dsimp only at N'); (try dsimp only)))
  | ((with_reducible refine' massign_cell ?F_u11_15 ?N_u11_15 ?U_u11_15 ?K_u11_15 ?c_u11_15 ?k_u11_15 ?x_u11_15 ?_); (case F_u11_15 => k_asm); (case N_u11_15 => k_asm); (case c_u11_15 => exact rfl); (case U_u11_15 => k_updF); (case K_u11_15 => first | (with_reducible assumption) | assumption); (case k_u11_15 => exact rfl); (case x_u11_15 => exact rfl); (intro h' o' F' N' c'; (try dsimp only at N'); (try dsimp only)))); (try dsimp only))
        k_with "m:MAssign Tuple" => (k_here; k_dflt ((with_reducible refine' massign_pair ?hh_u11_16 ?S_u11_16 ?m_u11_16 ?s_u11_16 ?F_u11_16 ?N_u11_16 ?U_u11_16 ?C_u11_16 ?t_u11_16 ?x1_u11_16 ?x2_u11_16 ?k_u11_16 ?_); (case hh_u11_16 => exact rfl); (case F_u11_16 => k_asm); (case N_u11_16 => k_asm); (case S_u11_16 => first | (with_reducible assumption) | assumption); (case m_u11_16 => k_mem); (case s_u11_16 => lcg_src); (case U_u11_16 => k_updF); (case C_u11_16 => first | (with_reducible assumption) | assumption); (case t_u11_16 => first | exact News.isTup (by k_asm) (by k_mem) | exact isTup_base (by k_asm) (by k_asm) (by k_is)); (case x1_u11_16 => exact rfl); (case x2_u11_16 => exact rfl); (case k_u11_16 => exact rfl); (intro h' k' o' F' N' c'; (try dsimp only at N'))); (try dsimp only))
        k_with "m:compPost" => (k_here; k_dflt (first
  | (refine' mpost_none ?F_u11_17 ?N_u11_17 ?U_u11_17 ?e_u11_17 ?C_u11_17 ?_; (case F_u11_17 => k_asm); (case N_u11_17 => k_asm); (case C_u11_17 => first | (with_reducible assumption) | assumption); (case U_u11_17 => (repeat' (first | exact Pick.head | refine' Pick.tail ?_))); (case e_u11_17 => k_all); intro h' F' N')
  | (refine' mpost_some ?F_u11_17 ?N_u11_17 ?U_u11_17 ?e_u11_17 ?C_u11_17 ?mpy_u11_17 ?mpp_u11_17 ?_; (case F_u11_17 => k_asm); (case N_u11_17 => k_asm); (case C_u11_17 => first | (with_reducible assumption) | assumption); (case U_u11_17 => (repeat' (first | exact Pick.head | refine' Pick.tail ?_))); (case e_u11_17 => k_all); (case mpy_u11_17 => exact rfl); (case mpp_u11_17 => exact rfl); intro h' F' N')); (try dsimp only))
        k_with "m:dictSet" => (k_here; k_dflt (first
  | ((with_reducible refine' dset_K (knd := PySem.strKind _ _) ?F_u11_18 ?N_u11_18 ?U_u11_18 ?d_u11_18 (strKind_is _ _ _ _) ?z_u11_18 ?_); (case F_u11_18 => k_asm); (case N_u11_18 => k_asm); (case U_u11_18 => k_updF); (case d_u11_18 => first | (with_reducible assumption) | assumption); (case z_u11_18 => exact Nat.le_of_ble_eq_true rfl))
  | ((with_reducible refine' dset_K (knd := PySem.intKind _ _) ?F_u11_18 ?N_u11_18 ?U_u11_18 ?d_u11_18 (intKind_is _ _ _ _) ?z_u11_18 ?_); (case F_u11_18 => k_asm); (case N_u11_18 => k_asm); (case U_u11_18 => k_updF); (case d_u11_18 => first | (with_reducible assumption) | assumption); (case z_u11_18 => exact Nat.le_of_ble_eq_true rfl))); intro h' o' F' N' d'; (try dsimp only at N'); (try dsimp only))
      k_with "ld:bytes" =>
        k_with "m:call type:bytes" => (k_here; (with_reducible show wpAny _ _ (call (Value.type "bytes") [Value.ref _]) _ _ _); k_dflt (refine' mkb ?F_u12_0 ?N_u12_0 ?h_u12_0 ?l_u12_0 ?i_u12_0 ?r_u12_0 ?n_u12_0 ?_; (case F_u12_0 => k_asm); (case N_u12_0 => k_asm); (case h_u12_0 => exact rfl); (case l_u12_0 => first | exact News.isList (by k_asm) (by k_mem) | kba_isList); (case i_u12_0 => first | ((repeat' (first | exact IntsAre.nil | refine' IntsAre.cons _ _ ?_)); done) | kba_listInts); (case r_u12_0 => repeat' (first | exact True.intro | (refine' And.intro ⟨?_, ?_⟩ ?_) | lia | exact am0 (by decide) | exact am1 (by decide))); (case n_u12_0 => exact Nat.le_of_ble_eq_true rfl)); intro b' h' t' k' F' N' hb'; (try dsimp only))
      k_with "ld:be" =>
        k_with "m:call type:bytes" => (k_here; (with_reducible show wpAny _ _ (call (Value.type "bytes") [Value.ref _]) _ _ _); k_dflt (refine' mkb ?F_u13_0 ?N_u13_0 ?h_u13_0 ?l_u13_0 ?i_u13_0 ?r_u13_0 ?n_u13_0 ?_; (case F_u13_0 => k_asm); (case N_u13_0 => k_asm); (case h_u13_0 => exact rfl); (case l_u13_0 => first | exact News.isList (by k_asm) (by k_mem) | kba_isList); (case i_u13_0 => first | ((repeat' (first | exact IntsAre.nil | refine' IntsAre.cons _ _ ?_)); done) | kba_listInts); (case r_u13_0 => repeat' (first | exact True.intro | (refine' And.intro ⟨?_, ?_⟩ ?_) | with_reducible exact bA_lo _ | with_reducible exact bA_hi _ | exact am0 (by decide) | exact am1 (by decide) | lia | exact fd_lo (by lia) (by decide) | exact fd_256 (by lia))); (case n_u13_0 => exact Nat.le_of_ble_eq_true rfl)); intro b' h' t' k' F' N' hb'; (try dsimp only))
        k_with "m:binaryOp LShift int int" => (k_here; k_dflt (with_reducible refine' lshK ?a_u13_1 ?b_u13_1 ?c_u13_1 ?r_u13_1 ?_); (case r_u13_1 => first | exact (by decide : (1 : Int) * 2 ^ Int.toNat (8 * 1) = 256) | exact (by decide : (1 : Int) * 2 ^ Int.toNat (8 * 2) = 65536) | exact (by decide : (1 : Int) * 2 ^ Int.toNat (8 * 4) = 4294967296) | exact (by decide : (1 : Int) * 2 ^ Int.toNat (8 * 6) = 281474976710656)); (case a_u13_1 => decide); (case b_u13_1 => decide); (case c_u13_1 => decide))
        k_with "m:binaryOp Add bytes bytes" => (k_here; k_dflt (with_reducible refine' addb ?b_u13_2 ?c_u13_2 ?z_u13_2 ?_); (case b_u13_2 => kba_ints2); (case c_u13_2 => kba_ints2); (case z_u13_2 => first | exact Nat.le_of_ble_eq_true rfl | kba_size); intro d' t' k' hb'; (try dsimp only))
      k_with "ld:bits" =>
        k_with "m:p8" => ((repeat' (with_reducible first | assumption | exact And.left (by assumption) | exact And.right (by assumption) | refine Int.add_nonneg ?_ ?_ | refine Int.mul_nonneg ?_ ?_ | refine lt56 ?_ ?_ | refine lt48 ?_ ?_ | refine lt40 ?_ ?_ | refine lt32 ?_ ?_ | refine lt24 ?_ ?_ | refine lt16 ?_ ?_ | decide)); done)
        k_with "m:binaryOp LShift int int" => (k_here; (with_reducible show wpAny _ _ (binaryOp _ (Value.int _ _) (Value.int 8 _)) _ _ _); k_dflt (with_reducible refine' shl8 ?a_u14_1 ?b_u14_1 ?_); (case a_u14_1 => first | k_extra "m:p8" | lia); (case b_u14_1 => first | k_extra "m:p8" | lia))
        k_with "m:binaryOp BitOr int int" => (k_here; (with_reducible show wpAny _ _ (binaryOp _ (Value.int (_ * 256) _) (Value.int _ _)) _ _ _); k_dflt (with_reducible refine' or8 ?a_u14_2 ?b_u14_2 ?_); (case a_u14_2 => first | k_extra "m:p8" | lia); (case b_u14_2 => first | assumption | (constructor <;> lia)))
        k_with "m:pyIter bytes" => (k_here; k_bytesUnr)
      k_with "ld:item" =>
        k_with "m:subscriptTail" => (k_here; (with_reducible show wpAny _ _ (subscriptTail _ _ (Value.bytes _ _) (Value.int _ _)) _ _ _); k_dflt (refine' item_B ?a_u15_0 ?b_u15_0 ?c_u15_0 ?d_u15_0 ?_; (case a_u15_0 => k_asm); (case b_u15_0 => decide); (case c_u15_0 => exact rfl); (case d_u15_0 => exact Nat.le_of_ble_eq_true rfl)); intro t' k' i0' i1'; clear i0' i1'; (try dsimp only))
      k_with "ld:fold" =>
        k_with "m:k_mem" => first | (with_reducible assumption) | (with_reducible first | exact mm0 | exact mm1 | exact mm2 | exact mm3 | exact mm4 | exact mm5 | exact mm6 | exact mm7 | exact mm8 | exact mm9 | exact mm10 | exact mm11) | ((with_reducible (repeat' (first | assumption | exact List.mem_cons_self | refine List.mem_cons_of_mem _ ?_ | refine Sub9.mem (by assumption) ?_))); done)
        k_with "m:k_ne" => first | (with_reducible first | exact an0 (by assumption) | exact as0 (by assumption) | exact an1 (by assumption) | exact as1 (by assumption) | exact an2 (by assumption) | exact as2 (by assumption) | exact an3 (by assumption) | exact as3 (by assumption) | exact an4 (by assumption) | exact as4 (by assumption) | exact an5 (by assumption) | exact as5 (by assumption) | exact an6 (by assumption) | exact as6 (by assumption) | exact an7 (by assumption) | exact as7 (by assumption) | exact an8 (by assumption) | exact as8 (by assumption) | exact an9 (by assumption) | exact as9 (by assumption) | exact an10 (by assumption) | exact as10 (by assumption) | exact an11 (by assumption) | exact as11 (by assumption)) | ((with_reducible refine' Aps.ne (by assumption) ?_); (repeat' (first | exact List.Mem.head _ | with_reducible exact memA (by assumption) | refine' List.Mem.tail _ ?_)); done) | ((with_reducible refine' Ne.symm (Aps.ne (by assumption) ?_)); (repeat' (first | exact List.Mem.head _ | with_reducible exact memA (by assumption) | refine' List.Mem.tail _ ?_)); done)
        k_with "m:lcg_sub" => (with_reducible (repeat' (first | exact subn9 | (refine' subc ?_ ?_) | assumption | exact List.mem_cons_self | refine List.mem_cons_of_mem _ ?_ | refine Sub9.mem (by assumption) ?_))); done
      k_with "ld:cls" =>
        k_with "m:ktr_units" => first | (refine' room1 ?rh_u17_0 ?re_u17_0; (case rh_u17_0 => assumption); (case re_u17_0 => exact rfl)) | (refine' room0 ?rh_u17_0 ?re_u17_0; (case rh_u17_0 => assumption); (case re_u17_0 => exact rfl)) | exact roomz (by assumption) | ((simp only [units_under_make, units_in1, units_deeper, Around.mark_units, units_caller]); (first | (refine' room1 ?ri_u17_0 ?rf_u17_0; (case ri_u17_0 => assumption); (case rf_u17_0 => exact rfl)) | (refine' room0 ?ri_u17_0 ?rf_u17_0; (case ri_u17_0 => assumption); (case rf_u17_0 => exact rfl)) | exact roomz (by assumption))) | ((have hcL9 := cLine_is); (try simp only [units_under_make, units_in1, units_deeper, Around.mark_units, units_caller] at *); (try dsimp only [ktrTop] at *); lia)
      k_with "ld:four" =>
        k_with "m:call ref" => (k_here; (with_reducible show wpAny _ _ (call (Value.ref 402) _) _ _ _); (show wpAny _ _ (call (Value.ref 402) [Value.int _ _]) _ _ _); k_dflt (refine' Tell.valB (c_four _ _ _ ?h0_u18_0 ?h1_u18_0) ?hp_u18_0 ?B_u18_0 ?F_u18_0 ?X_u18_0 ?N_u18_0 ?T_u18_0 ?hk_u18_0 ?hd_u18_0 ?hu_u18_0 ?_; (case F_u18_0 => k_asm); (case N_u18_0 => k_asm); (case B_u18_0 => k_asm); (case X_u18_0 => k_asm); (case T_u18_0 => k_asm); (case hk_u18_0 => first | exact rfl | assumption); (case hd_u18_0 => ktr_room); (case hu_u18_0 => ktr_units); (case hp_u18_0 => lcg_sub); (case h0_u18_0 => lia); (case h1_u18_0 => lia)); intro b' t' h' tk' hb' F' N'; (try dsimp only); (try k_sweep); (try k_extra "m:fold"))
      k_with "ld:o_four" =>
        k_with "m:MLoop ListComp" => (k_here; refine Dbg.out ?_)
        k_with "m:binaryOp Pow int int" => (k_here; k_dflt (with_reducible refine' pow256 ?h9_u19_1 ?_; (case h9_u19_1 => assumption)); (try dsimp only))
        k_with "m:binaryOp FloorDiv int int" => (k_here; k_dflt (with_reducible refine' div256 ?h9_u19_2 ?_; (case h9_u19_2 => assumption)); (try dsimp only))
      k_with "ld:num" =>
        k_with "m:call ref" => (k_here; (with_reducible show wpAny _ _ (call (Value.ref 243) _) _ _ _); (show wpAny _ _ (call (Value.ref 243) [Value.int _ _, Value.int 2 _]) _ _ _); k_dflt (refine' Tell.valB (c_num2 _ _ _ _ ?h0_u20_0 ?h1_u20_0) ?hp_u20_0 ?B_u20_0 ?F_u20_0 ?X_u20_0 ?N_u20_0 ?T_u20_0 ?hk_u20_0 ?hd_u20_0 ?hu_u20_0 ?_; (case F_u20_0 => k_asm); (case N_u20_0 => k_asm); (case B_u20_0 => k_asm); (case X_u20_0 => k_asm); (case T_u20_0 => k_asm); (case hk_u20_0 => first | exact rfl | assumption); (case hd_u20_0 => ktr_room); (case hu_u20_0 => ktr_units); (case hp_u20_0 => lcg_sub); (case h0_u20_0 => lia); (case h1_u20_0 => lia)); intro b' t' h' tk' hb' F' N'; (try dsimp only); (try k_sweep); (try k_extra "m:fold"))
        k_with "m:call ref" => (k_here; (with_reducible show wpAny _ _ (call (Value.ref 243) _) _ _ _); (show wpAny _ _ (call (Value.ref 243) [Value.int _ _, Value.int 1 _]) _ _ _); k_dflt (refine' Tell.valB (c_num1 _ _ _ _ ?h0_u20_1 ?h1_u20_1) ?hp_u20_1 ?B_u20_1 ?F_u20_1 ?X_u20_1 ?N_u20_1 ?T_u20_1 ?hk_u20_1 ?hd_u20_1 ?hu_u20_1 ?_; (case F_u20_1 => k_asm); (case N_u20_1 => k_asm); (case B_u20_1 => k_asm); (case X_u20_1 => k_asm); (case T_u20_1 => k_asm); (case hk_u20_1 => first | exact rfl | assumption); (case hd_u20_1 => ktr_room); (case hu_u20_1 => ktr_units); (case hp_u20_1 => lcg_sub); (case h0_u20_1 => lia); (case h1_u20_1 => lia)); intro b' t' h' tk' hb' F' N'; (try dsimp only); (try k_sweep); (try k_extra "m:fold"))
        k_with "m:call ref" => (k_here; (with_reducible show wpAny _ _ (call (Value.ref 243) _) _ _ _); (show wpAny _ _ (call (Value.ref 243) [Value.int _ _, Value.int 4 _]) _ _ _); k_dflt (refine' Tell.valB (c_num4 _ _ _ _ ?h0_u20_2 ?h1_u20_2) ?hp_u20_2 ?B_u20_2 ?F_u20_2 ?X_u20_2 ?N_u20_2 ?T_u20_2 ?hk_u20_2 ?hd_u20_2 ?hu_u20_2 ?_; (case F_u20_2 => k_asm); (case N_u20_2 => k_asm); (case B_u20_2 => k_asm); (case X_u20_2 => k_asm); (case T_u20_2 => k_asm); (case hk_u20_2 => first | exact rfl | assumption); (case hd_u20_2 => ktr_room); (case hu_u20_2 => ktr_units); (case hp_u20_2 => lcg_sub); (case h0_u20_2 => lia); (case h1_u20_2 => lia)); intro b' t' h' tk' hb' F' N'; (try dsimp only); (try k_sweep); (try k_extra "m:fold"))
        k_with "m:call ref" => (k_here; (with_reducible show wpAny _ _ (call (Value.ref 243) _) _ _ _); (show wpAny _ _ (call (Value.ref 243) [Value.int _ _, Value.int 6 _]) _ _ _); k_dflt (refine' Tell.valB (c_num6 _ _ _ _ ?h0_u20_3 ?h1_u20_3) ?hp_u20_3 ?B_u20_3 ?F_u20_3 ?X_u20_3 ?N_u20_3 ?T_u20_3 ?hk_u20_3 ?hd_u20_3 ?hu_u20_3 ?_; (case F_u20_3 => k_asm); (case N_u20_3 => k_asm); (case B_u20_3 => k_asm); (case X_u20_3 => k_asm); (case T_u20_3 => k_asm); (case hk_u20_3 => first | exact rfl | assumption); (case hd_u20_3 => ktr_room); (case hu_u20_3 => ktr_units); (case hp_u20_3 => lcg_sub); (case h0_u20_3 => lia); (case h1_u20_3 => lia)); intro b' t' h' tk' hb' F' N'; (try dsimp only); (try k_sweep); (try k_extra "m:fold"))
      k_with "ld:o_num" =>
        k_with "m:MLoop ListComp" => (k_here; refine Dbg.out ?_)
        k_with "m:binaryOp RShift int int" => (k_here; k_dflt (with_reducible refine' shr_k ?h9_u21_1 ?_; (case h9_u21_1 => assumption)); (try dsimp only))
      k_with "ld:bridge" =>
        k_with "m:call ref" => (k_here; (with_reducible show wpAny _ _ (call (Value.ref 257) _) _ _ _); (show wpAny _ _ (call (Value.ref 257) [Value.ref _]) _ _ _); k_dflt (refine' Tell.valB (c_bridge _ _ _ _ _ _ _ ?h0_u22_0 ?h1_u22_0 ?h2_u22_0 ?h3_u22_0) ?hp_u22_0 ?B_u22_0 ?F_u22_0 ?X_u22_0 ?N_u22_0 ?T_u22_0 ?hk_u22_0 ?hd_u22_0 ?hu_u22_0 ?_; (case F_u22_0 => k_asm); (case N_u22_0 => k_asm); (case B_u22_0 => k_asm); (case X_u22_0 => k_asm); (case T_u22_0 => k_asm); (case hk_u22_0 => first | exact rfl | assumption); (case hd_u22_0 => ktr_room); (case hu_u22_0 => ktr_units); (case hp_u22_0 => lcg_sub); (case h0_u22_0 => lia); (case h1_u22_0 => lia); (case h2_u22_0 => lia); (case h3_u22_0 => lia)); intro b' t' h' tk' hb' F' N'; (try dsimp only); (try k_sweep); (try k_extra "m:fold"))
      k_with "ld:lbridge" =>
        k_with "m:call ref" => (k_here; (with_reducible show wpAny _ _ (call (Value.ref 407) _) _ _ _); (show wpAny _ _ (call (Value.ref 407) [Value.ref _]) _ _ _); k_dflt (refine' Tell.valB (c_lbridge _ _ _ _ _ _ _ ?h0_u23_0 ?h1_u23_0 ?h2_u23_0 ?h3_u23_0) ?hp_u23_0 ?B_u23_0 ?F_u23_0 ?X_u23_0 ?N_u23_0 ?T_u23_0 ?hk_u23_0 ?hd_u23_0 ?hu_u23_0 ?_; (case F_u23_0 => k_asm); (case N_u23_0 => k_asm); (case B_u23_0 => k_asm); (case X_u23_0 => k_asm); (case T_u23_0 => k_asm); (case hk_u23_0 => first | exact rfl | assumption); (case hd_u23_0 => ktr_room); (case hu_u23_0 => ktr_units); (case hp_u23_0 => lcg_sub); (case h0_u23_0 => omega); (case h1_u23_0 => omega); (case h2_u23_0 => omega); (case h3_u23_0 => omega)); intro b' t' h' tk' hb' F' N'; (try dsimp only); (try k_sweep); (try k_extra "m:fold"))
      k_with "ld:o_lbridge" =>
        k_with "m:MLoop ListComp" => (k_here; refine Dbg.out ?_)
        k_with "m:binaryOp Pow int int" => (k_here; k_dflt (with_reducible refine' pow256 ?h9_u24_1 ?_; (case h9_u24_1 => assumption)); (try dsimp only))
        k_with "m:binaryOp FloorDiv int int" => (k_here; k_dflt (with_reducible refine' div256 ?h9_u24_2 ?_; (case h9_u24_2 => assumption)); (try dsimp only))
      k_with "ld:onum" =>
        k_with "m:call ref" => (k_here; (with_reducible show wpAny _ _ (call (Value.ref 250) _) _ _ _); (show wpAny _ _ (call (Value.ref 250) [Value.bytes _ _]) _ _ _); k_dflt (refine' Tell.valI (c_onum2 _ _ _ _ _ ?hb_u25_0) ?hp_u25_0 ?B_u25_0 ?F_u25_0 ?X_u25_0 ?N_u25_0 ?T_u25_0 ?hk_u25_0 ?hd_u25_0 ?hu_u25_0 ?_; (case F_u25_0 => k_asm); (case N_u25_0 => k_asm); (case B_u25_0 => k_asm); (case X_u25_0 => k_asm); (case T_u25_0 => k_asm); (case hk_u25_0 => first | exact rfl | assumption); (case hd_u25_0 => ktr_room); (case hu_u25_0 => ktr_units); (case hp_u25_0 => lcg_sub); (case hb_u25_0 => kba_ints2)); intro t' h' tk' F' N'; (try dsimp only); (try k_sweep); (try k_extra "m:fold"))
        k_with "m:call ref" => (k_here; (with_reducible show wpAny _ _ (call (Value.ref 250) _) _ _ _); (show wpAny _ _ (call (Value.ref 250) [Value.bytes _ _]) _ _ _); k_dflt (refine' Tell.valI (c_onum4 _ _ _ _ _ _ _ ?hb_u25_1) ?hp_u25_1 ?B_u25_1 ?F_u25_1 ?X_u25_1 ?N_u25_1 ?T_u25_1 ?hk_u25_1 ?hd_u25_1 ?hu_u25_1 ?_; (case F_u25_1 => k_asm); (case N_u25_1 => k_asm); (case B_u25_1 => k_asm); (case X_u25_1 => k_asm); (case T_u25_1 => k_asm); (case hk_u25_1 => first | exact rfl | assumption); (case hd_u25_1 => ktr_room); (case hu_u25_1 => ktr_units); (case hp_u25_1 => lcg_sub); (case hb_u25_1 => kba_ints2)); intro t' h' tk' F' N'; (try dsimp only); (try k_sweep); (try k_extra "m:fold"))
        k_with "m:call ref" => (k_here; (with_reducible show wpAny _ _ (call (Value.ref 250) _) _ _ _); (show wpAny _ _ (call (Value.ref 250) [Value.bytes _ _]) _ _ _); k_dflt (refine' Tell.valI (c_onum6 _ _ _ _ _ _ _ _ _ ?hb_u25_2) ?hp_u25_2 ?B_u25_2 ?F_u25_2 ?X_u25_2 ?N_u25_2 ?T_u25_2 ?hk_u25_2 ?hd_u25_2 ?hu_u25_2 ?_; (case F_u25_2 => k_asm); (case N_u25_2 => k_asm); (case B_u25_2 => k_asm); (case X_u25_2 => k_asm); (case T_u25_2 => k_asm); (case hk_u25_2 => first | exact rfl | assumption); (case hd_u25_2 => ktr_room); (case hu_u25_2 => ktr_units); (case hp_u25_2 => lcg_sub); (case hb_u25_2 => kba_ints2)); intro t' h' tk' F' N'; (try dsimp only); (try k_sweep); (try k_extra "m:fold"))
      k_with "ld:put16" =>
        k_with "m:call ref" => (k_here; (with_reducible show wpAny _ _ (call (Value.ref 152) _) _ _ _); (show wpAny _ _ (call (Value.ref 152) [Value.int _ _]) _ _ _); k_dflt (refine' Tell.valB (c_put16 _ _ _ ?h0_u26_0 ?h1_u26_0) ?hp_u26_0 ?B_u26_0 ?F_u26_0 ?X_u26_0 ?N_u26_0 ?T_u26_0 ?hk_u26_0 ?hd_u26_0 ?hu_u26_0 ?_; (case F_u26_0 => k_asm); (case N_u26_0 => k_asm); (case B_u26_0 => k_asm); (case X_u26_0 => k_asm); (case T_u26_0 => k_asm); (case hk_u26_0 => first | exact rfl | assumption); (case hd_u26_0 => ktr_room); (case hu_u26_0 => ktr_units); (case hp_u26_0 => lcg_sub); (case h0_u26_0 => lia); (case h1_u26_0 => lia)); intro b' t' h' tk' hb' F' N'; (try dsimp only); (try k_sweep); (try k_extra "m:fold"))
      k_with "ld:rbridge" =>
        k_with "m:call ref" => (k_here; (with_reducible show wpAny _ _ (call (Value.ref 264) _) _ _ _); k_dflt (refine' use_rbridge _ _ _ _ _ _ _ _ _ _ ?hb_u27_0 ?hp_u27_0 ?B_u27_0 ?F_u27_0 ?X_u27_0 ?N_u27_0 ?T_u27_0 ?hk_u27_0 ?hd_u27_0 ?hu_u27_0 ?_; (case F_u27_0 => k_asm); (case N_u27_0 => k_asm); (case B_u27_0 => k_asm); (case X_u27_0 => k_asm); (case T_u27_0 => k_asm); (case hk_u27_0 => first | exact rfl | assumption); (case hd_u27_0 => ktr_room); (case hu_u27_0 => ktr_units); (case hp_u27_0 => lcg_sub); (case hb_u27_0 => kba_ints2)); intro q' n' t1' t2' h' tk' a0'  ob0' F' N'; (try simp only [mapc, mapn, List.cons_append, List.nil_append] at a0'); (try dsimp only); (try k_sweep); (try k_extra "m:fold"))
      k_with "ld:role" =>
        k_with "m:subscriptTail" => (k_here; (with_reducible show wpAny _ _ (subscriptTail _ (Expr.BinOp _ _ _ _) (Value.ref 265) (Value.int _ _)) _ _ _); k_dflt (refine' item_role ?a_u28_0 ?b_u28_0 ?c_u28_0 ?d_u28_0 ?lo_u28_0 ?hi_u28_0 ?_; (case a_u28_0 => k_asm); (case b_u28_0 => k_asm); (case c_u28_0 => k_is); (case d_u28_0 => repeat' constructor); (case lo_u28_0 => (rw [bitAnd_m2]; lia)); (case hi_u28_0 => (rw [bitAnd_m2]; lia))); intro t'; (try dsimp only))
        k_with "m:binaryOp BitAnd int int" => (k_here; (with_reducible show wpAny _ _ (binaryOp _ (Value.int _ _) (Value.int 240 _)) _ _ _); k_dflt ((with_reducible refine' and240 ?a_u28_1 ?_); (case a_u28_1 => constructor <;> lia)))
        k_with "m:binaryOp BitAnd int int" => (k_here; (with_reducible show wpAny _ _ (binaryOp _ (Value.int _ _) (Value.int 4095 _)) _ _ _); k_dflt ((with_reducible refine' and4095 ?a_u28_2 ?_); (case a_u28_2 => first | lia | (refine ob2_lo ?_ ?_ <;> constructor <;> lia))))
        k_with "m:binaryOp LShift int int" => (k_here; (with_reducible show wpAny _ _ (binaryOp _ (Value.int (_ / 16 * 16) _) (Value.int 8 _)) _ _ _); k_dflt ((with_reducible refine' shl8m ?a_u28_3 ?_); (case a_u28_3 => constructor <;> lia)))
        k_with "m:getMethod ref" => (k_here; (with_reducible show wpAny _ _ (getMethod (Value.ref 265) (PySem.Str.ofString "index") _) _ _ _); k_dflt (refine' tup_method ?F_u28_4 ?X_u28_4 ?l_u28_4 PySem.F.slot_tuple_index PySem.F.type_tuple_index ?_; (case F_u28_4 => k_asm); (case X_u28_4 => k_asm); (case l_u28_4 => k_is)))
        k_with "m:call builtin:tuple.index" => (k_here; k_dflt (refine' index_role ?F_u28_5 ?X_u28_5 ?l_u28_5 ?w_u28_5 ?lo_u28_5 ?hi_u28_5 ?_; (case F_u28_5 => k_asm); (case X_u28_5 => k_asm); (case l_u28_5 => k_is); (case w_u28_5 => repeat' constructor); (case lo_u28_5 => lia); (case hi_u28_5 => lia)))
        k_with "m:binaryOp RShift int int" => (k_here; (with_reducible show wpAny _ _ (binaryOp _ (Value.int _ _) (Value.int 8 _)) _ _ _); k_dflt (with_reducible refine shr8 ?_))
        k_with "m:binaryOp Pow int int" => (k_here; (with_reducible show wpAny _ _ (binaryOp _ (Value.int 2 _) (Value.int _ _)) _ _ _); k_dflt ((with_reducible refine' powK ?a_u28_7 ?b_u28_7 ?c_u28_7 ?r_u28_7 ?_); (case r_u28_7 => first | exact (by decide : (2 : Int) ^ Int.toNat 32 = 4294967296) | exact (by decide : (2 : Int) ^ Int.toNat 48 = 281474976710656) | exact (by decide : (2 : Int) ^ Int.toNat 40 = 1099511627776) | exact (by decide : (2 : Int) ^ Int.toNat 31 = 2147483648) | exact (by decide : (2 : Int) ^ Int.toNat 47 = 140737488355328)); (case a_u28_7 => decide); (case b_u28_7 => decide); (case c_u28_7 => decide)))
        k_with "m:subscriptTail List" => (k_here; (with_reducible show wpAny _ _ (subscriptTail _ (Expr.Name _ _) (Value.ref _) (Value.int _ _)) _ _ _); k_dflt (refine' item_roleL ?a_u28_8 ?b_u28_8 ?c_u28_8 ?lo_u28_8 ?hi_u28_8 ?_ ?hs_u28_8; (case a_u28_8 => k_asm); (case b_u28_8 => k_mem); (case c_u28_8 => repeat' constructor); (case lo_u28_8 => lia); (case hi_u28_8 => lia); (case hs_u28_8 => with_unfolding_all rfl)); intro t'; (try dsimp only))
      k_with "ld:trow" =>
        k_with "m:call ref" => (k_here; (with_reducible show wpAny _ _ (call (Value.ref 296) _) _ _ _); k_dflt (refine' use_trow _ _ _ _ _ _ _ _ ?hp_u29_0 ?B_u29_0 ?F_u29_0 ?X_u29_0 ?N_u29_0 ?T_u29_0 ?hk_u29_0 ?hd_u29_0 ?hu_u29_0 ?_; (case F_u29_0 => k_asm); (case N_u29_0 => k_asm); (case B_u29_0 => k_asm); (case X_u29_0 => k_asm); (case T_u29_0 => k_asm); (case hk_u29_0 => first | exact rfl | assumption); (case hd_u29_0 => ktr_room); (case hu_u29_0 => ktr_units); (case hp_u29_0 => lcg_sub)); intro x' d' k0' k1' k2' k3' k4' k5' k6' k7' h' tk' a0' a1'  ob1' F' N'; (try simp only [mapc, mapn, List.cons_append, List.nil_append] at a0'); (try simp only [mapc, mapn, List.cons_append, List.nil_append] at a1'); (try dsimp only); (try k_extra "m:fold"))
      k_with "ld:ttail" =>
        k_with "m:call ref" => (k_here; (with_reducible show wpAny _ _ (call (Value.ref 322) _) _ _ _); k_dflt (refine' use_ttail _ _ _ _ _ ?hp_u30_0 ?B_u30_0 ?F_u30_0 ?X_u30_0 ?N_u30_0 ?T_u30_0 ?hk_u30_0 ?hd_u30_0 ?hu_u30_0 ?_; (case F_u30_0 => k_asm); (case N_u30_0 => k_asm); (case B_u30_0 => k_asm); (case X_u30_0 => k_asm); (case T_u30_0 => k_asm); (case hk_u30_0 => first | exact rfl | assumption); (case hd_u30_0 => ktr_room); (case hu_u30_0 => ktr_units); (case hp_u30_0 => lcg_sub)); intro x' d' k0' k1' k2' k3' k4' h' tk' a0' a1'  ob1' F' N'; (try simp only [mapc, mapn, List.cons_append, List.nil_append] at a0'); (try simp only [mapc, mapn, List.cons_append, List.nil_append] at a1'); (try dsimp only); (try k_extra "m:fold"))
      k_with "ld:rrow" =>
        k_with "m:call ref" => (k_here; (with_reducible show wpAny _ _ (call (Value.ref 347) _) _ _ _); k_dflt (refine' use_rrow _ ?ok_u31_0 _ _ ?hb_u31_0 ?hp_u31_0 ?B_u31_0 ?F_u31_0 ?X_u31_0 ?N_u31_0 ?T_u31_0 ?hk_u31_0 ?hd_u31_0 ?hu_u31_0 ?_; (case F_u31_0 => k_asm); (case N_u31_0 => k_asm); (case B_u31_0 => k_asm); (case X_u31_0 => k_asm); (case T_u31_0 => k_asm); (case hk_u31_0 => first | exact rfl | assumption); (case hd_u31_0 => ktr_room); (case hu_u31_0 => ktr_units); (case hp_u31_0 => lcg_sub); (case ok_u31_0 => k_asm); (case hb_u31_0 => k_asm)); intro x' d' q' f' τ' t1' t2' n' fl' h' tk' a0' a1' a2' a3' f0' f1' ob1' ob2' F' N'; (try simp only [mapc, mapn, List.cons_append, List.nil_append] at a0'); (try simp only [mapc, mapn, List.cons_append, List.nil_append] at a1'); (try simp only [mapc, mapn, List.cons_append, List.nil_append] at a2'); (try simp only [mapc, mapn, List.cons_append, List.nil_append] at a3'); (try dsimp only [rowEs, ent, tup2] at N'); (try dsimp only); (try k_sweep); (try k_extra "m:fold"))
      k_with "ld:o_rrow" =>
        k_with "m:MLoop DictComp" => (k_here; refine Dbg.out ?_)
        k_with "m:dictSet" => (k_here; k_dflt ((with_reducible refine' dset_K (knd := PySem.strKind _ _) ?F_u32_1 ?N_u32_1 ?U_u32_1 ?d_u32_1 (strKind_is _ _ _ _) ?z_u32_1 ?_); (case F_u32_1 => k_asm); (case N_u32_1 => k_asm); (case U_u32_1 => k_updF); (case d_u32_1 => assumption); (case z_u32_1 => exact flagsUp_len _)); intro h' o' F' N' d'; (try dsimp only at N'); (try dsimp only))
        k_with "m:MAssign Tuple" => (k_here; k_dflt ((with_reducible refine' massign_pair ?hh_u32_2 ?S_u32_2 ?m_u32_2 ?s_u32_2 ?F_u32_2 ?N_u32_2 ?U_u32_2 ?C_u32_2 ?t_u32_2 ?x1_u32_2 ?x2_u32_2 ?k_u32_2 ?_); (case hh_u32_2 => exact rfl); (case F_u32_2 => k_asm); (case N_u32_2 => k_asm); (case S_u32_2 => first | (with_reducible assumption) | assumption); (case m_u32_2 => k_mem); (case s_u32_2 => lcg_src); (case U_u32_2 => k_updF); (case C_u32_2 => first | (with_reducible assumption) | assumption); (case t_u32_2 => exact isTup_base (by k_asm) (by k_asm) (by assumption)); (case x1_u32_2 => exact rfl); (case x2_u32_2 => exact rfl); (case k_u32_2 => exact rfl); (intro h' k' o' F' N' c'; (try dsimp only at N'))); (try dsimp only))
      k_with "ld:sum" =>
        k_with "m:call builtin:sum" => (k_here; (with_reducible show wpAny _ _ (call (Value.builtin "sum") [Value.ref _]) _ _ _); k_dflt (refine' sum_is ?hh_u33_0 ?F_u33_0 ?N_u33_0 ?hm_u33_0 ?hS_u33_0 ?_; (case hh_u33_0 => exact rfl); (case F_u33_0 => k_asm); (case N_u33_0 => k_asm); (case hS_u33_0 => assumption); (case hm_u33_0 => k_mem)); intro h' tk' t' F' N'; (try simp only [Int.zero_add]); (try dsimp only))
      k_with "ld:rocts" =>
        k_with "m:call ref" => (k_here; (with_reducible show wpAny _ _ (call (Value.ref 337) _) _ _ _); k_dflt (refine' use_rocts _ ?ok_u34_0 _ _ _ _ _ _ _ _ _ ?hfl_u34_0 ?hm_u34_0 ?hp_u34_0 ?B_u34_0 ?F_u34_0 ?X_u34_0 ?N_u34_0 ?T_u34_0 ?hk_u34_0 ?hd_u34_0 ?hu_u34_0 ?_; (case F_u34_0 => k_asm); (case N_u34_0 => k_asm); (case B_u34_0 => k_asm); (case X_u34_0 => k_asm); (case T_u34_0 => k_asm); (case hk_u34_0 => first | exact rfl | assumption); (case hd_u34_0 => ktr_room); (case hu_u34_0 => ktr_units); (case hp_u34_0 => lcg_sub); (case ok_u34_0 => k_asm); (case hfl_u34_0 => k_asm); (case hm_u34_0 => k_asm)); intro b' t' h' tk'  f0' F' N'; (try dsimp only); (try k_sweep); (try k_extra "m:fold"))
      k_with "ld:o_rocts" =>
        k_with "m:subscriptTail" => (k_here; (fail_if_success (with_reducible show wpAny _ _ (subscriptTail (PySem.Expr.Name _ _) _ _ _) _ _ _)); k_dflt (with_reducible refine kba_turn (value' := PySem.Expr.Name (PySem.Str.ofString "_") ⟨0, 0, 0, 0⟩) (fun _ => rfl) ?_))
        k_with "m:MLoop ListComp" => (k_here; (with_reducible show MLoop _ _ _ (Expr.ListComp _ [⟨_, _, [_], 0⟩] _ _) _ _ _ _ _); refine Dbg.out ?_)
        k_with "m:ite" => (k_here; k_dflt (with_reducible refine' ite_two ?_ ?_); intro ht9)
        k_with "m:getItem ref str" => (k_here; k_dflt (refine kdt_getItem (knd := PySem.strKind _ _) (by k_asm) (by k_mem) (by k_asm) (strKind_is _ _ _ _) (by assumption) ?_))
        k_with "m:MAssign Tuple" => (k_here; k_dflt ((with_reducible refine' massign_pair ?hh_u35_4 ?S_u35_4 ?m_u35_4 ?s_u35_4 ?F_u35_4 ?N_u35_4 ?U_u35_4 ?C_u35_4 ?t_u35_4 ?x1_u35_4 ?x2_u35_4 ?k_u35_4 ?_); (case hh_u35_4 => exact rfl); (case F_u35_4 => k_asm); (case N_u35_4 => k_asm); (case S_u35_4 => first | (with_reducible assumption) | assumption); (case m_u35_4 => k_mem); (case s_u35_4 => lcg_src); (case U_u35_4 => k_updF); (case C_u35_4 => first | (with_reducible assumption) | assumption); (case t_u35_4 => exact isTup_base (by k_asm) (by k_asm) (by assumption)); (case x1_u35_4 => exact rfl); (case x2_u35_4 => exact rfl); (case k_u35_4 => exact rfl); (intro h' k' o' F' N' c'; (try dsimp only at N'))); (try dsimp only))
        k_with "m:subscriptTail" => (k_here; (with_reducible show wpAny _ _ (subscriptTail _ _ (Value.ref _) (Value.str _ _)) _ _ _); k_dflt (refine kda_item (knd := PySem.strKind _ _) (by k_asm) (by k_mem) (by k_asm) (strKind_is _ _ _ _) (by assumption) ?_))
      k_with "ld:lrow" =>
        k_with "m:call ref" => (k_here; (with_reducible show wpAny _ _ (call (Value.ref 412) _) _ _ _); k_dflt (refine' use_lrow _ _ _ _ ?hS_u36_0 ?hlt_u36_0 _ _ ?hi_u36_0 ?P1_u36_0 ?P2_u36_0 ?hr1_u36_0 ?hr2_u36_0 ?B_u36_0 ?F_u36_0 ?X_u36_0 ?N_u36_0 ?T_u36_0 ?hk_u36_0 ?hd_u36_0 ?hu_u36_0 ?_; (case F_u36_0 => k_asm); (case N_u36_0 => k_asm); (case B_u36_0 => k_asm); (case X_u36_0 => k_asm); (case T_u36_0 => k_asm); (case hk_u36_0 => first | exact rfl | assumption); (case hd_u36_0 => ktr_room); (case hu_u36_0 => ktr_units); (case P1_u36_0 => (repeat' (first | exact Pick.head | refine' Pick.tail ?_))); (case hS_u36_0 => k_asm); (case P2_u36_0 => (repeat' (first | exact Pick.head | refine' Pick.tail ?_))); (case hlt_u36_0 => k_asm); (case hr1_u36_0 => k_all); (case hr2_u36_0 => k_all); (case hi_u36_0 => assumption)) ; intro R' r1' r2' p' x' d' q' f' D' τ' t1' t2' tb' b' n' k' fl' p' q' h' tk' S' a0' a1' a2' a3' a4' f0' f1' f2' f3' f4' ob2' ob4' ob5' F' N'; (try simp only [mapc, mapn, List.cons_append, List.nil_append] at a0'); (try simp only [mapc, mapn, List.cons_append, List.nil_append] at a1'); (try simp only [mapc, mapn, List.cons_append, List.nil_append] at a2'); (try simp only [mapc, mapn, List.cons_append, List.nil_append] at a3'); (try simp only [mapc, mapn, List.cons_append, List.nil_append] at a4'); (try dsimp only [rowEs, ent, tup2] at N'); (try dsimp only); (try k_sweep); (try k_extra "m:fold"))
      k_with "ld:o_lrow" =>
        k_with "m:compareOp Eq int int" => (k_here; k_dflt (with_reducible refine eq_any ?_); intro f'; (try dsimp only))
        k_with "m:subscriptTail" => (k_here; (with_reducible show wpAny _ _ (subscriptTail _ _ (Value.ref _) (Value.str _ _)) _ _ _); k_dflt (refine kda_item (knd := PySem.strKind _ _) (by k_asm) (by k_mem) (by k_asm) (strKind_is _ _ _ _) (by rfl) ?_))
        k_with "m:MLoop ListComp" => (k_here; (with_reducible show MLoop _ _ _ (Expr.ListComp _ [⟨_, _, [_], 0⟩] _ _) _ _ _ _ _); refine Dbg.out ?_)
        k_with "m:ite" => (k_here; k_dflt (with_reducible refine' ite_two ?_ ?_); intro ht9)
        k_with "m:subscriptTail" => (k_here; (with_reducible show wpAny _ _ (subscriptTail _ _ (Value.ref _) (Value.str _ _)) _ _ _); k_dflt (refine kda_item (knd := PySem.strKind _ _) (by k_asm) (by k_mem) (by k_asm) (strKind_is _ _ _ _) (by assumption) ?_))
        k_with "m:MLoop DictComp" => (k_here; refine Dbg.out ?_)
        k_with "m:dictSet" => (k_here; k_dflt ((with_reducible refine' dset_K (knd := PySem.strKind _ _) ?F_u37_6 ?N_u37_6 ?U_u37_6 ?d_u37_6 (strKind_is _ _ _ _) ?z_u37_6 ?_); (case F_u37_6 => k_asm); (case N_u37_6 => k_asm); (case U_u37_6 => k_updF); (case d_u37_6 => assumption); (case z_u37_6 => exact flagsUp_len _)); intro h' o' F' N' d'; (try dsimp only at N'); (try dsimp only))
      k_with "ld:sorted" =>
        k_with "m:call builtin:sorted" => (k_here; (with_reducible show wpAny _ _ (call (Value.builtin "sorted") [Value.ref _]) _ _ _); k_dflt (first
  | (refine' sorted_setI ?hh_u38_0 ?F_u38_0 ?N_u38_0 ?m_u38_0 ?d_u38_0 ?nd_u38_0 ?z_u38_0 ?_; (case hh_u38_0 => exact rfl); (case F_u38_0 => k_asm); (case N_u38_0 => k_asm); (case m_u38_0 => k_mem); (case d_u38_0 => assumption); (case nd_u38_0 => assumption); (case z_u38_0 => assumption))
  | (refine' sorted_dictI ?hh_u38_0 ?F_u38_0 ?N_u38_0 ?m_u38_0 ?d_u38_0 ?lo_u38_0 ?nd_u38_0 ?z_u38_0 ?_; (case hh_u38_0 => exact rfl); (case F_u38_0 => k_asm); (case N_u38_0 => k_asm); (case m_u38_0 => k_mem); (case d_u38_0 => assumption); (case lo_u38_0 => assumption); (case nd_u38_0 => exact nodup_of (by assumption)); (case z_u38_0 => first | assumption | lia))); intro q' c' h' tk' vs' ns' F' N' l1 i' p' m' n'; (try k_lt l1))
      k_with "ld:rdef" =>
        k_with "m:dictSet" => (k_here; k_dflt ((with_reducible refine' dset_K (knd := PySem.intKind _ _) ?F_u39_0 ?N_u39_0 ?U_u39_0 ?d_u39_0 (intKind_is _ _ _ _) ?z_u39_0 ?_); (case F_u39_0 => k_asm); (case N_u39_0 => k_asm); (case U_u39_0 => k_updF); (case d_u39_0 => assumption); (case z_u39_0 => (repeat' (first | exact Nat.le_refl _ | (refine Nat.le_trans (len_stored (n := 900) ?_) (by decide)) | (refine Nat.le_trans (len_stored (n := 800) ?_) (by decide)) | exact Nat.zero_le _)))); intro h' o' F' N' d'; (try dsimp only at N'); (try dsimp only))
      k_with "ld:region" =>
        k_with "m:call ref" => (k_here; (with_reducible show wpAny _ _ (call (Value.ref 385) _) _ _ _); k_dflt (refine' use_region _ _ _ _ ?hS_u40_0 ?hlt_u40_0 ?P1_u40_0 ?P2_u40_0 ?hr1_u40_0 ?hr2_u40_0 ?B_u40_0 ?F_u40_0 ?X_u40_0 ?N_u40_0 ?T_u40_0 ?hk_u40_0 ?hd_u40_0 ?hu_u40_0 ?_; (case F_u40_0 => k_asm); (case N_u40_0 => k_asm); (case B_u40_0 => k_asm); (case X_u40_0 => k_asm); (case T_u40_0 => k_asm); (case hk_u40_0 => first | exact rfl | assumption); (case hd_u40_0 => ktr_room); (case hu_u40_0 => ktr_units); (case P1_u40_0 => (repeat' (first | exact Pick.head | refine' Pick.tail ?_))); (case hS_u40_0 => k_asm); (case P2_u40_0 => (repeat' (first | exact Pick.head | refine' Pick.tail ?_))); (case hlt_u40_0 => k_asm); (case hr1_u40_0 => k_all); (case hr2_u40_0 => k_all)); intro R' r1' r2' q' dd' x' r' t1' t2' t3' b' kvs' ks' od' n' p' q' h' tk' S' a0' a1' f0' f1' f2' f3' f4' f5' f6' ob2' F' N'; (try simp only [mapc, mapn, List.cons_append, List.nil_append] at a0'); (try simp only [mapc, mapn, List.cons_append, List.nil_append] at a1'); (try dsimp only); (try k_sweep); (try k_extra "m:fold"))
      k_with "ld:o_region" =>
        k_with "m:call type:range" => (k_here; (rename Fr _ _ _ _ => F'); (rename News _ _ _ _ => N'); (with_unfolding_all refine range1_rows F' N' ?_; intro _ _ _ _ _ _ _ _ _))
        k_with "m:MSrc" => (k_here; k_dflt (refine' iter_many ?F_u41_1 ?N_u41_1 ?r_u41_1 ?q_u41_1 ?n_u41_1 ?_; (case F_u41_1 => k_asm); (case N_u41_1 => k_asm); (case r_u41_1 => assumption); (case q_u41_1 => exact (Int.toNat_of_nonneg (by lia)).symm); (case n_u41_1 => lia)); intro I' h' o' F' N' l1 S' x'; (try k_lt l1); clear x'; (try dsimp only))
        k_with "m:MLoop DictComp" => (k_here; refine Dbg.out ?_)
        k_with "m:dictSet" => (k_here; k_dflt ((with_reducible refine' dset_K (knd := PySem.intKind _ _) ?F_u41_3 ?N_u41_3 ?U_u41_3 ?d_u41_3 (intKind_is _ _ _ _) ?z_u41_3 ?_); (case F_u41_3 => k_asm); (case N_u41_3 => k_asm); (case U_u41_3 => k_updF); (case d_u41_3 => assumption); (case z_u41_3 => assumption)); intro h' o' F' N' d'; (try dsimp only at N'); (try dsimp only))
      k_with "ld:text" =>
        k_with "m:binaryOp Add bytes bytes" => (k_here; k_dflt ((with_reducible refine' addb ?b_u42_0 ?c_u42_0 ?z_u42_0 ?_); (case b_u42_0 => kba_ints2); (case c_u42_0 => kba_ints2); (case z_u42_0 => first | exact Nat.le_of_ble_eq_true rfl | (simp only [be2, be4, be6, List.length_append, List.length_cons, List.length_nil, List.length_replicate, List.length_map]; lia) | kba_size)); intro d' t' k' hb'; (try dsimp only))
        k_with "m:call type:bytes" => (k_here; (with_reducible show wpAny _ _ (call (Value.type "bytes") [Value.int _ _]) _ _ _); k_dflt ((with_reducible refine' bytes_int ?a_u42_1 ?b_u42_1 ?_); (case a_u42_1 => lia); (case b_u42_1 => lia)); intro b' t' k' hb'; (try dsimp only))
        k_with "m:call type:bytes" => (k_here; (with_reducible show wpAny _ _ (call (Value.type "bytes") [Value.bytes _ _]) _ _ _); k_dflt (with_reducible refine bytes_bytes ?_))
        k_with "m:getMethod str" => (k_here; (with_reducible show wpAny _ _ (getMethod (Value.str _ _) (PySem.Str.ofString "encode") _) _ _ _); k_dflt (with_reducible refine str_method PySem.F.slot_str_encode PySem.F.type_str_encode ?_))
        k_with "m:call builtin:str.encode" => (k_here; k_dflt (first | (with_reducible refine enc_call (by assumption) ?_) | (with_reducible refine enc_call2 (by assumption) ?_)); intro b' t' k' hb'; (try dsimp only))
      k_with "ld:name" =>
        k_with "m:call builtin:len" => (k_here; (with_reducible show wpAny _ _ (call (Value.builtin "len") [Value.str _ _]) _ _ _); k_dflt (refine len_name (by first | with_reducible assumption | exact mem45 (by with_reducible assumption)) ?_); intro n' k' t' n0' n1'; (try dsimp only))
        k_with "m:getMethod str" => (k_here; (with_reducible show wpAny _ _ (getMethod (Value.str _ _) (PySem.Str.ofString "isascii") _) _ _ _); k_dflt (with_reducible refine str_method PySem.F.slot_str_isascii PySem.F.type_str_isascii ?_))
        k_with "m:call builtin:str.isascii" => (k_here; k_dflt (with_reducible refine ascii_call (by first | with_reducible assumption | exact mem45 (by with_reducible assumption)) ?_); (try dsimp only))
        k_with "m:compareOp In str str" => (k_here; k_dflt (with_reducible refine zero_in (by first | with_reducible assumption | exact mem45 (by with_reducible assumption)) ?_); (try dsimp only))
      k_with "ld:locts" =>
        k_with "m:call ref" => (k_here; (with_reducible show wpAny _ _ (call (Value.ref 392) _) _ _ _); k_dflt (refine' use_locts _ _ _ _ _ _ _ _ _ _ ?hx_u44_0 ?hr_u44_0 ?hb_u44_0 ?hl_u44_0 ?hp_u44_0 ?B_u44_0 ?F_u44_0 ?X_u44_0 ?N_u44_0 ?T_u44_0 ?hk_u44_0 ?hd_u44_0 ?hu_u44_0 ?_; (case F_u44_0 => k_asm); (case N_u44_0 => k_asm); (case B_u44_0 => k_asm); (case X_u44_0 => k_asm); (case T_u44_0 => k_asm); (case hk_u44_0 => first | exact rfl | assumption); (case hd_u44_0 => ktr_room); (case hu_u44_0 => ktr_units); (case hp_u44_0 => lcg_sub); (case hx_u44_0 => first | assumption | exact List.mem_append_left _ (by assumption) | exact List.mem_append_right _ (.head _)); (case hr_u44_0 => assumption); (case hb_u44_0 => assumption); (case hl_u44_0 => assumption)); intro b' t' h' tk'  f0' F' N'; (try dsimp only); (try k_sweep); (try k_extra "m:fold"))
      k_with "ld:octs" =>
        k_with "m:call ref" => (k_here; (with_reducible show wpAny _ _ (call (Value.ref 210) _) _ _ _); k_dflt (refine' use_octs _ _ _ _ _ _ _ _ ?hx_u45_0 ?hr_u45_0 ?hb_u45_0 ?hl_u45_0 ?hp_u45_0 ?B_u45_0 ?F_u45_0 ?X_u45_0 ?N_u45_0 ?T_u45_0 ?hk_u45_0 ?hd_u45_0 ?hu_u45_0 ?_; (case F_u45_0 => k_asm); (case N_u45_0 => k_asm); (case B_u45_0 => k_asm); (case X_u45_0 => k_asm); (case T_u45_0 => k_asm); (case hk_u45_0 => first | exact rfl | assumption); (case hd_u45_0 => ktr_room); (case hu_u45_0 => ktr_units); (case hp_u45_0 => lcg_sub); (case hx_u45_0 => first | assumption | exact List.mem_append_left _ (by assumption) | exact List.mem_append_right _ (.head _)); (case hr_u45_0 => assumption); (case hb_u45_0 => assumption); (case hl_u45_0 => assumption)); intro b2' t' h' tk'  f0' F' N'; (try dsimp only); (try k_sweep); (try k_extra "m:fold"))
      k_with "ld:same" =>
        k_with "m:call ref" => (k_here; (with_reducible show wpAny _ _ (call (Value.ref 238) _) _ _ _); k_dflt (refine' use_same _ _ _ _ _ _ ?h1_u46_0 ?h2_u46_0 ?l1_u46_0 ?hp_u46_0 ?B_u46_0 ?F_u46_0 ?X_u46_0 ?N_u46_0 ?T_u46_0 ?hk_u46_0 ?hd_u46_0 ?hu_u46_0 ?_; (case F_u46_0 => k_asm); (case N_u46_0 => k_asm); (case B_u46_0 => k_asm); (case X_u46_0 => k_asm); (case T_u46_0 => k_asm); (case hk_u46_0 => first | exact rfl | assumption); (case hd_u46_0 => ktr_room); (case hu_u46_0 => ktr_units); (case hp_u46_0 => lcg_sub); (case h1_u46_0 => assumption); (case h2_u46_0 => assumption); (case l1_u46_0 => first | assumption | lia | exact (reg_cuts (by with_reducible assumption) (by assumption) (by assumption)).1)); intro  h' tk'   F' N'; (try dsimp only); (try k_sweep); (try k_extra "m:fold"))
      k_with "ld:dloop" =>
        k_with "m:pyIter ref" => (k_here; (with_reducible show wpAny _ _ (pyIter (Value.ref _)) (fun it s₂ => LoopAtV _ _ _ _ _ _ _ _ _ it s₂) _ _); k_dflt (refine' iter_dkeys (knd := PySem.intKind _ _) ?hh_u47_0 ?F_u47_0 ?N_u47_0 ?m_u47_0 ?d_u47_0 ?lo_u47_0 ?_ ?_; (case hh_u47_0 => exact rfl); (case F_u47_0 => k_asm); (case N_u47_0 => k_asm); (case m_u47_0 => k_mem); (case d_u47_0 => assumption); (case lo_u47_0 => assumption)); intro k' key' v' h' tk' I' oI' hin' hkey' hva' F' N' l1; (obtain ⟨t9, e9⟩ := Value.isInt_shape hkey'; subst e9; clear hkey'); (obtain ⟨⟨g1', g2'⟩, x', t', e', g3', g4'⟩ := Told.at (by assumption) hin'; subst e'); (try k_lt l1); (try dsimp only); rotate_left; intro h' tk' o' F' N'; (try dsimp only); rotate_right)
        k_with "m:subscriptTail" => (k_here; (with_reducible show wpAny _ _ (subscriptTail _ _ (Value.ref _) (Value.int _ _)) _ _ _); k_dflt (refine kda_item (knd := PySem.intKind _ _) (by k_asm) (by k_mem) (by assumption) (intKind_is _ _ _ _) (by rfl) ?_))
        k_with "m:DEnd" => (k_dflt (refine' dend_ ?F_u47_2 ?N_u47_2; (case F_u47_2 => k_asm); (case N_u47_2 => k_asm)))
        k_with "m:call type:dict" => (k_here; (with_reducible show wpAny _ _ (call (Value.type "dict") [Value.ref _]) _ _ _); k_dflt (refine' dict_copyK (knd := PySem.intKind _ _) ?F_u47_3 ?N_u47_3 ?b_u47_3 ?m_u47_3 ?d_u47_3 ?lo_u47_3 ?z_u47_3 ?_; (case F_u47_3 => k_asm); (case N_u47_3 => k_asm); (case b_u47_3 => exact modules_low (Top.nolimit (by k_asm))); (case m_u47_3 => k_mem); (case d_u47_3 => assumption); (case lo_u47_3 => assumption); (case z_u47_3 => rw [sizeLine_eq]; have z9 := Told.len (by assumption); lia)); intro d' h' o' F' N' l1 lo' hd'; (try k_lt l1))
        k_with "m:subscriptTail" => (k_here; (with_reducible show wpAny _ _ (subscriptTail _ _ (Value.ref _) (Value.int _ _)) _ _ _); k_dflt (refine kda_item (knd := PySem.intKind _ _) (by k_asm) (by k_mem) (by assumption) (intKind_is _ _ _ _) (by assumption) ?_))
      k_with "ld:check" =>
        k_with "m:call ref" => (k_here; (with_reducible show wpAny _ _ (call (Value.ref 224) _) _ _ _); k_dflt (refine' use_check _ _ _ _ _ _ _ ?hx_u48_0 ?hr_u48_0 ?ho_u48_0 ?hT_u48_0 ?hm_u48_0 ?hp_u48_0 ?B_u48_0 ?F_u48_0 ?X_u48_0 ?N_u48_0 ?T_u48_0 ?hk_u48_0 ?hd_u48_0 ?hu_u48_0 ?_; (case F_u48_0 => k_asm); (case N_u48_0 => k_asm); (case B_u48_0 => k_asm); (case X_u48_0 => k_asm); (case T_u48_0 => k_asm); (case hk_u48_0 => first | exact rfl | assumption); (case hd_u48_0 => ktr_room); (case hu_u48_0 => ktr_units); (case hp_u48_0 => lcg_sub); (case hx_u48_0 => assumption); (case hr_u48_0 => assumption); (case ho_u48_0 => assumption); (case hT_u48_0 => assumption); (case hm_u48_0 => assumption)); intro  h' tk'   F' N'; (try dsimp only); (try k_sweep); (try k_extra "m:fold"))
      k_with "ld:newreg" =>
        k_with "m:call ref" => (k_here; (with_reducible show wpAny _ _ (call (Value.ref 213) _) _ _ _); k_dflt (refine' use_newreg _ _ _ _ _ _ _ _ _ _ ?hx_u49_0 ?hr_u49_0 ?hb_u49_0 ?hl_u49_0 ?ho_u49_0 ?hT_u49_0 ?hm_u49_0 ?hp_u49_0 ?B_u49_0 ?F_u49_0 ?X_u49_0 ?N_u49_0 ?T_u49_0 ?hk_u49_0 ?hd_u49_0 ?hu_u49_0 ?_; (case F_u49_0 => k_asm); (case N_u49_0 => k_asm); (case B_u49_0 => k_asm); (case X_u49_0 => k_asm); (case T_u49_0 => k_asm); (case hk_u49_0 => first | exact rfl | assumption); (case hd_u49_0 => ktr_room); (case hu_u49_0 => ktr_units); (case hp_u49_0 => lcg_sub); (case hx_u49_0 => assumption); (case hr_u49_0 => assumption); (case hb_u49_0 => assumption); (case hl_u49_0 => assumption); (case ho_u49_0 => assumption); (case hT_u49_0 => assumption); (case hm_u49_0 => assumption)); intro i' d' d2' τ' od2' h' tk' a0' a1' a2' f0' f1' ob1' F' N'; (try simp only [mapc, mapn, List.cons_append, List.nil_append] at a0'); (try simp only [mapc, mapn, List.cons_append, List.nil_append] at a1'); (try simp only [mapc, mapn, List.cons_append, List.nil_append] at a2'); (try dsimp only); (try k_sweep); (try k_extra "m:fold"))
      k_with "ld:o_newreg" =>
        k_with "m:oldlt" => skip
        k_with "m:and" => walk_at "and0"
      k_with "ld:o_chkbad" =>
        k_with "m:compareOp In str str" => (k_here; k_dflt (with_reducible refine zero_in_a ?_); (try dsimp only))
      k_with "ld:o_badreg" =>
        k_with "m:call ref" => (k_here; (with_reducible show wpAny _ _ (call (Value.ref 224) _) _ _ _); k_dflt (refine' TellX.use (TellX.widen (by assumption) ?sub_u52_0) ?B_u52_0 ?F_u52_0 ?X_u52_0 ?N_u52_0 ?T_u52_0 ?hk_u52_0 ?hd_u52_0 ?hu_u52_0 ?_; (case F_u52_0 => k_asm); (case N_u52_0 => k_asm); (case B_u52_0 => k_asm); (case X_u52_0 => k_asm); (case T_u52_0 => k_asm); (case hk_u52_0 => first | exact rfl | assumption); (case hd_u52_0 => ktr_room); (case hu_u52_0 => ktr_units); (case sub_u52_0 => lcg_sub)); intro e' h' G' tk' H' FG' U' R'; (try dsimp only))
      k_with "ld:lookd" =>
        k_with "m:call builtin:dict.get" => (k_here; k_dflt (refine get_told (by k_asm) (by k_mem) (by assumption) (by assumption) (by assumption) ?_); intro t' tk'; (try dsimp only))
        k_with "m:getMethod ref" => (k_here; (with_reducible show wpAny _ _ (getMethod (Value.ref _) (Str.ofString "get") _) _ _ _); k_dflt (refine kdg_method (knd := PySem.intKind _ _) (by k_asm) (by k_mem) (by assumption) ?_))
        k_with "m:call builtin:sorted" => (k_here; (with_reducible show wpAny _ _ (call (Value.builtin "sorted") [Value.ref _]) _ _ _); k_dflt (refine' sorted_dictI ?hh_u53_2 ?F_u53_2 ?N_u53_2 ?m_u53_2 ?d_u53_2 ?lo_u53_2 ?nd_u53_2 ?z_u53_2 ?_; (case hh_u53_2 => exact rfl); (case F_u53_2 => k_asm); (case N_u53_2 => k_asm); (case m_u53_2 => k_mem); (case d_u53_2 => assumption); (case lo_u53_2 => assumption); (case nd_u53_2 => exact nodup_of (by assumption)); (case z_u53_2 => exact Nat.lt_of_le_of_lt (Told.len (by assumption)) (by decide))); intro q' c' h' tk' vs' ns' F' N' l1 i' p' m' n'; (try k_lt l1))
      k_with "ld:inst" =>
        k_with "m:call ref" => (k_here; (with_reducible show wpAny _ _ (call (Value.ref 186) _) _ _ _); k_dflt (refine' use_inst _ _ _ _ _ _ _ _ _ ?ho_u54_0 ?hT_u54_0 ?hm_u54_0 _ _ ?hp_u54_0 ?B_u54_0 ?F_u54_0 ?X_u54_0 ?N_u54_0 ?T_u54_0 ?hk_u54_0 ?hd_u54_0 ?hu_u54_0 ?_; (case F_u54_0 => k_asm); (case N_u54_0 => k_asm); (case B_u54_0 => k_asm); (case X_u54_0 => k_asm); (case T_u54_0 => k_asm); (case hk_u54_0 => first | exact rfl | assumption); (case hd_u54_0 => ktr_room); (case hu_u54_0 => ktr_units); (case hp_u54_0 => lcg_sub); (case ho_u54_0 => assumption); (case hT_u54_0 => assumption); (case hm_u54_0 => assumption)); intro t'' h' tk'   F' N'; (try dsimp only); (try k_sweep); (try k_extra "m:fold"))
      k_with "ld:nums" =>
        k_with "m:call ref" => (k_here; (with_reducible show wpAny _ _ (call (Value.ref 191) _) _ _ _); k_dflt (refine' use_nums _ _ _ _ _ _ _ _ _ ?ho_u55_0 ?hT_u55_0 ?hm_u55_0 ?hp_u55_0 ?B_u55_0 ?F_u55_0 ?X_u55_0 ?N_u55_0 ?T_u55_0 ?hk_u55_0 ?hd_u55_0 ?hu_u55_0 ?_; (case F_u55_0 => k_asm); (case N_u55_0 => k_asm); (case B_u55_0 => k_asm); (case X_u55_0 => k_asm); (case T_u55_0 => k_asm); (case hk_u55_0 => first | exact rfl | assumption); (case hd_u55_0 => ktr_room); (case hu_u55_0 => ktr_units); (case hp_u55_0 => lcg_sub); (case ho_u55_0 => assumption); (case hT_u55_0 => assumption); (case hm_u55_0 => assumption)); intro q' vs' ns' n' h' tk' a0' f0' f1' f2' f3' F' N'; (try simp only [mapc, mapn, List.cons_append, List.nil_append] at a0'); (try dsimp only); (try k_sweep); (try k_extra "m:fold"))
      k_with "ld:o_nums" =>
        k_with "m:MLoop DictComp" => (k_here; refine Dbg.out ?_)
      k_with "ld:bstr" =>
        k_with "m:getMethod bytes" => (k_here; k_dflt (first
  | ((with_reducible show wpAny _ _ (getMethod (Value.bytes _ _) (PySem.Str.ofString "rstrip") _) _ _ _); with_reducible refine bytes_method BF.slot_rstrip BF.type_rstrip ?_)
  | ((with_reducible show wpAny _ _ (getMethod (Value.bytes _ _) (PySem.Str.ofString "isascii") _) _ _ _); with_reducible refine bytes_method BF.slot_isascii BF.type_isascii ?_)
  | ((with_reducible show wpAny _ _ (getMethod (Value.bytes _ _) (PySem.Str.ofString "decode") _) _ _ _); with_reducible refine bytes_method FB.slot_bytes_decode FB.type_bytes_decode ?_)))
        k_with "m:call builtin:bytes.rstrip" => (k_here; k_dflt ((with_reducible refine' rstrip_call ?hx_u57_1 ?hb_u57_1 ?_); (case hx_u57_1 => with_reducible assumption); (case hb_u57_1 => assumption)); intro t' k'; (try dsimp only))
        k_with "m:call builtin:bytes.isascii" => (k_here; k_dflt ((with_reducible refine' isascii_call ?hx_u57_2 ?_); (case hx_u57_2 => with_reducible assumption)); (try dsimp only))
        k_with "m:call builtin:bytes.decode" => (k_here; k_dflt ((with_reducible refine' dec_call ?hx_u57_3 ?_); (case hx_u57_3 => with_reducible assumption)); intro t' k'; (try dsimp only))
        k_with "m:compareOp In bytes bytes" => (k_here; k_dflt (refine' in_bytes ?hh_u57_4 ?F_u57_4 ?N_u57_4 ?_; (case hh_u57_4 => exact rfl); (case F_u57_4 => k_asm); (case N_u57_4 => k_asm)); intro h' tk' F' N'; (try rw [find_zero (by with_reducible assumption)]); (try dsimp only))
      k_with "ld:lenb" =>
        k_with "m:call builtin:len" => (k_here; (with_reducible show wpAny _ _ (call (Value.builtin "len") [Value.bytes _ _]) _ _ _); k_dflt ((with_reducible refine' len_B ?a_u58_0 ?b_u58_0 ?c_u58_0 ?_); (case a_u58_0 => with_reducible assumption); (case b_u58_0 => with_reducible assumption); (case c_u58_0 => decide)); intro t' k'; (try dsimp only))
      k_with "ld:get16" =>
        k_with "m:call ref" => (k_here; (with_reducible show wpAny _ _ (call (Value.ref 159) _) _ _ _); k_dflt (refine' use_get16 _ _ _ _ _ _ ?hb_u59_0 ?hl_u59_0 ?hc_u59_0 ?ho_u59_0 ?hp_u59_0 ?B_u59_0 ?F_u59_0 ?X_u59_0 ?N_u59_0 ?T_u59_0 ?hk_u59_0 ?hd_u59_0 ?hu_u59_0 ?_; (case F_u59_0 => k_asm); (case N_u59_0 => k_asm); (case B_u59_0 => k_asm); (case X_u59_0 => k_asm); (case T_u59_0 => k_asm); (case hk_u59_0 => first | exact rfl | assumption); (case hd_u59_0 => ktr_room); (case hu_u59_0 => ktr_units); (case hp_u59_0 => lcg_sub); (case hb_u59_0 => k_asm); (case hl_u59_0 => assumption); (case hc_u59_0 => assumption); (case ho_u59_0 => lia)); intro t'' h' tk'   F' N'; (try dsimp only); (try k_sweep); (try k_extra "m:fold"))
      k_with "ld:o_get16" =>
        k_with "m:subscriptTail" => (k_here; (with_reducible show wpAny _ _ (subscriptTail _ (Expr.Slice _ _ none _) (Value.bytes _ _) (Value.ref _)) _ _ _); (with_reducible rename Fr _ _ _ _ => F'); (with_reducible rename News _ _ _ _ => N'); (refine KBc.slice_K (s := ⟨_, _, _, _, _⟩) F' N' (by kba_ints) (by constructor) (by constructor) (by kba_size) ?_); intro _ _ _ _ _ kbcK; (try simp only [Option.elim] at kbcK); (replace kbcK := kbcK.trans (by assumption)))
        k_with "m:subscriptTail" => (k_here; (with_reducible show wpAny _ _ (subscriptTail _ _ (Value.bytes _ _) (Value.int _ _)) _ _ _); k_dflt (refine' item_B ?a_u60_1 ?b_u60_1 ?c_u60_1 ?d_u60_1 ?_; (case a_u60_1 => k_asm); (case b_u60_1 => decide); (case c_u60_1 => assumption); (case d_u60_1 => lia)); intro t' k' i0' i1'; clear i0' i1'; (try dsimp only))
        k_with "m:exec For Name Subscript cons nil" => (k_here; (rename Fr _ _ _ _ => lF'); (with_unfolding_all refine' For_invVF lF' ?k1_u60_2 ?k2_u60_2 ?_; (case k1_u60_2 => exact rfl); (case k2_u60_2 => exact rfl); k_whole))
      k_with "ld:rreg" =>
        k_with "m:call ref" => (k_here; (with_reducible show wpAny _ _ (call (Value.ref 231) _) _ _ _); k_dflt (refine' use_rreg _ _ _ _ _ ?hx_u61_0 ?hr_u61_0 ?hb_u61_0 ?hl_u61_0 ?hp_u61_0 ?B_u61_0 ?F_u61_0 ?X_u61_0 ?N_u61_0 ?T_u61_0 ?hk_u61_0 ?hd_u61_0 ?hu_u61_0 ?_; (case F_u61_0 => k_asm); (case N_u61_0 => k_asm); (case B_u61_0 => k_asm); (case X_u61_0 => k_asm); (case T_u61_0 => k_asm); (case hk_u61_0 => first | exact rfl | assumption); (case hd_u61_0 => ktr_room); (case hu_u61_0 => ktr_units); (case hp_u61_0 => lcg_sub); (case hb_u61_0 => k_asm); (case hx_u61_0 => with_reducible assumption); (case hr_u61_0 => assumption); (case hl_u61_0 => assumption)); intro q' b2' t1' t2' t3' n' h' tk' a0' f0' ob0' F' N'; (try simp only [mapc, mapn, List.cons_append, List.nil_append] at a0'); (try dsimp only); (try k_sweep); (try k_extra "m:fold"))
      k_with "ld:o_rreg" =>
        k_with "m:subscriptTail" => (k_here; (with_reducible show wpAny _ _ (subscriptTail _ (Expr.Slice _ _ none _) (Value.bytes _ _) (Value.ref _)) _ _ _); (with_reducible rename Fr _ _ _ _ => F'); (with_reducible rename News _ _ _ _ => N'); (refine KBc.slice_K (s := ⟨_, _, _, _, _⟩) F' N' (by kba_ints) (by constructor) (by constructor) (by kba_size) ?_); intro _ _ _ _ _ kbcK; (try simp only [Option.elim] at kbcK); (replace kbcK := kbcK.trans (by assumption)))
        k_with "m:subscriptTail" => (k_here; (with_reducible show wpAny _ _ (subscriptTail _ _ (Value.bytes _ _) (Value.int _ _)) _ _ _); k_dflt (refine' item_B ?a_u62_1 ?b_u62_1 ?c_u62_1 ?d_u62_1 ?_; (case a_u62_1 => k_asm); (case b_u62_1 => decide); (case c_u62_1 => assumption); (case d_u62_1 => lia)); intro t' k' i0' i1'; clear i0' i1'; (try dsimp only))
        k_with "m:exec For Name Subscript cons nil" => (k_here; (rename Fr _ _ _ _ => lF'); (with_unfolding_all refine' For_invVF lF' ?k1_u62_2 ?k2_u62_2 ?_; (case k1_u62_2 => exact rfl); (case k2_u62_2 => exact rfl); k_whole))
      k_with "ld:eqs" =>
        k_with "m:compareOp NotEq bytes bytes" => (k_here; k_dflt ((with_reducible refine' ne_bytes_same ?hb_u63_0 ?hc_u63_0 ?_); (case hb_u63_0 => k_asm); (case hc_u63_0 => k_asm)); (try dsimp only))
        k_with "m:compareOp Eq ref ref" => (k_here; k_dflt ((with_reducible refine' eq_reg ?N_u63_1 ?hq_u63_1 ?hp_u63_1 ?hb_u63_1 ?hc_u63_1 ?hu_u63_1 ?_); (case N_u63_1 => k_asm); (case hq_u63_1 => k_mem); (case hp_u63_1 => k_mem); (case hb_u63_1 => k_asm); (case hc_u63_1 => k_asm); (case hu_u63_1 => ktr_units)); (try simp only [true_and, and_true, decide_true, Bool.not_true]); (try dsimp only))
        k_with "m:compareOp NotEq ref ref" => (k_here; k_dflt ((with_reducible refine' ne_reg ?N_u63_2 ?hq_u63_2 ?hp_u63_2 ?hb_u63_2 ?hc_u63_2 ?hu_u63_2 ?_); (case N_u63_2 => k_asm); (case hq_u63_2 => k_mem); (case hp_u63_2 => k_mem); (case hb_u63_2 => k_asm); (case hc_u63_2 => k_asm); (case hu_u63_2 => ktr_units)); (try simp only [true_and, and_true, decide_true, Bool.not_true]); (try dsimp only))
        k_with "m:compareOp NotEq bool bool" => (k_here; k_dflt ((with_reducible refine' ne_bool_same ?e_u63_3 ?_); (case e_u63_3 => exact reg_same (by with_reducible assumption) (by with_reducible assumption) (by assumption) (by assumption) (by assumption) (by assumption) (by assumption) (by assumption))); (try dsimp only))
      k_with "ld:tcut" =>
        k_with "m:subscriptTail" => (k_here; (with_reducible show wpAny _ _ (subscriptTail _ (Expr.Slice _ _ none _) (Value.ref _) (Value.ref _)) _ _ _); (with_reducible rename Fr _ _ _ _ => F'); (with_reducible rename News _ _ _ _ => N'); k_dflt (refine slice_tup (s := ⟨_, _, _, _, _⟩) F' N' (by k_mem) (by first | exact IsPart.none | exact part_eq (by (try simp only [Int.reduceAdd]); rfl)) (by first | exact IsPart.none | exact part_eq (by (try simp only [Int.reduceAdd]); rfl)) (by first | rfl | (simp (decide := true) [tupWhole, Builtin.Slice.sliceAdjust, Builtin.Slice.slicePlaces]; done)) (by first | kso_lit | (simp (decide := true) [tupCut, Builtin.Slice.sliceAdjust, Builtin.Slice.slicePlaces]; rfl)) (by exact Nat.le_of_ble_eq_true rfl) ?_); clear F' N'; intro D' h' F' N' l1; (try k_lt l1); (try dsimp only))
      k_with "ld:lists" =>
        k_with "m:binaryOp Add ref ref" => (k_here; k_dflt (refine' ladd ?F_u65_0 ?N_u65_0 ?a_u65_0 ?b_u65_0 ?i_u65_0 ?j_u65_0 ?z_u65_0 ?_; (case F_u65_0 => k_asm); (case N_u65_0 => k_asm); (case a_u65_0 => k_mem); (case b_u65_0 => k_mem); (case i_u65_0 => first | (with_reducible assumption) | (repeat' constructor)); (case j_u65_0 => first | (with_reducible assumption) | (repeat' constructor)); (case z_u65_0 => first | exact z_add (by assumption) (by assumption) | exact z_map (by assumption) (by assumption) | exact z_vals (by assumption))); intro D' us' h' F' N' l1 i'; (try k_lt l1))
        k_with "m:compareOp NotEq ref ref" => (k_here; k_dflt (refine' lne ?N_u65_1 ?a_u65_1 ?b_u65_1 ?i_u65_1 ?j_u65_1 ?e_u65_1 ?u_u65_1 ?_; (case N_u65_1 => k_asm); (case a_u65_1 => k_mem); (case b_u65_1 => k_mem); (case i_u65_1 => with_reducible assumption); (case j_u65_1 => with_reducible assumption); (case e_u65_1 => exact look_same (by assumption) (by assumption) (by assumption) (by assumption) (by assumption)); (case u_u65_1 => ktr_units)); (try dsimp only))
        k_with "m:compareOp Eq ref ref" => (k_here; k_dflt (refine' leq ?N_u65_2 ?a_u65_2 ?b_u65_2 ?i_u65_2 ?j_u65_2 ?e_u65_2 ?u_u65_2 ?_; (case N_u65_2 => k_asm); (case a_u65_2 => k_mem); (case b_u65_2 => k_mem); (case i_u65_2 => with_reducible assumption); (case j_u65_2 => with_reducible assumption); (case e_u65_2 => exact nums_same2 (by assumption) (by assumption) (by assumption) (by assumption) (by assumption) (by assumption)); (case u_u65_2 => ktr_units)); (try dsimp only))
        k_with "m:call type:list" => (k_here; (with_reducible show wpAny _ _ (call (Value.type "list") [Value.ref _]) _ _ _); k_dflt (refine' list_vals ?hh_u65_3 ?F_u65_3 ?N_u65_3 ?v_u65_3 ?m_u65_3 ?o_u65_3 ?t_u65_3 ?_; (case hh_u65_3 => exact rfl); (case F_u65_3 => k_asm); (case N_u65_3 => k_asm); (case v_u65_3 => k_mem); (case m_u65_3 => k_mem); (case o_u65_3 => assumption); (case t_u65_3 => assumption)); intro D' c' h' tk' vs' F' N' l1 i'; (try k_lt l1))
        k_with "m:call type:set" => (k_here; (with_reducible show wpAny _ _ (call (Value.type "set") [Value.ref _]) _ _ _); k_dflt (refine' setI_N ?F_u65_4 ?N_u65_4 ?hh_u65_4 (listAt ?N2_u65_4 ?m_u65_4) ?i_u65_4 ?z_u65_4 ?_; (case F_u65_4 => k_asm); (case N_u65_4 => k_asm); (case hh_u65_4 => exact rfl); (case N2_u65_4 => k_asm); (case m_u65_4 => k_mem); (case i_u65_4 => with_reducible assumption); (case z_u65_4 => exact z_four (by assumption))); intro S' h' tk' o' ms' F' N' l1 I' nd' m' z'; (try k_lt l1))
        k_with "m:EndI" => (k_here; k_dflt (refine' endI_ ?e_u65_5 ?F_u65_5 ?N_u65_5; (case e_u65_5 => first | exact rfl | assumption); (case F_u65_5 => k_asm); (case N_u65_5 => k_asm)))
        k_with "m:MLoop ListComp" => (k_here; k_dflt (refine' mints_look ?hh_u65_6 ?S_u65_6 ?hi_u65_6 ?hz_u65_6 ?F_u65_6 ?N_u65_6 ?hC_u65_6 ?hx_u65_6 ?hk_u65_6 ?hsr_u65_6 ?aC_u65_6 ?aD_u65_6 ?aI_u65_6 ?hs_u65_6 ?_ ?_; (case hh_u65_6 => exact rfl); (case S_u65_6 => assumption); (case hi_u65_6 => with_reducible assumption); (case hz_u65_6 => first | exact z_app (by assumption) (by assumption) | exact z_one (by assumption) (by assumption)); (case F_u65_6 => k_asm); (case N_u65_6 => k_asm); (case hC_u65_6 => assumption); (case hx_u65_6 => exact rfl); (case hk_u65_6 => exact rfl); (case hsr_u65_6 => exact fun h9 F9 N9 => srcIn_news N9 (by k_mem)); (case aC_u65_6 => assumption); (case aD_u65_6 => assumption); (case aI_u65_6 => assumption); (case hs_u65_6 => exact ⟨_, by assumption⟩)); intro k' t' h' tk' oC' oI' vs' c' E' hk' F' N' C'; (try dsimp only); rotate_left; intro h' tk' oC' oN' vs' c' F' N' C' i'; (try dsimp only); rotate_right)
      k_with "ld:regs" =>
        k_with "m:call ref" => (k_here; (with_reducible show wpAny _ _ (call (Value.ref 397) _) _ _ _); k_dflt (refine' use_regs _ _ _ _ ?hS_u66_0 ?hlt_u66_0 ?P1_u66_0 ?P2_u66_0 ?hr1_u66_0 ?hr2_u66_0 ?B_u66_0 ?F_u66_0 ?X_u66_0 ?N_u66_0 ?T_u66_0 ?hk_u66_0 ?hd_u66_0 ?hu_u66_0 ?_; (case F_u66_0 => k_asm); (case N_u66_0 => k_asm); (case B_u66_0 => k_asm); (case X_u66_0 => k_asm); (case T_u66_0 => k_asm); (case hk_u66_0 => first | exact rfl | assumption); (case hd_u66_0 => ktr_room); (case hu_u66_0 => ktr_units); (case P1_u66_0 => (repeat' (first | exact Pick.head | refine' Pick.tail ?_))); (case hS_u66_0 => k_asm); (case P2_u66_0 => (repeat' (first | exact Pick.head | refine' Pick.tail ?_))); (case hlt_u66_0 => k_asm); (case hr1_u66_0 => k_all); (case hr2_u66_0 => k_all)); intro R' r1' r2'  p' q' h' tk' S'   F' N'; (try dsimp only); (try k_sweep); (try k_extra "m:fold"))
      k_with "ld:o_regs" =>
        k_with "m:subscriptTail" => (k_here; (fail_if_success (with_reducible show wpAny _ _ (subscriptTail (PySem.Expr.Name _ _) _ _ _) _ _ _)); k_dflt (with_reducible refine kba_turn (value' := PySem.Expr.Name (PySem.Str.ofString "_") ⟨0, 0, 0, 0⟩) (fun _ => rfl) ?_))
        k_with "m:getMethod ref" => (k_here; (with_reducible show wpAny _ _ (getMethod (Value.ref _) (Str.ofString "values") _) _ _ _); k_dflt (refine' meth_values ?N9_u67_1 ?m9_u67_1 ?d9_u67_1 ?_; (case N9_u67_1 => k_asm); (case m9_u67_1 => k_mem); (case d9_u67_1 => assumption)))
        k_with "m:subscriptTail" => (k_here; (with_reducible show wpAny _ _ (subscriptTail _ _ (Value.ref _) (Value.int _ _)) _ _ _); k_dflt (refine item_told (by k_asm) (by k_mem) (by assumption) (by assumption) (by assumption) (by assumption) ?_); intro t' tk'; (try dsimp only))
        k_with "m:subscriptTail Name Slice ref ref" => (k_here; (with_reducible show wpAny _ _ (subscriptTail _ (Expr.Slice _ _ none _) (Value.ref _) (Value.ref _)) _ _ _); (with_reducible rename Fr _ _ _ _ => F'); (with_reducible rename News _ _ _ _ => N'); k_dflt (refine slice_tup (s := ⟨_, _, _, _, _⟩) F' N' (by k_mem) (by first | exact IsPart.none | exact part_eq (by (try simp only [Int.reduceAdd]); rfl)) (by first | exact IsPart.none | exact part_eq (by (try simp only [Int.reduceAdd]); rfl)) (by first | rfl | (simp (decide := true) [tupWhole, Builtin.Slice.sliceAdjust, Builtin.Slice.slicePlaces]; done)) (by first | kso_lit | (simp (decide := true) [tupCut, Builtin.Slice.sliceAdjust, Builtin.Slice.slicePlaces]; rfl)) (by exact Nat.le_of_ble_eq_true rfl) ?_); clear F' N'; intro D' h' F' N' l1; (try k_lt l1); (try dsimp only))
        k_with "m:compareOp Lt int int" => (k_here; k_dflt (with_reducible refine' lt_known ?h9_u67_4 ?_; (case h9_u67_4 => assumption)); (try dsimp only))
        k_with "m:subscriptTail" => (k_here; (with_reducible show wpAny _ _ (subscriptTail _ (Expr.Slice _ _ none _) (Value.ref _) (Value.ref _)) _ _ _); (with_reducible rename Fr _ _ _ _ => F'); (with_reducible rename News _ _ _ _ => N'); k_dflt (first
  | (refine slice_tup (s := ⟨_, _, _, _, _⟩) F' N' (by k_mem) IsPart.none (part_eq (by with_reducible rfl)) (whA (by assumption) (by assumption)) (eqA (by assumption) (by assumption)) lnA ?_)
  | (refine slice_tup (s := ⟨_, _, _, _, _⟩) F' N' (by k_mem) (part_eq (by with_reducible rfl)) (part_eq (by with_reducible rfl)) (whB (by assumption) (by assumption)) (eqB (by assumption) (by assumption)) lnB ?_)
  | (refine slice_tup (s := ⟨_, _, _, _, _⟩) F' N' (by k_mem) (part_eq (by with_reducible rfl)) IsPart.none (whC (by assumption) (by assumption)) (eqC (by assumption) (by assumption)) lnC ?_)); clear F' N'; intro D' h' F' N' l1; (try k_lt l1); (try dsimp only))
        k_with "m:subscriptTail Name Slice ref ref" => (k_here; (with_reducible show wpAny _ _ (subscriptTail _ (Expr.Slice _ _ none _) (Value.ref _) (Value.ref _)) _ _ _); (with_reducible rename Fr _ _ _ _ => F'); (with_reducible rename News _ _ _ _ => N'); k_dflt (first
  | (refine slice_tup (s := ⟨_, _, _, _, _⟩) F' N' (by k_mem) IsPart.none (part_eq (by with_reducible rfl)) (whA (by assumption) (by assumption)) (eqA (by assumption) (by assumption)) lnA ?_)
  | (refine slice_tup (s := ⟨_, _, _, _, _⟩) F' N' (by k_mem) (part_eq (by with_reducible rfl)) (part_eq (by with_reducible rfl)) (whB (by assumption) (by assumption)) (eqB (by assumption) (by assumption)) lnB ?_)
  | (refine slice_tup (s := ⟨_, _, _, _, _⟩) F' N' (by k_mem) (part_eq (by with_reducible rfl)) IsPart.none (whC (by assumption) (by assumption)) (eqC (by assumption) (by assumption)) lnC ?_)); clear F' N'; intro D' h' F' N' l1; (try k_lt l1); (try dsimp only))
        k_with "m:subscriptTail BinOp Slice ref ref" => (k_here; (with_reducible show wpAny _ _ (subscriptTail _ (Expr.Slice _ _ none _) (Value.ref _) (Value.ref _)) _ _ _); (with_reducible rename Fr _ _ _ _ => F'); (with_reducible rename News _ _ _ _ => N'); k_dflt (first
  | (refine slice_tup (s := ⟨_, _, _, _, _⟩) F' N' (by k_mem) IsPart.none (part_eq (by with_reducible rfl)) (whA (by assumption) (by assumption)) (eqA (by assumption) (by assumption)) lnA ?_)
  | (refine slice_tup (s := ⟨_, _, _, _, _⟩) F' N' (by k_mem) (part_eq (by with_reducible rfl)) (part_eq (by with_reducible rfl)) (whB (by assumption) (by assumption)) (eqB (by assumption) (by assumption)) lnB ?_)
  | (refine slice_tup (s := ⟨_, _, _, _, _⟩) F' N' (by k_mem) (part_eq (by with_reducible rfl)) IsPart.none (whC (by assumption) (by assumption)) (eqC (by assumption) (by assumption)) lnC ?_)); clear F' N'; intro D' h' F' N' l1; (try k_lt l1); (try dsimp only))
        k_with "m:subscriptTail" => (k_here; k_dflt (first | ((with_reducible show wpAny _ _ (subscriptTail _ _ (Value.ref _) (Value.int 0 _)) _ _ _); (with_reducible refine' PyProof.Rows.item_tupleT (l := [_, _, _, _]) (j := 0) ?t_u67_8 ?a_u67_8 ?b_u67_8 ?c_u67_8 ?d_u67_8 ?_); (case t_u67_8 => first | with_reducible exact News.isTup (by with_reducible assumption) (by k_mem) | exact News.isTup (by k_asm) (by k_mem)); (case a_u67_8 => decide); (case b_u67_8 => decide); (case c_u67_8 => exact rfl); (case d_u67_8 => exact rfl)) | ((with_reducible show wpAny _ _ (subscriptTail _ _ (Value.ref _) (Value.int 1 _)) _ _ _); (with_reducible refine' PyProof.Rows.item_tupleT (l := [_, _, _, _]) (j := 1) ?t_u67_8 ?a_u67_8 ?b_u67_8 ?c_u67_8 ?d_u67_8 ?_); (case t_u67_8 => first | with_reducible exact News.isTup (by with_reducible assumption) (by k_mem) | exact News.isTup (by k_asm) (by k_mem)); (case a_u67_8 => decide); (case b_u67_8 => decide); (case c_u67_8 => exact rfl); (case d_u67_8 => exact rfl)) | ((with_reducible show wpAny _ _ (subscriptTail _ _ (Value.ref _) (Value.int 2 _)) _ _ _); (with_reducible refine' PyProof.Rows.item_tupleT (l := [_, _, _, _]) (j := 2) ?t_u67_8 ?a_u67_8 ?b_u67_8 ?c_u67_8 ?d_u67_8 ?_); (case t_u67_8 => first | with_reducible exact News.isTup (by with_reducible assumption) (by k_mem) | exact News.isTup (by k_asm) (by k_mem)); (case a_u67_8 => decide); (case b_u67_8 => decide); (case c_u67_8 => exact rfl); (case d_u67_8 => exact rfl)) | ((with_reducible show wpAny _ _ (subscriptTail _ _ (Value.ref _) (Value.int 3 _)) _ _ _); (with_reducible refine' PyProof.Rows.item_tupleT (l := [_, _, _, _]) (j := 3) ?t_u67_8 ?a_u67_8 ?b_u67_8 ?c_u67_8 ?d_u67_8 ?_); (case t_u67_8 => first | with_reducible exact News.isTup (by with_reducible assumption) (by k_mem) | exact News.isTup (by k_asm) (by k_mem)); (case a_u67_8 => decide); (case b_u67_8 => decide); (case c_u67_8 => exact rfl); (case d_u67_8 => exact rfl))); (try dsimp only))
        k_with "m:subscriptTail Name Constant ref int" => (k_here; k_dflt (first | ((with_reducible show wpAny _ _ (subscriptTail _ _ (Value.ref _) (Value.int 0 _)) _ _ _); (with_reducible refine' PyProof.Rows.item_tupleT (l := [_, _, _, _]) (j := 0) ?t_u67_9 ?a_u67_9 ?b_u67_9 ?c_u67_9 ?d_u67_9 ?_); (case t_u67_9 => first | with_reducible exact News.isTup (by with_reducible assumption) (by k_mem) | exact News.isTup (by k_asm) (by k_mem)); (case a_u67_9 => decide); (case b_u67_9 => decide); (case c_u67_9 => exact rfl); (case d_u67_9 => exact rfl)) | ((with_reducible show wpAny _ _ (subscriptTail _ _ (Value.ref _) (Value.int 1 _)) _ _ _); (with_reducible refine' PyProof.Rows.item_tupleT (l := [_, _, _, _]) (j := 1) ?t_u67_9 ?a_u67_9 ?b_u67_9 ?c_u67_9 ?d_u67_9 ?_); (case t_u67_9 => first | with_reducible exact News.isTup (by with_reducible assumption) (by k_mem) | exact News.isTup (by k_asm) (by k_mem)); (case a_u67_9 => decide); (case b_u67_9 => decide); (case c_u67_9 => exact rfl); (case d_u67_9 => exact rfl)) | ((with_reducible show wpAny _ _ (subscriptTail _ _ (Value.ref _) (Value.int 2 _)) _ _ _); (with_reducible refine' PyProof.Rows.item_tupleT (l := [_, _, _, _]) (j := 2) ?t_u67_9 ?a_u67_9 ?b_u67_9 ?c_u67_9 ?d_u67_9 ?_); (case t_u67_9 => first | with_reducible exact News.isTup (by with_reducible assumption) (by k_mem) | exact News.isTup (by k_asm) (by k_mem)); (case a_u67_9 => decide); (case b_u67_9 => decide); (case c_u67_9 => exact rfl); (case d_u67_9 => exact rfl)) | ((with_reducible show wpAny _ _ (subscriptTail _ _ (Value.ref _) (Value.int 3 _)) _ _ _); (with_reducible refine' PyProof.Rows.item_tupleT (l := [_, _, _, _]) (j := 3) ?t_u67_9 ?a_u67_9 ?b_u67_9 ?c_u67_9 ?d_u67_9 ?_); (case t_u67_9 => first | with_reducible exact News.isTup (by with_reducible assumption) (by k_mem) | exact News.isTup (by k_asm) (by k_mem)); (case a_u67_9 => decide); (case b_u67_9 => decide); (case c_u67_9 => exact rfl); (case d_u67_9 => exact rfl))); (try dsimp only))
        k_with "m:exec If" => (k_here; (with_reducible show wpAny _ _ (exec (Stmt.If (PySem.Expr.Compare (PySem.Expr.Name (PySem.Str.ofString "way") _) _ _ _) _ _ _) _) _ _ _); k_dflt (refine' join_regs ?F_u67_10 ?N_u67_10 ?_ ?_; (case F_u67_10 => k_asm); (case N_u67_10 => k_asm)); rotate_left; intro h' tk' q' n' x' r' t1' t2' t3' dd' b' od' kvs' ks' g1' g2' g3' g4' g5' g6' g7' g8' g9' F' N'; (try dsimp only); rotate_right; ((rename @LT.lt Int _ _ 5 => z5); (rcases way4 (by assumption) z5 with e9 | e9) <;> clear z5; rotate_left; (subst e9); rotate_right))
        k_with "m:JoinR" => (k_here; k_dflt (refine' joinr_ ?N_u67_11 ?F_u67_11 ?mq_u67_11 ?md_u67_11 ?ml_u67_11 ?c1_u67_11 ?c2_u67_11 ?c3_u67_11 ?c4_u67_11 ?c5_u67_11 ?c6_u67_11 ?c7_u67_11 ?c8_u67_11 ?c9_u67_11; (case N_u67_11 => k_asm); (case F_u67_11 => first | k_asm | exact Fr.same rfl (by k_asm)); (case mq_u67_11 => k_mem); (case md_u67_11 => k_mem); (case ml_u67_11 => lcg_sub); (case c1_u67_11 => with_reducible assumption); (case c2_u67_11 => assumption); (case c3_u67_11 => assumption); (case c4_u67_11 => assumption); (case c5_u67_11 => assumption); (case c6_u67_11 => assumption); (case c7_u67_11 => assumption); (case c8_u67_11 => exact (Aps.c (by k_ne) (Aps.c (by k_ne) (Aps.c (by k_ne) (Aps.c (by k_ne) (Aps.n)))))); (case c9_u67_11 => exact (Aps.c (by k_ne) (Aps.c (by k_ne) (Aps.c (by k_ne) (Aps.c (by k_ne) (Aps.n))))))))
        k_with "m:binaryOp Add ref ref" => (k_here; (rename @LT.lt Int _ _ 4 => z4); k_dflt ((refine' addT_any (as := [src, l, L' + 1 + 1, L' + 1]) (ps := [(src, _), (l, _), (L' + 1 + 1, _), (L' + 1, _)]) ?F_u67_12 ?N_u67_12 ?mt_u67_12 ?mb_u67_12 rfl ?z_u67_12 ?At_u67_12 ?Ab_u67_12 rfl ?hs_u67_12 ?_); (case F_u67_12 => k_asm); (case N_u67_12 => k_asm); (case mt_u67_12 => k_mem); (case mb_u67_12 => k_mem); (case z_u67_12 => first | exact lnA4 lnB | exact lnB4 lnC); (case At_u67_12 => first | assumption | exact (Aps.c (by k_ne) (Aps.c (by k_ne) (Aps.c (by k_ne) (Aps.c (by k_ne) Aps.n))))); (case Ab_u67_12 => first | assumption | exact (Aps.c (by k_ne) (Aps.c (by k_ne) (Aps.c (by k_ne) (Aps.c (by k_ne) Aps.n))))); (case hs_u67_12 => exact subc (by k_mem) (subc (by k_mem) (subc (by k_mem) (subc (by k_mem) subn9))))); intro D' h' n' F' N' a9'; (try dsimp only))
        k_with "m:JoinR" => (k_here; k_dflt (refine' joinr_way (by assumption) (by assumption) ?N_u67_13 ?F_u67_13 ?mq_u67_13 ?md_u67_13 ?md2_u67_13 ?ml_u67_13 ?c1_u67_13 ?c2_u67_13 ?c3_u67_13 ?c4_u67_13 ?c5_u67_13 ?c6_u67_13 ?c7_u67_13 ?e1_u67_13 ?e2_u67_13 ?e3_u67_13 ?e4_u67_13 ?e5_u67_13 ?e6_u67_13 ?e7_u67_13 ?c8_u67_13 ?c9_u67_13 ?e9_u67_13; (case N_u67_13 => k_asm); (case F_u67_13 => k_asm); (case mq_u67_13 => k_mem); (case md_u67_13 => k_mem); (case md2_u67_13 => k_mem); (case ml_u67_13 => lcg_sub); (case c1_u67_13 => with_reducible assumption); (case c3_u67_13 => assumption); (case c2_u67_13 => assumption); (case c4_u67_13 => assumption); (case c5_u67_13 => assumption); (case c6_u67_13 => assumption); (case c7_u67_13 => assumption); (case e1_u67_13 => with_reducible assumption); (case e3_u67_13 => assumption); (case e2_u67_13 => assumption); (case e4_u67_13 => assumption); (case e5_u67_13 => assumption); (case e6_u67_13 => assumption); (case e7_u67_13 => assumption); (case c8_u67_13 => assumption); (case c9_u67_13 => exact (Aps.c (by k_ne) (Aps.c (by k_ne) (Aps.c (by k_ne) (Aps.c (by k_ne) Aps.n))))); (case e9_u67_13 => exact (Aps.c (by k_ne) (Aps.c (by k_ne) (Aps.c (by k_ne) (Aps.c (by k_ne) Aps.n)))))))
        k_with "m:execs cons" => (k_here; (with_reducible show wpAny _ _ (execs (Stmt.If (Expr.Compare (Expr.ListComp _ _ _ _) _ _ _) _ _ _ :: _) _) _ _ _); k_dflt ((refine' foldP (ps := [(src, _), (l, _)]) (as := [src, l]) ?zN_u67_14 ?zP_u67_14 ?zE_u67_14 ?zO_u67_14 ?_; (case zN_u67_14 => k_asm); (case zP_u67_14 => repeat' (first | exact Picks.nil | refine' Picks.cons ?_ ?_ | exact Pick.head | refine' Pick.tail ?_)); (case zE_u67_14 => repeat' (first | refine' Pre.cons ?_ | exact Pre.nil)); (case zO_u67_14 => repeat' (first | exact Offs.n | refine' Offs.c (by k_all) ?_))); intro R9; (repeat' (intro m9)); refine Fin9.mk ?_; intro s9; (repeat' (intro f9)); refine Fin9.mk ?_; intro N'; (try simp only [List.cons_append, List.nil_append] at N'); (try k_sweep)))
        k_with "m:execs cons" => (k_here; (with_reducible show wpAny _ _ (execs (Stmt.If (Expr.BoolOp _ _ _) _ _ _ :: _) _) _ _ _); k_dflt ((refine' foldP (ps := [(src, _), (l, _)]) (as := [src, l]) ?zN_u67_15 ?zP_u67_15 ?zE_u67_15 ?zO_u67_15 ?_; (case zN_u67_15 => k_asm); (case zP_u67_15 => repeat' (first | exact Picks.nil | refine' Picks.cons ?_ ?_ | exact Pick.head | refine' Pick.tail ?_)); (case zE_u67_15 => repeat' (first | refine' Pre.cons ?_ | exact Pre.nil)); (case zO_u67_15 => repeat' (first | exact Offs.n | refine' Offs.c (by k_all) ?_))); intro R9; (repeat' (intro m9)); refine Fin9.mk ?_; intro s9; (repeat' (intro f9)); refine Fin9.mk ?_; intro N'; (try simp only [List.cons_append, List.nil_append] at N'); (try k_sweep)))
        k_with "m:execs cons" => (k_here; (with_reducible show wpAny _ _ (execs (Stmt.Return (some (Expr.Compare _ _ _ _)) _ :: _) _) _ _ _); k_dflt ((refine' foldP (ps := [(src, _), (l, _)]) (as := [src, l]) ?zN_u67_16 ?zP_u67_16 ?zE_u67_16 ?zO_u67_16 ?_; (case zN_u67_16 => k_asm); (case zP_u67_16 => repeat' (first | exact Picks.nil | refine' Picks.cons ?_ ?_ | exact Pick.head | refine' Pick.tail ?_)); (case zE_u67_16 => repeat' (first | refine' Pre.cons ?_ | exact Pre.nil)); (case zO_u67_16 => repeat' (first | exact Offs.n | refine' Offs.c (by k_all) ?_))); intro R9; (repeat' (intro m9)); refine Fin9.mk ?_; intro s9; (repeat' (intro f9)); refine Fin9.mk ?_; intro N'; (try simp only [List.cons_append, List.nil_append] at N'); (try k_sweep)))
      k_with "ld:told8" =>
        k_with "m:call ref" => (k_here; (with_reducible show wpAny _ _ (call (Value.ref 293) _) _ _ _); k_dflt (refine' use_told8 _ _ _ _ _ _ ?hp_u68_0 ?B_u68_0 ?F_u68_0 ?X_u68_0 ?N_u68_0 ?T_u68_0 ?hk_u68_0 ?hd_u68_0 ?hu_u68_0 ?_; (case F_u68_0 => k_asm); (case N_u68_0 => k_asm); (case B_u68_0 => k_asm); (case X_u68_0 => k_asm); (case T_u68_0 => k_asm); (case hk_u68_0 => first | exact rfl | assumption); (case hd_u68_0 => ktr_room); (case hu_u68_0 => ktr_units); (case hp_u68_0 => lcg_sub)); intro z' u1' u2' u3' u4' u5' u6' n' h' tk' a0'  ob0' F' N'; (try simp only [mapc, mapn, List.cons_append, List.nil_append] at a0'); (try dsimp only); (try k_sweep); (try k_extra "m:fold"))
      k_with "ld:vector" =>
        k_with "m:call ref" => (k_here; (with_reducible show wpAny _ _ (call (Value.ref 286) _) _ _ _); k_dflt (refine' use_vector _ _ _ _ _ _ _ _ _ _ ?hp_u69_0 ?B_u69_0 ?F_u69_0 ?X_u69_0 ?N_u69_0 ?T_u69_0 ?hk_u69_0 ?hd_u69_0 ?hu_u69_0 ?_; (case F_u69_0 => k_asm); (case N_u69_0 => k_asm); (case B_u69_0 => k_asm); (case X_u69_0 => k_asm); (case T_u69_0 => k_asm); (case hk_u69_0 => first | exact rfl | assumption); (case hd_u69_0 => ktr_room); (case hu_u69_0 => ktr_units); (case hp_u69_0 => lcg_sub)); intro z' br' pp' u1' u2' u3' u4' u5' n' n2' n3' h' tk' a0' a1' a2'  ob0' ob1' ob2' F' N'; (try simp only [mapc, mapn, List.cons_append, List.nil_append] at a0'); (try simp only [mapc, mapn, List.cons_append, List.nil_append] at a1'); (try simp only [mapc, mapn, List.cons_append, List.nil_append] at a2'); (try dsimp only); (try k_sweep); (try k_extra "m:fold"))
      k_with "ld:o_toldt" =>
        k_with "m:MLoop ListComp" => (k_here; refine Dbg.out ?_)
      k_with "ld:bjoin" =>
        k_with "m:getMethod bytes" => (k_here; k_dflt ((with_reducible show wpAny _ _ (getMethod (Value.bytes _ _) (PySem.Str.ofString "join") _) _ _ _); with_reducible refine bytes_method BF.slot_join BF.type_join ?_))
        k_with "m:call builtin:bytes.join" => (k_here; k_dflt ((with_reducible refine' join_K ?N_u71_1 ?m_u71_1 ?o_u71_1 ?z_u71_1 ?_); (case N_u71_1 => k_asm); (case m_u71_1 => k_mem); (case o_u71_1 => assumption); (case z_u71_1 => assumption)); intro b' t' k' hb'; (try dsimp only))
      k_with "ld:tocts" =>
        k_with "m:call ref" => (k_here; (with_reducible show wpAny _ _ (call (Value.ref 342) _) _ _ _); k_dflt (refine' Tell.valB (c_tocts _ _ _ _ _ _ _ ?hb_u72_0 ?hr_u72_0 _ _ _ _ _ _ _ ?hc_u72_0 ?hh_u72_0 ?hpp_u72_0 ?hm_u72_0 _ _ _ ?hE_u72_0 ?hok_u72_0) ?hp_u72_0 ?B_u72_0 ?F_u72_0 ?X_u72_0 ?N_u72_0 ?T_u72_0 ?hk_u72_0 ?hd_u72_0 ?hu_u72_0 ?_; (case F_u72_0 => k_asm); (case N_u72_0 => k_asm); (case B_u72_0 => k_asm); (case X_u72_0 => k_asm); (case T_u72_0 => k_asm); (case hk_u72_0 => first | exact rfl | assumption); (case hd_u72_0 => ktr_room); (case hu_u72_0 => ktr_units); (case hp_u72_0 => lcg_sub); (case hb_u72_0 => assumption); (case hr_u72_0 => assumption); (case hc_u72_0 => assumption); (case hh_u72_0 => assumption); (case hpp_u72_0 => assumption); (case hm_u72_0 => assumption); (case hE_u72_0 => assumption); (case hok_u72_0 => assumption)); intro b' t' h' tk' hb' F' N'; (try dsimp only); (try k_sweep); (try k_extra "m:fold"))
      k_with "ld:o_tocts" =>
        k_with "m:MLoop ListComp" => (k_here; refine Dbg.out ?_)
      k_with "ld:o_rtail" =>
        k_with "m:MSrc" => (k_here; k_dflt (refine' iter_many ?F_u74_0 ?N_u74_0 ?r_u74_0 ?q_u74_0 ?n_u74_0 ?_; (case F_u74_0 => k_asm); (case N_u74_0 => k_asm); (case r_u74_0 => assumption); (case q_u74_0 => first | exact rfl | assumption); (case n_u74_0 => assumption)); intro I' h' o' F' N' l1 S' x'; (try k_lt l1); clear x'; (try dsimp only))
        k_with "m:compareOp NotEq ref ref" => (k_here; k_dflt (refine' lne_sorted (G := List.Pairwise (fun p q : Int => p < q) (List.map _ _)) ?N_u74_1 ?a_u74_1 ?b_u74_1 ?i_u74_1 ?j_u74_1 ?g_u74_1 ?p_u74_1 ?e_u74_1 ?e2_u74_1 ?u_u74_1 ?_ ?_; (case N_u74_1 => k_asm); (case a_u74_1 => k_mem); (case b_u74_1 => k_mem); (case i_u74_1 => with_reducible assumption); (case j_u74_1 => with_reducible assumption); (case g_u74_1 => exact Iff.rfl); (case p_u74_1 => with_reducible assumption); (case e_u74_1 => assumption); (case e2_u74_1 => assumption); (case u_u74_1 => ktr_units)) <;> intro g'; (try dsimp only))
        k_with "m:subscriptTail" => (k_here; (with_reducible show wpAny _ _ (subscriptTail _ (Expr.Slice _ _ none _) (Value.bytes _ _) (Value.ref _)) _ _ _); (with_reducible rename Fr _ _ _ _ => F'); (with_reducible rename News _ _ _ _ => N'); (refine KBc.slice_K (s := ⟨_, _, _, _, _⟩) F' N' (by kba_ints) (by constructor) (by constructor) (by kba_size) ?_); intro _ _ _ _ _ kbcK; (try simp only [Option.elim] at kbcK); (replace kbcK := kbcK.trans (by assumption)))
        k_with "m:subscriptTail" => (k_here; (with_reducible show wpAny _ _ (subscriptTail _ _ (Value.bytes _ _) (Value.int _ _)) _ _ _); k_dflt (refine' item_B ?a_u74_3 ?b_u74_3 ?c_u74_3 ?d_u74_3 ?_; (case a_u74_3 => k_asm); (case b_u74_3 => decide); (case c_u74_3 => assumption); (case d_u74_3 => assumption)); intro t' k' i0' i1'; clear i0' i1'; (try dsimp only))
        k_with "m:MLoop ListComp" => (k_here; refine Dbg.out ?_)
        k_with "m:MLoop DictComp" => (k_here; refine Dbg.out ?_)
        k_with "m:exec Assign cons ListComp" => (k_here; (with_reducible show wpAny _ _ (exec (Stmt.Assign _ (Expr.ListComp (Expr.Call _ _ _ _) _ _ _) _) _) _ _ _); refine Dbg.out ?_)
      k_with "ld:lam" =>
        k_with "m:eval Lambda" => (k_here; (with_reducible show wpAny _ _ (eval (Expr.Lambda _ _ _ _) (compEnvC _ _ _ _)) _ _ _); k_dflt (refine' kla_eval ?d0_u75_0 (lam_comp ?hk0_u75_0 ?_); (case d0_u75_0 => exact rfl); (case hk0_u75_0 => exact rfl)); (first | (k_dflt (refine' kla_nest ?F_u75_0 ?N_u75_0 ?T_u75_0 ?C_u75_0 ?cd_u75_0 ?U_u75_0 ?t_u75_0 ?n_u75_0 ?cl_u75_0 ?_; (case F_u75_0 => k_asm); (case N_u75_0 => k_asm); (case T_u75_0 => k_asm); (case cd_u75_0 => exact rfl); (case C_u75_0 => kn_code); (case U_u75_0 => k_updF); (case t_u75_0 => kn_triples); (case n_u75_0 => kn_among); (case cl_u75_0 => exact rfl); k_whole); intro f' c' oc' vs' t' ct' h' tk' F' N' d1' d2' l1 l2; (try dsimp only at N'); (try k_lt l1); (try k_lt2 l2)) | (k_dflt (refine' kla_hit ?F_u75_0 ?N_u75_0 ?T_u75_0 ?C_u75_0 ?cd_u75_0 ?mem_u75_0 ?t_u75_0 ?n_u75_0 ?cl_u75_0 ?_; (case F_u75_0 => k_asm); (case N_u75_0 => k_asm); (case T_u75_0 => k_asm); (case cd_u75_0 => exact rfl); (case C_u75_0 => kn_code); (case mem_u75_0 => k_mem); (case t_u75_0 => kn_triples); (case n_u75_0 => kn_hit); (case cl_u75_0 => exact rfl); k_whole); intro f' ct' h' tk' F' N' l1; (try dsimp only at N'); (try k_lt l1))))
      k_with "ld:o_lamrt" =>
        k_with "m:eval Name" => (k_here; k_dflt (refine' nameX_F ?N_u76_0 ?c_u76_0 ?m_u76_0 ?d_u76_0 ?_ ?a_u76_0 ?b_u76_0; (case a_u76_0 => rfl); (case b_u76_0 => rfl); (case N_u76_0 => k_asm); (case c_u76_0 => rfl); (case m_u76_0 => k_mem); (case d_u76_0 => k_asm); k_whole))
        k_with "m:call ref" => (k_here; (with_reducible show wpAny _ _ (call (Value.ref 352) _) _ _ _); k_dflt (refine' TellX.use (TellX.widen (by assumption) (by intro p hp; cases hp)) ?B_u76_1 ?F_u76_1 ?X_u76_1 ?N_u76_1 ?T_u76_1 ?hk_u76_1 ?hd_u76_1 ?hu_u76_1 ?_; (case F_u76_1 => k_asm); (case N_u76_1 => k_asm); (case B_u76_1 => k_asm); (case X_u76_1 => k_asm); (case T_u76_1 => k_asm); (case hk_u76_1 => first | exact rfl | assumption); (case hd_u76_1 => ktr_room); (case hu_u76_1 => ktr_units)); intro e' h' G' tk' H' FG' U' R'; (try dsimp only))
      k_with "ld:o_tails3" =>
        k_with "m:MMake ListComp" => (k_here; k_dflt ((with_reducible refine' mmake_list1 ?hh_u77_0 ?F_u77_0 ?N_u77_0 ?S_u77_0 ?m_u77_0 ?s_u77_0 ?c_u77_0 ?p_u77_0 ?_); (case hh_u77_0 => exact rfl); (case F_u77_0 => k_asm); (case N_u77_0 => k_asm); (case S_u77_0 => assumption); (case m_u77_0 => k_mem); (case s_u77_0 => lcg_src); (case c_u77_0 => exact fun _ _ => rfl); (case p_u77_0 => exact fun _ => rfl); intro D' C' K' h' o' oK' F' N' l1 l2 l3 c' k'; (try (have a8' := aps_lt2 l1 l2; simp only [mapc, mapn] at a8')); (try (have a7' := aps_lt3 l1 l2 l3; simp only [mapc, mapn] at a7')); (try k_lt l1)))
        k_with "m:call ref" => (k_here; (with_reducible show wpAny _ _ (call (Value.ref 380) _) _ _ _); k_dflt (refine' c_refused (C := 51) (d := 70) (u := 1400) ?hC_u77_1 (TellX.widen (c_lamrt _ _ _ _ _ _ _ _ _ _ _ _ _ _ _ _ _ ?hX_u77_1 ?h1_u77_1 ?h2_u77_1 ?h3_u77_1) ?hs_u77_1) ?hmem_u77_1 ?B_u77_1 ?F_u77_1 ?X_u77_1 ?N_u77_1 ?T_u77_1 ?XB_u77_1 ?TB_u77_1 ?T0_u77_1 ?hk_u77_1 ?hd_u77_1 ?hu_u77_1 ?_; (case F_u77_1 => k_asm); (case N_u77_1 => k_asm); (case B_u77_1 => k_asm); (case X_u77_1 => k_asm); (case T_u77_1 => k_asm); (case XB_u77_1 => assumption); (case TB_u77_1 => assumption); (case T0_u77_1 => assumption); (case hC_u77_1 => kernel_rfl); (case hmem_u77_1 => k_mem); (case hs_u77_1 => exact List.forall_mem_cons.mpr ⟨by k_mem, List.forall_mem_cons.mpr ⟨by k_mem, List.forall_mem_cons.mpr ⟨by k_mem, List.forall_mem_nil _⟩⟩⟩); (case h1_u77_1 => assumption); (case h2_u77_1 => assumption); (case h3_u77_1 => assumption); (case hX_u77_1 => exact hx _); (case hk_u77_1 => exact rfl); (case hd_u77_1 => ktr_room); (case hu_u77_1 => ktr_units)); intro h' tk' g' T0' F' N' B' X' T'; (try dsimp only))
        k_with "m:MLoop ListComp" => (k_here; (with_reducible show MLoop _ _ _ (Expr.ListComp _ [⟨_, _, [_], 0⟩] _ _) _ _ _ _ _); refine Dbg.out ?_)
      k_with "ld:o_tails2" =>
        k_with "m:subscriptTail Name" => k_extra "m:subscriptTail"
        k_with "m:subscriptTail Name Constant ref int" => k_extra "m:subscriptTail"
        k_with "m:call builtin:list.append" => (k_here; (with_reducible show wpAny _ _ (call (Value.builtin _) [Value.ref _, _]) _ _ _); k_dflt ((with_reducible refine' append_K ?k1_u78_2 ?k2_u78_2 ?k3_u78_2 ?_ ?z_u78_2); (case k1_u78_2 => k_asm); (case k2_u78_2 => k_asm); (case k3_u78_2 => k_upd); (case z_u78_2 => first | exact Nat.le_of_ble_eq_true rfl | size_fits); k_whole); intro h' F' N'; (try k_sweep))
        k_with "m:binaryOp Add bytes bytes" => (k_here; k_dflt ((with_reducible refine' addb ?b_u78_3 ?c_u78_3 ?z_u78_3 ?_); (case b_u78_3 => kba_ints2); (case c_u78_3 => kba_ints2); (case z_u78_3 => first | (simp only [List.length_append, List.length_cons, List.length_nil, List.length_replicate]; lia) | kba_size)); intro d' t' k' hb'; (try dsimp only))
        k_with "m:oldlt" => skip
        k_with "m:and" => walk_at "and0"
        k_with "m:pyIter ref" => (k_here; (with_reducible show wpAny _ _ (pyIter (Value.ref _)) (fun it s₂ => LoopAtT _ _ _ _ _ _ _ _ _ it s₂) _ _); refine Dbg.out ?_)
        k_with "m:exec For Tuple Name cons nil" => (k_here; k_dflt (refine' For_invTF ?F_u78_7 ?_ ?hs_u78_7 ?hE_u78_7; (case F_u78_7 => k_asm); (case hs_u78_7 => intro _; exact rfl); (case hE_u78_7 => first | assumption | passes_own)))
        k_with "m:subscriptTail" => (k_here; (with_reducible show wpAny _ _ (subscriptTail _ (Expr.Slice _ _ none _) (Value.bytes _ _) (Value.ref _)) _ _ _); (with_reducible rename Fr _ _ _ _ => F'); (with_reducible rename News _ _ _ _ => N'); (refine KBc.slice_K (s := ⟨_, _, _, _, _⟩) F' N' (by with_reducible assumption) (by constructor) (by constructor) (by lia) ?_); intro _ _ _ _ _ kbcK; (try simp only [Option.elim] at kbcK))
        k_with "m:exec If" => (k_here; (with_reducible show wpAny _ _ (exec (Stmt.If (Expr.Compare (Expr.Call _ _ _ _) _ _ _) _ _ _) _) _ _ _); (fail_if_success (rename (∀ t : Tok, TellX _ _ [Value.bytes _ t] _ _ _ _) => zz9)); refine Dbg.out ?_)
        k_with "m:call builtin:len" => (k_here; (with_reducible show wpAny _ _ (call (Value.builtin "len") [Value.ref _]) _ _ _); k_dflt (refine' PyProof.Rows.len_list (listAt (vs := pairRefs (_ :: _)) ?N_u78_10 ?m_u78_10) ?z_u78_10 ?_; (case N_u78_10 => k_asm); (case m_u78_10 => k_mem); (case z_u78_10 => (simp only [List.size_toArray, List.length_map]; lia))); (try simp only [List.size_toArray, List.length_map, List.length_cons]); (try dsimp only))
        k_with "m:subscriptTail" => (k_here; (with_reducible show wpAny _ _ (subscriptTail _ _ (Value.ref _) (Value.int _ _)) _ _ _); k_dflt (refine' item_pair0 (listAt (vs := pairRefs (_ :: _)) ?N_u78_11 ?m_u78_11) ?_; (case N_u78_11 => k_asm); (case m_u78_11 => k_mem)); (try dsimp only))
        k_with "m:subscriptTail" => (k_here; (with_reducible show wpAny _ _ (subscriptTail _ _ (Value.ref _) (Value.int 1 _)) _ _ _); k_dflt (refine' PyProof.Rows.item_tupleT (l := [_, _]) (j := 1) ?t_u78_12 ?a_u78_12 ?b_u78_12 ?c_u78_12 ?d_u78_12 ?_; (case t_u78_12 => exact News.isTup (by k_asm) (by k_mem)); (case a_u78_12 => decide); (case b_u78_12 => decide); (case c_u78_12 => exact rfl); (case d_u78_12 => exact rfl)); (try dsimp only))
        k_with "m:execs cons" => (k_here; (with_reducible show wpAny _ _ (execs (Stmt.Return _ _ :: _) _) _ _ _); refine Dbg.out ?_)
      k_with "ld:o_tailsC" =>
        k_with "m:call ref" => (k_here; (with_reducible show wpAny _ _ (call (Value.ref 342) _) _ _ _); k_dflt (refine' Tell.valB (c_tocts _ _ _ _ _ _ _ ?hb_u79_0 ?hr_u79_0 _ _ _ _ _ _ _ ?hc_u79_0 ?hh_u79_0 ?hpp_u79_0 ?hm_u79_0 _ _ _ ?hE_u79_0 ?hok_u79_0) ?hp_u79_0 ?B_u79_0 ?F_u79_0 ?X_u79_0 ?N_u79_0 ?T_u79_0 ?hk_u79_0 ?hd_u79_0 ?hu_u79_0 ?_; (case F_u79_0 => k_asm); (case N_u79_0 => k_asm); (case B_u79_0 => k_asm); (case X_u79_0 => k_asm); (case T_u79_0 => k_asm); (case hk_u79_0 => first | exact rfl | assumption); (case hd_u79_0 => ktr_room); (case hu_u79_0 => ktr_units); (case hp_u79_0 => (refine List.forall_mem_cons.mpr ⟨by k_mem, List.forall_mem_cons.mpr ⟨by k_mem, List.forall_mem_cons.mpr ⟨by k_mem, List.forall_mem_cons.mpr ⟨by k_mem, ?_⟩⟩⟩⟩); intro p9 hp9; (repeat' (first | (with_reducible exact (by with_reducible assumption : ∀ p ∈ rowsLed _ _, p ∈ _) p9 hp9) | refine List.mem_cons_of_mem _ ?_))); (case hb_u79_0 => assumption); (case hr_u79_0 => exact rfl); (case hc_u79_0 => assumption); (case hh_u79_0 => lia); (case hpp_u79_0 => lia); (case hm_u79_0 => lia); (case hE_u79_0 => assumption); (case hok_u79_0 => assumption)); intro b' t' h' tk' hb' F' N'; (try dsimp only); (try k_sweep); (try k_extra "m:fold"))
        k_with "m:call ref" => (k_here; (with_reducible show wpAny _ _ (call (Value.ref 352) _) _ _ _); k_dflt (refine' use_rtail _ _ _ _ _ _ _ ?hb_u79_1 ?hc_u79_1 ?hbp_u79_1 ?hm_u79_1 ?ok_u79_1 ?few_u79_1 ?st_u79_1 ?B_u79_1 ?F_u79_1 ?X_u79_1 ?N_u79_1 ?T_u79_1 ?hk_u79_1 ?hd_u79_1 ?hu_u79_1 ?_; (case F_u79_1 => k_asm); (case N_u79_1 => k_asm); (case B_u79_1 => k_asm); (case X_u79_1 => k_asm); (case T_u79_1 => k_asm); (case hk_u79_1 => first | exact rfl | assumption); (case hd_u79_1 => ktr_room); (case hu_u79_1 => ktr_units); (case hb_u79_1 => with_reducible assumption); (case hc_u79_1 => with_reducible assumption); (case hbp_u79_1 => lia); (case hm_u79_1 => lia); (case ok_u79_1 => with_reducible assumption); (case few_u79_1 => with_reducible assumption); (case st_u79_1 => with_reducible assumption)); intro x' dx' br' rl' b2' τ' t1' t2' n' k' Es' h' tk' e1' e2' e3' F' N'; (try simp only [List.cons_append] at N'); (try dsimp only); (try k_sweep); (try k_extra "m:fold"))
        k_with "m:call ref" => (k_here; (with_reducible show wpAny _ _ (call (Value.ref 319) _) _ _ _); k_dflt (refine' use_toldt _ _ _ _ _ _ _ _ _ _ ?hE_u79_2 ?hp_u79_2 ?B_u79_2 ?F_u79_2 ?X_u79_2 ?N_u79_2 ?T_u79_2 ?hk_u79_2 ?hd_u79_2 ?hu_u79_2 ?_; (case F_u79_2 => k_asm); (case N_u79_2 => k_asm); (case B_u79_2 => k_asm); (case X_u79_2 => k_asm); (case T_u79_2 => k_asm); (case hk_u79_2 => first | exact rfl | assumption); (case hd_u79_2 => ktr_room); (case hu_u79_2 => ktr_units); (case hp_u79_2 => (refine List.forall_mem_cons.mpr ⟨by k_mem, List.forall_mem_cons.mpr ⟨by k_mem, List.forall_mem_cons.mpr ⟨by k_mem, ?_⟩⟩⟩); intro p9 hp9; (repeat' (first | (with_reducible exact hp9) | (with_reducible exact List.mem_append_right _ hp9) | (with_reducible exact (by with_reducible assumption : ∀ p ∈ rowsLed _ _, p ∈ _) p9 hp9) | (with_reducible refine List.mem_cons_of_mem _ ?_) | (with_reducible refine List.mem_append_left _ ?_))); done); (case hE_u79_2 => first | assumption | (have z9 := congrArg List.length (by assumption : List.map _ _ = List.map _ _); simp only [List.length_map] at z9; lia))); intro z' zt' u1' u2' u3' n' k2' Zs' h' tk' e' F' N'; (try simp only [List.cons_append] at N'); (try dsimp only); (try k_sweep); (try k_extra "m:fold"))
        k_with "m:compareOp NotEq ref ref" => (k_here; k_dflt (refine' ne_told ?N_u79_3 ?mz_u79_3 ?my_u79_3 ?mzt_u79_3 ?myt_u79_3 ?mb_u79_3 ?mb2_u79_3 ?hb_u79_3 ?hc_u79_3 ?hZ_u79_3 ?hY_u79_3 ?eD_u79_3 ?u_u79_3 ?_; (case N_u79_3 => k_asm); (case mz_u79_3 => k_mem); (case my_u79_3 => k_mem); (case mzt_u79_3 => k_mem); (case myt_u79_3 => k_mem); (case mb_u79_3 => k_mem); (case mb2_u79_3 => k_mem); (case hb_u79_3 => with_reducible assumption); (case hc_u79_3 => with_reducible assumption); (case hZ_u79_3 => exact ToldIn.of (by with_reducible assumption) (by (intro p9 hp9; (repeat' (first | (with_reducible exact hp9) | (with_reducible exact List.mem_append_right _ hp9) | (with_reducible exact (by with_reducible assumption : ∀ p ∈ rowsLed _ _, p ∈ _) p9 hp9) | (with_reducible refine List.mem_cons_of_mem _ ?_) | (with_reducible refine List.mem_append_left _ ?_))))) (by (intro p9 hp9; (repeat' (first | (with_reducible exact hp9) | (with_reducible exact List.mem_append_right _ hp9) | (with_reducible exact (by with_reducible assumption : ∀ p ∈ rowsLed _ _, p ∈ _) p9 hp9) | (with_reducible refine List.mem_cons_of_mem _ ?_) | (with_reducible refine List.mem_append_left _ ?_))))) (by with_reducible assumption)); (case hY_u79_3 => exact ToldIn.of (by with_reducible assumption) (by (intro p9 hp9; (repeat' (first | (with_reducible exact hp9) | (with_reducible exact List.mem_append_right _ hp9) | (with_reducible exact (by with_reducible assumption : ∀ p ∈ rowsLed _ _, p ∈ _) p9 hp9) | (with_reducible refine List.mem_cons_of_mem _ ?_) | (with_reducible refine List.mem_append_left _ ?_))))) (by (intro p9 hp9; (repeat' (first | (with_reducible exact hp9) | (with_reducible exact List.mem_append_right _ hp9) | (with_reducible exact (by with_reducible assumption : ∀ p ∈ rowsLed _ _, p ∈ _) p9 hp9) | (with_reducible refine List.mem_cons_of_mem _ ?_) | (with_reducible refine List.mem_append_left _ ?_))))) (by with_reducible assumption)); (case eD_u79_3 => exact told_D (by with_reducible assumption) (by with_reducible assumption) (by with_reducible assumption)); (case u_u79_3 => ktr_units)); (try dsimp only))
        k_with "m:execs cons" => (k_here; (with_reducible show wpAny _ _ (execs (Stmt.For _ _ _ _ _ :: _) _) _ _ _); refine Dbg.out ?_)
      k_with "ld:o_tailsB" =>
        k_with "m:oldlt" => skip
        k_with "m:and" => walk_at "and0"
        k_with "m:MLoop ListComp" => (k_here; refine Dbg.out ?_)
        k_with "m:execs cons" => (k_here; (with_reducible show wpAny _ _ (execs (Stmt.If _ _ _ _ :: _) _) _ _ _); refine Dbg.out ?_)
      k_with "ld:o_tailsA" =>
        k_with "m:oldlt" => skip
        k_with "m:and" => walk_at "and0"
        k_with "m:MLoop ListComp" => (k_here; refine Dbg.out ?_)
        k_with "m:execs cons" => (k_here; (with_reducible show wpAny _ _ (execs (Stmt.Assign (Expr.Tuple _ _ _ :: _) _ _ :: _) _) _ _ _); refine Dbg.out ?_)
      k_with "ld:o_tails" =>
        k_with "m:oldlt" => skip
        k_with "m:and" => walk_at "and0"
        k_with "m:MLoop ListComp" => (k_here; refine Dbg.out ?_)
        k_with "m:call type:range" => (k_here; (rename Fr _ _ _ _ => F'); (rename News _ _ _ _ => N'); (with_unfolding_all refine range1_rows F' N' ?_; intro _ _ _ _ _ _ _ _ _))
        k_with "m:MSrc" => (k_here; k_dflt (refine' iter_many ?F_u82_4 ?N_u82_4 ?r_u82_4 ?q_u82_4 ?n_u82_4 ?_; (case F_u82_4 => k_asm); (case N_u82_4 => k_asm); (case r_u82_4 => assumption); (case q_u82_4 => exact (Int.toNat_of_nonneg (by lia)).symm); (case n_u82_4 => lia)); intro I' h' o' F' N' l1 S' x'; (try k_lt l1); clear x'; (try dsimp only))
        k_with "m:call type:set" => (k_here; (with_reducible show wpAny _ _ (call (Value.type "set") [Value.ref _]) _ _ _); k_dflt (refine' setI_N ?F_u82_5 ?N_u82_5 ?hh_u82_5 (listAt ?N2_u82_5 ?m_u82_5) ?i_u82_5 ?z_u82_5 ?_; (case F_u82_5 => k_asm); (case N_u82_5 => k_asm); (case hh_u82_5 => exact rfl); (case N2_u82_5 => k_asm); (case m_u82_5 => k_mem); (case i_u82_5 => with_reducible assumption); (case z_u82_5 => assumption)); intro S' h' tk' o' ms' F' N' l1 I' nd' m' z'; (try k_lt l1))
        k_with "m:cell_enter" => first | (refine' enterTC3 ?k1_u82_6 ?k2_u82_6 ?k3_u82_6 ?k4_u82_6 ?k5_u82_6 ?kX_u82_6 ?kT_u82_6 ?k0_u82_6 ?kA_u82_6 ?kF_u82_6 ?kK_u82_6 ?k6_u82_6 ?k7_u82_6 ?k8_u82_6 ?k9_u82_6 ?kB_u82_6 ?kD_u82_6 ?fs_u82_6 ?_ ?e1_u82_6 ?e2_u82_6 ?c2_u82_6 ?c3_u82_6 ?c4_u82_6; (case kA_u82_6 => exact rfl); (case kF_u82_6 => exact rfl); (case kK_u82_6 => first | exact rfl | assumption); (case k1_u82_6 => k_asm); (case k2_u82_6 => k_asm); (case k3_u82_6 => k_asm); (case k4_u82_6 => k_asm); (case k5_u82_6 => k_asm); (case kX_u82_6 => assumption); (case kT_u82_6 => assumption); (case k0_u82_6 => assumption); (case k6_u82_6 => k_is); (case k7_u82_6 => k_is); (case k8_u82_6 => ktr_room); (case k9_u82_6 => first | exact BindsTo.of_eq rfl | exact binds_K (by k_in) rfl (by k_is) rfl rfl rfl); (case kB_u82_6 => exact rfl); (case kD_u82_6 => decide +kernel); (case e1_u82_6 => exact rfl); (case e2_u82_6 => kl_lit); (case fs_u82_6 => first | exact (rfl : _ = [false]) | exact (rfl : _ = [true]) | exact (rfl : _ = [true, false]) | exact (rfl : _ = [false, true]) | exact (rfl : _ = [false, false]) | exact (rfl : _ = [true, true])); (case c2_u82_6 => exact rfl); (case c3_u82_6 => exact rfl); (case c4_u82_6 => exact rfl); k_whole; intro g' L' h' tk' cells' H' FG' F' N' Y' B' X' T' l1; (try simp only [paramNames, mapc, mapn, List.append_nil, List.nil_append, List.cons_append, List.zip_cons_cons, List.zip_nil_left, List.zip_nil_right, List.reverse_cons, List.reverse_nil, sel] at F' Y'); (try (have a8' := aps_lt1 l1; simp only [mapc, mapn] at a8')); (try k_lt l1); k_cells Y'; (try simp only [List.cons_append, List.nil_append] at N'); (try dsimp only); (try k_lift B'); (try k_extra "m:fold"))
        k_with "m:execs cons" => (k_here; (with_reducible show wpAny _ _ (execs (Stmt.Assign _ (Expr.ListComp _ _ _ _) _ :: _) _) _ _ _); refine Dbg.out ?_)
      k_with "ld:o_rrbads" =>
        k_with "m:subscriptTail" => (k_here; (with_reducible show wpAny _ _ (subscriptTail _ (Expr.Slice _ _ none _) (Value.bytes _ _) (Value.ref _)) _ _ _); (with_reducible rename Fr _ _ _ _ => F'); (with_reducible rename News _ _ _ _ => N'); (refine KBc.slice_K (s := ⟨_, _, _, _, _⟩) F' N' (by kba_ints) (by constructor) (by constructor) (by kba_size) ?_); intro _ _ _ _ _ kbcK; (try simp only [Option.elim] at kbcK); (replace kbcK := kbcK.trans (by assumption)))
        k_with "m:subscriptTail" => (k_here; (with_reducible show wpAny _ _ (subscriptTail _ _ (Value.bytes _ _) (Value.int _ _)) _ _ _); k_dflt (refine' item_B ?a_u83_1 ?b_u83_1 ?c_u83_1 ?d_u83_1 ?_; (case a_u83_1 => k_asm); (case b_u83_1 => decide); (case c_u83_1 => assumption); (case d_u83_1 => lia)); intro t' k' i0' i1'; clear i0' i1'; (try dsimp only))
        k_with "m:exec For Name Subscript cons nil" => (k_here; (rename Fr _ _ _ _ => lF'); (with_unfolding_all refine' For_invVF lF' ?k1_u83_2 ?k2_u83_2 ?_; (case k1_u83_2 => exact rfl); (case k2_u83_2 => exact rfl); k_whole))
        k_with "m:call builtin:bytes.rstrip" => (k_here; k_dflt ((with_reducible refine' rstrip_callZ ?hb_u83_3 ?_); (case hb_u83_3 => assumption)); intro t' k'; (try dsimp only))
        k_with "m:compareOp In bytes bytes" => (k_here; k_dflt (refine' in_bytes ?hh_u83_4 ?F_u83_4 ?N_u83_4 ?_; (case hh_u83_4 => exact rfl); (case F_u83_4 => k_asm); (case N_u83_4 => k_asm)); intro h' tk' F' N'; rw [show (Builtin.Bytes.find? #[97, 0, 98] #[0] 0 (Array.size #[97, 0, 98])).isSome = true by decide +kernel]; (try dsimp only))
      k_with "ld:o_lamregs" =>
        k_with "m:eval Name" => (k_here; k_dflt (refine' nameX_F ?N_u84_0 ?c_u84_0 ?m_u84_0 ?d_u84_0 ?_ ?a_u84_0 ?b_u84_0; (case a_u84_0 => rfl); (case b_u84_0 => rfl); (case N_u84_0 => k_asm); (case c_u84_0 => rfl); (case m_u84_0 => k_mem); (case d_u84_0 => k_asm); k_whole))
        k_with "m:call ref" => (k_here; (with_reducible show wpAny _ _ (call (Value.ref 231) _) _ _ _); k_dflt (refine' TellX.use (TellX.widen (by assumption) ?sub_u84_1) ?B_u84_1 ?F_u84_1 ?X_u84_1 ?N_u84_1 ?T_u84_1 ?hk_u84_1 ?hd_u84_1 ?hu_u84_1 ?_; (case F_u84_1 => k_asm); (case N_u84_1 => k_asm); (case B_u84_1 => k_asm); (case X_u84_1 => k_asm); (case T_u84_1 => k_asm); (case hk_u84_1 => first | exact rfl | assumption); (case hd_u84_1 => ktr_room); (case hu_u84_1 => ktr_units); (case sub_u84_1 => (intro p hp; cases hp))); intro e' h' G' tk' H' FG' U' R'; (try dsimp only))
        k_with "m:call ref" => (k_here; (with_reducible show wpAny _ _ (call (Value.ref 213) _) _ _ _); k_dflt (refine' TellX.use (TellX.widen (by assumption) ?sub_u84_2) ?B_u84_2 ?F_u84_2 ?X_u84_2 ?N_u84_2 ?T_u84_2 ?hk_u84_2 ?hd_u84_2 ?hu_u84_2 ?_; (case F_u84_2 => k_asm); (case N_u84_2 => k_asm); (case B_u84_2 => k_asm); (case X_u84_2 => k_asm); (case T_u84_2 => k_asm); (case hk_u84_2 => first | exact rfl | assumption); (case hd_u84_2 => ktr_room); (case hu_u84_2 => ktr_units); (case sub_u84_2 => exact List.forall_mem_cons.mpr ⟨by k_mem, List.forall_mem_nil _⟩)); intro e' h' G' tk' H' FG' U' R'; (try dsimp only))
        k_with "m:subscriptTail" => (k_here; (with_reducible show wpAny _ _ (subscriptTail _ _ (Value.ref _) (Value.int _ _)) _ _ _); k_dflt (first
  | (refine' PyProof.Rows.item_tupleT (l := [_, _, _]) (j := 0) ?t_u84_3 ?a_u84_3 ?b_u84_3 ?c_u84_3 ?d_u84_3 ?_; (case t_u84_3 => exact News.isTup (by k_asm) (by k_mem)); (case a_u84_3 => decide); (case b_u84_3 => decide); (case c_u84_3 => exact rfl); (case d_u84_3 => exact rfl))
  | (refine' PyProof.Rows.item_tupleT (l := [_, _, _]) (j := 1) ?t1_u84_3 ?a1_u84_3 ?b1_u84_3 ?c1_u84_3 ?d1_u84_3 ?_; (case t1_u84_3 => exact News.isTup (by k_asm) (by k_mem)); (case a1_u84_3 => decide); (case b1_u84_3 => decide); (case c1_u84_3 => exact rfl); (case d1_u84_3 => exact rfl))
  | (refine' PyProof.Rows.item_tupleT (l := [_, _, _]) (j := 2) ?t2_u84_3 ?a2_u84_3 ?b2_u84_3 ?c2_u84_3 ?d2_u84_3 ?_; (case t2_u84_3 => exact News.isTup (by k_asm) (by k_mem)); (case a2_u84_3 => decide); (case b2_u84_3 => decide); (case c2_u84_3 => exact rfl); (case d2_u84_3 => exact rfl))); (try dsimp only))
      k_with "ld:o_law6" =>
        k_with "m:oldlt" => skip
        k_with "m:and" => walk_at "and0"
        k_with "m:MMake ListComp" => (k_here; k_dflt ((with_reducible refine' mmake_list1 ?hh_u85_2 ?F_u85_2 ?N_u85_2 ?S_u85_2 ?m_u85_2 ?s_u85_2 ?c_u85_2 ?p_u85_2 ?_); (case hh_u85_2 => exact rfl); (case F_u85_2 => k_asm); (case N_u85_2 => k_asm); (case S_u85_2 => assumption); (case m_u85_2 => k_mem); (case s_u85_2 => lcg_src); (case c_u85_2 => exact fun _ _ => rfl); (case p_u85_2 => exact fun _ => rfl); intro D' C' K' h' o' oK' F' N' l1 l2 l3 c' k'; (try (have a8' := aps_lt2 l1 l2; simp only [mapc, mapn] at a8')); (try (have a7' := aps_lt3 l1 l2 l3; simp only [mapc, mapn] at a7')); (try k_lt l1)))
        k_with "m:call ref" => (k_here; (with_reducible show wpAny _ _ (call (Value.ref 380) _) _ _ _); k_dflt (refine' c_refused (C := 51) (d := 70) (u := 1700) ?hC_u85_3 (TellX.widen (c_lamrr _ _ _ _ _ _ _ _ _ _ _ _ _ _ _ _ _ ?hX_u85_3 ?h3_u85_3 ?h1_u85_3 ?h2_u85_3) ?hs_u85_3) ?hmem_u85_3 ?B_u85_3 ?F_u85_3 ?X_u85_3 ?N_u85_3 ?T_u85_3 ?XB_u85_3 ?TB_u85_3 ?T0_u85_3 ?hk_u85_3 ?hd_u85_3 ?hu_u85_3 ?_; (case F_u85_3 => k_asm); (case N_u85_3 => k_asm); (case B_u85_3 => k_asm); (case X_u85_3 => k_asm); (case T_u85_3 => k_asm); (case XB_u85_3 => assumption); (case TB_u85_3 => assumption); (case T0_u85_3 => assumption); (case hC_u85_3 => kernel_rfl); (case hmem_u85_3 => k_mem); (case hs_u85_3 => (repeat' (first | exact List.forall_mem_nil _ | refine' subc (by k_mem) ?_))); (case h1_u85_3 => assumption); (case h2_u85_3 => assumption); (case h3_u85_3 => assumption); (case hX_u85_3 => ((refine' (?hx9_u85_3 : ∀ t, TellX _ _ [Value.bytes _ t] _ _ _ _) _); (case hx9_u85_3 => with_reducible assumption))); (case hk_u85_3 => exact rfl); (case hd_u85_3 => ktr_room); (case hu_u85_3 => ktr_units)); intro h' tk' g' T0' F' N' B' X' T'; (try dsimp only))
        k_with "m:call ref" => (k_here; (with_reducible show wpAny _ _ (call (Value.ref 380) _) _ _ _); k_dflt (refine' c_refused (C := 51) (d := 70) (u := 1700) ?hC_u85_4 (TellX.widen (c_lamrb _ _ _ _ _ _ _ _ _ _ _ _ _ _ _ _ _ _ _ _ _ _ _ _ _ ?hX_u85_4 ?h3_u85_4 ?h1_u85_4 ?h2_u85_4) ?hs_u85_4) ?hmem_u85_4 ?B_u85_4 ?F_u85_4 ?X_u85_4 ?N_u85_4 ?T_u85_4 ?XB_u85_4 ?TB_u85_4 ?T0_u85_4 ?hk_u85_4 ?hd_u85_4 ?hu_u85_4 ?_; (case F_u85_4 => k_asm); (case N_u85_4 => k_asm); (case B_u85_4 => k_asm); (case X_u85_4 => k_asm); (case T_u85_4 => k_asm); (case XB_u85_4 => assumption); (case TB_u85_4 => assumption); (case T0_u85_4 => assumption); (case hC_u85_4 => kernel_rfl); (case hmem_u85_4 => k_mem); (case hs_u85_4 => (repeat' (first | exact List.forall_mem_nil _ | refine' subc (by k_mem) ?_))); (case h1_u85_4 => assumption); (case h2_u85_4 => assumption); (case h3_u85_4 => assumption); (case hX_u85_4 => ((refine' (?hx9_u85_4 : ∀ t, TellX _ _ [Value.bytes _ t] _ _ _ _) _); (case hx9_u85_4 => with_reducible assumption))); (case hk_u85_4 => exact rfl); (case hd_u85_4 => ktr_room); (case hu_u85_4 => ktr_units)); intro h' tk' g' T0' F' N' B' X' T'; (try dsimp only))
        k_with "m:MLoop ListComp" => (k_here; (with_reducible show MLoop _ _ _ (Expr.ListComp _ [⟨_, _, [_], 0⟩] _ _) _ _ _ _ _); refine Dbg.out ?_)
      k_with "ld:o_law5" =>
        k_with "m:oldlt" => skip
        k_with "m:and" => walk_at "and0"
        k_with "m:call ref" => (k_here; (with_reducible show wpAny _ _ (call (Value.ref 380) _) _ _ _); k_dflt (refine' c_refused (C := 83) (d := 100) (u := 3500) ?hC_u86_2 (TellX.widen (c_lamrg _ _ _ _ _ _ _ _ _ _ _ _ _ _ _ _ _ _ _ _ _ _ _ _ _ _ _ _ _ _ _ _ _ _ ?hX_u86_2 ?h3_u86_2 ?h1_u86_2 ?h2_u86_2) ?hs_u86_2) ?hmem_u86_2 ?B_u86_2 ?F_u86_2 ?X_u86_2 ?N_u86_2 ?T_u86_2 ?XB_u86_2 ?TB_u86_2 ?T0_u86_2 ?hk_u86_2 ?hd_u86_2 ?hu_u86_2 ?_; (case F_u86_2 => k_asm); (case N_u86_2 => k_asm); (case B_u86_2 => k_asm); (case X_u86_2 => k_asm); (case T_u86_2 => k_asm); (case XB_u86_2 => assumption); (case TB_u86_2 => assumption); (case T0_u86_2 => assumption); (case hC_u86_2 => kernel_rfl); (case hmem_u86_2 => k_mem); (case hs_u86_2 => (repeat' (first | exact List.forall_mem_nil _ | refine' subc (by k_mem) ?_))); (case h1_u86_2 => assumption); (case h2_u86_2 => assumption); (case h3_u86_2 => assumption); (case hX_u86_2 => with_reducible assumption); (case hk_u86_2 => exact rfl); (case hd_u86_2 => ktr_room); (case hu_u86_2 => ktr_units)); intro h' tk' g' T0' F' N' B' X' T'; (try dsimp only))
        k_with "m:call ref" => (k_here; (with_reducible show wpAny _ _ (call (Value.ref 392) _) _ _ _); k_dflt (refine' use_locts _ _ _ _ _ _ _ _ _ (List.replicate (Int.toNat 16) 0) ?hx_u86_3 ?hr_u86_3 ?hb_u86_3 ?hl_u86_3 ?hp_u86_3 ?B_u86_3 ?F_u86_3 ?X_u86_3 ?N_u86_3 ?T_u86_3 ?hk_u86_3 ?hd_u86_3 ?hu_u86_3 ?_; (case F_u86_3 => k_asm); (case N_u86_3 => k_asm); (case B_u86_3 => k_asm); (case X_u86_3 => k_asm); (case T_u86_3 => k_asm); (case hk_u86_3 => exact rfl); (case hd_u86_3 => ktr_room); (case hu_u86_3 => ktr_units); (case hp_u86_3 => lcg_sub); (case hx_u86_3 => exact List.mem_append_right _ (.head _)); (case hr_u86_3 => decide); (case hb_u86_3 => assumption); (case hl_u86_3 => exact rfl)); intro b' t' h' tk' f0' F' N'; (replace f0' := f0'.trans reg_ab); (try dsimp only); (try k_sweep); (try k_extra "m:fold"))
        k_with "m:subscriptTail" => (k_here; (with_reducible show wpAny _ _ (subscriptTail _ (Expr.Slice _ _ none _) (Value.bytes _ _) (Value.ref _)) _ _ _); (with_reducible rename Fr _ _ _ _ => F'); (with_reducible rename News _ _ _ _ => N'); (refine KBc.slice_K (s := ⟨_, _, _, _, _⟩) F' N' (by with_reducible assumption) (by constructor) (by constructor) (by decide) ?_); intro _ _ _ _ _ kbcK; (try simp only [Option.elim] at kbcK))
        k_with "m:execs cons" => (k_here; (with_reducible show wpAny _ _ (execs (Stmt.If (Expr.Compare (Expr.ListComp _ _ _ _) _ _ _) _ _ _ :: _) _) _ _ _); refine Dbg.out ?_)
      k_with "ld:o_law2" =>
        k_with "m:oldlt" => skip
        k_with "m:and" => walk_at "and0"
        k_with "m:eval Dict nil nil" => (k_here; k_dflt ((with_reducible refine' newDict_K ?k1_u87_2 ?k2_u87_2 ?k3_u87_2 ?_); (case k1_u87_2 => with_reducible assumption); (case k2_u87_2 => with_reducible assumption); (case k3_u87_2 => exact TopRead.nolimit (topRead_of (by with_reducible assumption))); k_whole); intro d' h' o' F' N' l1 lo' hs' fs' hi' fi'; (try k_lt l1); (try k_sweep))
        k_with "m:call ref" => (k_here; (with_reducible show wpAny _ _ (call (Value.ref 373) _) _ _ _); refine Dbg.out ?_)
        k_with "m:execs cons" => (k_here; (with_reducible show wpAny _ _ (execs (Stmt.If _ _ _ _ :: _) _) _ _ _); refine Dbg.out ?_)
        k_with "m:execs cons" => (k_here; (with_reducible show wpAny _ _ (execs (Stmt.Assign _ (Expr.BinOp _ _ _ _) _ :: _) _) _ _ _); k_dflt ((refine' foldP (ps := [(src, _), (l, _)]) (as := [src, l]) ?zN_u87_5 ?zP_u87_5 ?zE_u87_5 ?zO_u87_5 ?_; (case zN_u87_5 => k_asm); (case zP_u87_5 => repeat' (first | exact Picks.nil | refine' Picks.cons ?_ ?_ | exact Pick.head | refine' Pick.tail ?_)); (case zE_u87_5 => repeat' (first | refine' Pre.cons ?_ | exact Pre.nil)); (case zO_u87_5 => repeat' (first | exact Offs.n | refine' Offs.c (by k_all) ?_))); intro R9; (repeat' (intro m9)); refine Fin9.mk ?_; intro s9; (repeat' (intro f9)); refine Fin9.mk ?_; intro N'; (try simp only [List.cons_append, List.nil_append] at N'); (try k_sweep)))
      k_with "ld:o_law1" =>
        k_with "m:oldlt" => skip
        k_with "m:and" => walk_at "and0"
        k_with "m:call ref" => (k_here; (with_reducible show wpAny _ _ (call (Value.ref 417) _) _ _ _); k_dflt (refine' c_tails _ _ _ _ _ [_, _, _] ?hS_u88_2 ?hlt_u88_2 ?h4_u88_2 ?r1_u88_2 ?r2_u88_2 ?r3_u88_2 ?B_u88_2 ?F_u88_2 ?X_u88_2 ?N_u88_2 ?T_u88_2 ?XB_u88_2 ?TB_u88_2 ?CH_u88_2 ?T0_u88_2 ?hk_u88_2 ?hd_u88_2 ?hu_u88_2 ?_; (case B_u88_2 => k_asm); (case F_u88_2 => k_asm); (case N_u88_2 => exact swapL (by k_asm)); (case X_u88_2 => k_asm); (case T_u88_2 => k_asm); (case XB_u88_2 => assumption); (case TB_u88_2 => assumption); (case CH_u88_2 => assumption); (case T0_u88_2 => exact KtsTurn.refl); (case hk_u88_2 => exact rfl); (case hd_u88_2 => ktr_room); (case hu_u88_2 => ktr_units); (case hS_u88_2 => assumption); (case hlt_u88_2 => assumption); (case h4_u88_2 => lia); (case r1_u88_2 => k_all); (case r2_u88_2 => k_all); (case r3_u88_2 => k_all)); intro h' tk' g' o1' o2' ps' S' T0' F' N' B' X' T'; (replace N' := swapL2 N'); (try dsimp only); (try k_extra "m:fold"))
        k_with "m:execs cons" => (k_here; (with_reducible show wpAny _ _ (execs (Stmt.Assign _ (Expr.List _ _) _ :: _) _) _ _ _); refine Dbg.out ?_)
      k_with "ld:o_pool" =>
        k_with "m:oldlt" => skip
        k_with "m:and" => walk_at "and0"
        k_with "m:subscriptTail" => (k_here; (with_reducible show wpAny _ _ (subscriptTail _ _ (Value.ref _) (Value.int 0 _)) _ _ _); k_dflt (refine' PyProof.Rows.item_list (items := (Value.int _ _ :: _).toArray) ?hl_u89_2 ?z_u89_2 ?f_u89_2 ?x_u89_2 ?_; (case hl_u89_2 => exact Fr.lst (by k_asm) (by with_reducible assumption)); (case z_u89_2 => decide); (case f_u89_2 => decide); (case x_u89_2 => exact rfl)); (try dsimp only))
      k_with "ld:o_law" =>
        k_with "m:oldlt" => skip
        k_with "m:and" => walk_at "and0"
        k_with "m:call ref" => (k_here; (with_reducible show wpAny _ _ (call (Value.ref 359) _) _ _ _); refine Dbg.out ?_)
        k_with "m:execs cons" => (k_here; (with_reducible show wpAny _ _ (execs (Stmt.If _ _ _ _ :: _) _) _ _ _); refine Dbg.out ?_)
  trivial
local macro_rules | `(tactic| walk_at $s:str) => `(tactic| k_extra $(Lean.Syntax.mkStrLit ("m:" ++ s.getString)))
local macro_rules | `(tactic| cell_enter) => `(tactic| k_extra "m:cell_enter")
local macro_rules | `(tactic| k_all) => `(tactic| k_extra "m:k_all")
local macro_rules | `(tactic| k_in) => `(tactic| k_extra "m:k_in")
local macro_rules | `(tactic| k_mem) => `(tactic| k_extra "m:k_mem")
local macro_rules | `(tactic| k_ne) => `(tactic| k_extra "m:k_ne")
local macro_rules | `(tactic| k_room) => `(tactic| k_extra "m:k_room")
local macro_rules | `(tactic| k_steps) => `(tactic| k_extra "m:k_steps")
local macro_rules | `(tactic| k_units) => `(tactic| k_extra "m:k_units")
local macro_rules | `(tactic| ktr_room) => `(tactic| k_extra "m:ktr_room")
local macro_rules | `(tactic| ktr_units) => `(tactic| k_extra "m:ktr_units")
local macro_rules | `(tactic| lcg_src) => `(tactic| k_extra "m:lcg_src")
local macro_rules | `(tactic| lcg_sub) => `(tactic| k_extra "m:lcg_sub")
local macro_rules | `(tactic| lia) => `(tactic| k_extra "m:lia")
local macro_rules | `(tactic| omega) => `(tactic| k_extra "m:omega")
local macro_rules | `(tactic| units_room) => `(tactic| k_extra "m:units_room")
local macro_rules | `(tactic| k_lt $h) => `(tactic| first | (k_extra "m:oldlt"; ((try (have a9' := aps_lt $h; simp only [mapc, mapn] at a9')); replace $h := allLt_of $h; simp only [AllLt, and_true] at $h:ident)) | ((have a9' := aps_lt $h; (try dsimp only [mapc, mapn] at a9')); clear $h))
theorem lines_p05swinit : True := by
  w_top off
  k_extra "S"
  k_extra "ld:pre"
  k_extra "ld:exset"
  k_extra "ld:o_swinit"
  trivial
section
/- what an own exception's __init__ leaves -/
noncomputable def InitRet (C e : Addr) (v : Value) (news' : List (Addr × Obj)) : Prop := v = .none ∧ ∃ (d t' : Addr) (o : Obj), @LT.lt Nat _ e d ∧ news' = [(d, o), (e, excObj C (some d) (.ref t'))]
noncomputable def InitMsg (C e : Addr) (v : Value) (news' : List (Addr × Obj)) : Prop := v = .none ∧ ∃ (d t' : Addr) (en : DictEntry) (k : Tok), @LT.lt Nat _ e d ∧ en.key = .str (Str.ofString "message") k ∧ news' = [(d, dictOf [en] 1), (e, excObj C (some d) (.ref t'))]
set_option maxHeartbeats 8000000 in
theorem c_swinit (w : World) (e t : Addr) (msg : Str) (u : Tok) :
    Tell w 35 [.ref e, .str msg u] 30 600 [(e, excObj 51 none (.ref t))] (InitRet 51 e) := by
  unfold Tell
  intro mean mg mb dp un gd cn cs a ccd cl outer A₀ base h₀ L m s Q E B F X N T hk hd hu hret
  refine wpAny_call ?_
  k_dflt cell_enter
  k_steps
  all_goals (
    refine' fin_ (small := [(_, _), (e, _)]) hret ?H ?F' ?F ?N ?S ?R
    case H => k_asm
    case F' => k_asm
    case F => k_asm
    case N => k_asm
    case S => repeat' (first | exact Sub.refl | refine' Sub.keep ?_ | refine' Sub.skip ?_ | exact Sub.nil)
    case R => exact ⟨rfl, _, _, _, by lia, rfl⟩)
set_option maxHeartbeats 8000000 in
theorem c_swinit83 (w : World) (e t : Addr) (msg : Str) (u : Tok) :
    Tell w 35 [.ref e, .str msg u] 5 100 [(e, excObj 83 none (.ref t))] (InitMsg 83 e) := by
  unfold Tell
  intro mean mg mb dp un gd cn cs a ccd cl outer A₀ base h₀ L m s Q E B F X N T hk hd hu hret
  refine wpAny_call ?_
  k_dflt cell_enter
  k_steps
  all_goals (
    refine' fin_ (small := [(_, _), (e, _)]) hret ?H ?F' ?F ?N ?S ?R
    case H => k_asm
    case F' => k_asm
    case F => k_asm
    case N => k_asm
    case S => repeat' (first | exact Sub.refl | refine' Sub.keep ?_ | refine' Sub.skip ?_ | exact Sub.nil)
    case R => exact ⟨rfl, _, _, _, _, by lia, by assumption, rfl⟩)
theorem use_swinit83 {w : World} {mean : ExcName → Option Value} {mg mb : Str → Option Value} {dp un : Nat} {gd : Option (List Code)} {cn : Str} {cs : Scope} {a : Addr} {ccd : Value} {cl : List (Str × Addr)} {outer : List Env} {A₀ : Around} {base h₀ : Heap} {L : Addr} {m : Str → Option Value} {s0 : Heap} {s1 : Array GenState} {s2 : Drawn} {s3 : Nat} {s4 : OsState} {Q E : Value → Shared → Prop} {rest : List (Addr × Obj)} {e t : Addr} {msg : Str} {u : Tok}
    (B : Below A₀ base outer h₀) (F : Fr h₀ L s0 m) (X : (Mine.hd.heap_39 w.params).In h₀) (N : News h₀ L s0 ((e, excObj 83 none (.ref t)) :: rest)) (hne : ∀ p ∈ rest, p.1 ≠ e) (T : Top topProg loose mean mg mb h₀) (hk : cs.kind = .function) (hd : dp + 5 < recursionLimit) (hu : un + 100 < cLine)
    (h : ∀ h' tk d t' en k, en.key = .str (Str.ofString "message") k → Fr h₀ L h' m → News h₀ L h' ((d, dictOf [en] 1) :: (e, excObj 83 (some d) (.ref t')) :: rest) → @LT.lt Nat _ e d → Q .none (Shared.mk h' s1 s2 tk s4)) :
    wpAny (model PySem.Challenge.pw_pc0377_01 w) (ktrTop dp un gd cn cs L a ccd cl outer) (call (.ref 35) [.ref e, .str msg u]) Q E (Shared.mk s0 s1 s2 s3 s4) := by
  refine (c_swinit83 w e t msg u).use B F X (News.sub N fun p hp => by rw [List.mem_singleton.mp hp]; exact .head _) T hk hd hu fun v h' tk' news' hR H F' N' => ?_
  obtain ⟨rfl, d, t', en, k, hed, hen, rfl⟩ := hR
  exact h _ _ _ _ _ _ hen F' (after_ (full := (e, excObj 83 none (.ref t)) :: rest) (rest := rest) N H N' fun p hp => ⟨.tail _ hp, fun z => hne p hp (List.mem_singleton.mp z)⟩) hed
end
theorem lines_p06excnew : True := by
  w_top off
  k_extra "S"
  k_extra "ld:pre"
  k_extra "ld:exset"
  k_extra "ld:swinit"
  trivial
section
section
variable {w : World} {mean : ExcName → Option Value} {mg mb : Str → Option Value} {dp un : Nat} {gd : Option (List Code)} {cn : Str} {cs : Scope} {a : Addr} {ccd : Value} {cl : List (Str × Addr)} {outer : List Env} {A₀ : Around} {base h₀ : Heap} {L : Addr} {m : Str → Option Value} {s : Shared} {Q E : Value → Shared → Prop} {news : List (Addr × Obj)}
  {nm q : Str} {C N' fI : Addr} {bs bm : List Value} {hdct : Bool} {sn : List Str} {sub : List Value} {ab : Bool} {col : Option Bool} {dd : Option Addr} {k0 k1 k2 k3 k5 : Option Value} {oI : Obj}
theorem exc_K {msg : Str} {u : Tok} (hI : ∀ e t, Tell w fI [.ref e, .str msg u] 30 600 [(e, excObj C none (.ref t))] (InitRet C e))
    (hC : (Mine.hd.heap_39 w.params).lookup C = some (excClassObj nm q C N' bs bm hdct sn sub ab col dd k0 k1 k2 k3 k5 "Exception.__new__")) (T' : HasT [.type "Exception", .type "BaseException", .type "object"] bm)
    (hfi : findIn (Mine.hd.heap_39 w.params) (.ref C) "__init__" = some (some (.ref fI))) (hfI : (Mine.hd.heap_39 w.params).lookup fI = some oI) (hfc : oI.cls = .type "function")
    (B : Below A₀ base outer h₀) (F : Fr h₀ L s.heap m) (X : (Mine.hd.heap_39 w.params).In h₀) (N : News h₀ L s.heap news) (T : Top topProg loose mean mg mb h₀) (hk : cs.kind = .function) (hd : dp + 40 < recursionLimit) (hu : un + 1000 < cLine)
    (h : ∀ h' tk e t d o, Fr h₀ L h' m → News h₀ L h' ((d, o) :: (e, excObj C (some d) (.ref t)) :: news) → (∀ p ∈ news, p.1 < e) → @LT.lt Nat _ e d → Q (.ref e) { s with heap := h', toks := tk }) :
    wpAny (model PySem.Challenge.pw_pc0377_01 w) (ktrTop dp un gd cn cs L a ccd cl outer) (call (.ref C) [.str msg u]) Q E s := by
  obtain ⟨hp, g, dr, tk, os⟩ := s
  have X₁ := X.keeps F.keep
  refine x_call (rest := [.str msg u]) PySem.F.excBase_Exception T' (X₁ _ _ hC) (fun h' kk A' E' Q' g' d' t' os' hq => ?_) (X₁ _ _ hfI) hfc (fun h' e hm => ?_) (Nat.le_of_ble_eq_true rfl)
  · exact looks_findIn (M := model PySem.Challenge.pw_pc0377_01 w) X₁ hfi _ _ _ ⟨h', g', d', t', os'⟩ kk hq
  · obtain ⟨t, he⟩ := hm.there
    have F₁ : Fr h₀ L h' m := F.keeps hm.keeps
    have lt : ∀ p ∈ news, p.1 < e := fun p hp => Nat.lt_of_lt_of_le (Heap.lt_size (N p hp).1) hm.above
    have N₁ : News h₀ L h' ((e, excObj C none (.ref t)) :: news) := fun p hp => by
      rcases List.mem_cons.mp hp with rfl | hp
      · exact ⟨he, Nat.ne_of_gt (Nat.lt_of_lt_of_le F.ns.lt hm.above), Heap.get?_none_of_le (Nat.le_trans (Nat.le_of_not_lt fun z => Nat.lt_irrefl _ (Nat.lt_of_lt_of_le (Nat.lt_of_lt_of_le z F.above) (Nat.le_of_lt F.ns.lt))) hm.above)⟩
      · exact ⟨hm.keeps _ _ (N p hp).1, (N p hp).2⟩
    refine (hI e t).use (s := ⟨h', g, dr, tk, os⟩) (m := m) (h₀ := h₀) B F₁ X (News.sub N₁ fun p hp => by rw [List.mem_singleton.mp hp]; exact .head _) T hk ?_ ?_ fun v h'' tk' news' hR H F' N'' => ?_
    · show dp + 1 + 30 < _
      lia
    · have e9 : (Code.builtin "type.__call__" { pos := [Value.ref C, Value.str msg u] }).cUnits ≤ 300 := Nat.le_of_ble_eq_true rfl
      show un + (Code.builtin "type.__call__" { pos := [Value.ref C, Value.str msg u] }).cUnits + 600 < _
      lia
    · obtain ⟨rfl, d, t', o, hed, rfl⟩ := hR
      refine ⟨rfl, h _ _ _ _ _ _ F' (after_ (full := (e, excObj C none (.ref t)) :: news) (rest := news) N₁ H N'' fun p hp => ⟨.tail _ hp, fun z => ?_⟩) lt hed⟩
      have := lt p hp
      rw [List.mem_singleton.mp z] at this
      exact Nat.lt_irrefl _ this
end
end
theorem lines_p06setinit : True := by
  w_top off
  k_extra "S"
  k_extra "ld:pre"
  k_extra "ld:exset"
  k_extra "ld:swinit"
  trivial
section
set_option maxHeartbeats 8000000 in
theorem c_setinit (w : World) (e t : Addr) (msg : Str) (u : Tok) :
    Tell w 80 [.ref e, .str msg u] 30 600 [(e, excObj 83 none (.ref t))] (InitRet 83 e) := by
  unfold Tell
  intro mean mg mb dp un gd cn cs a ccd cl outer A₀ base h₀ L m s Q E B F X N T hk hd hu hret
  refine wpAny_call ?_
  k_dflt cell_enter
  k_steps
  all_goals (
    refine' fin_ (small := [(_, _), (e, _)]) hret ?H ?F' ?F ?N ?S ?R
    case H => k_asm
    case F' => k_asm
    case F => k_asm
    case N => k_asm
    case S => repeat' (first | exact Sub.refl | refine' Sub.keep ?_ | refine' Sub.skip ?_ | exact Sub.nil)
    case R => exact ⟨rfl, _, _, _, by lia, rfl⟩)
end
theorem lines_p07tellx : True := by
  w_top off
  k_extra "S"
  k_extra "ld:pre"
  k_extra "ld:exset"
  k_extra "ld:swinit"
  trivial
section
/- a call that ends in an exception of the own class C -/
noncomputable def TellX (w : World) (f : Value) (vs : List Value) (d u : Nat) (news : List (Addr × Obj)) (C : Addr) : Prop :=
  ∀ (mean : ExcName → Option Value) (mg mb : Str → Option Value) (dp un : Nat) (gd : Option (List Code)) (cn : Str) (cs : Scope) (a : Addr) (ccd : Value) (cl : List (Str × Addr)) (outer : List Env) (A₀ : Around) (base h₀ : Heap) (L : Addr) (m : Str → Option Value) (s : Shared) (Q E : Value → Shared → Prop),
    Below A₀ base outer h₀ → Fr h₀ L s.heap m → (Mine.hd.heap_39 w.params).In h₀ → News h₀ L s.heap news → Top topProg loose mean mg mb h₀ → cs.kind = .function → dp + d < recursionLimit → un + u < cLine →
    (∀ (e : Addr) (h' G : Heap) (tk : Nat), Hid s.heap news G → Fr h₀ L G m → G.UpToSlots h' → FliesV base G (envX cn cs L a ccd cl :: outer) e (.ref C) news h' → E (.ref e) { s with heap := h', toks := tk }) →
    wpAny (model PySem.Challenge.pw_pc0377_01 w) (ktrTop dp un gd cn cs L a ccd cl outer) (call f vs) Q E s
theorem FliesV.sub {base G h : Heap} {l : List Env} {e : Addr} {cls : Value} {big small : List (Addr × Obj)} (R : FliesV base G l e cls big h) (hs : ∀ p ∈ small, p ∈ big) : FliesV base G l e cls small h := by
  obtain ⟨B, a0, hB, hBG, hl, hfl⟩ := R
  exact ⟨B, a0, hB, hBG, fun q hq => hl q (hs q hq), hfl⟩
theorem finx_ {h₀ h' g base : Heap} {L : Addr} {m : Str → Option Value} {s : Shared} {E : Value → Shared → Prop} {l : List Env} {e C : Addr} {tk : Nat} {news big : List (Addr × Obj)}
    (hret : ∀ (e : Addr) (h' G : Heap) (tk : Nat), Hid s.heap news G → Fr h₀ L G m → G.UpToSlots h' → FliesV base G l e (.ref C) news h' → E (.ref e) { s with heap := h', toks := tk })
    (H : Hid s.heap news g) (FG : Fr h₀ L g m) (U : g.UpToSlots h') (R : FliesV base g l e (.ref C) big h') (S : Sub news big) : E (.ref e) { s with heap := h', toks := tk } := hret _ _ _ _ H FG U (R.sub S.mem)
end
theorem lines_p08enters : True := by
  w_top off
  k_extra "S"
  k_extra "ld:pre"
  k_extra "ld:exset"
  k_extra "ld:swinit"
  k_extra "ld:tellx"
  trivial
section
section
variable {prog : Program} {w : World} {A A₀ : Around} {s : Shared} {K : Frag} {L : Addr} {h₀ base g₀ : Heap} {m mg mb : Str → Option Value} {news : List (Addr × Obj)} {p : Program} {loose : List Str} {mean : ExcName → Option Value}
  {env : Env} {outer : List Env} {R : Result → Shared → Prop} {name qual : Str} {params : Arguments} {body : List Stmt} {scope : Scope} {dV kV doc pm cdv ct oc : Value} {an od : Option Addr} {osl : Array (Option Value)} {f : Addr} {args : Args} {binds : List (Str × Value)}
inductive LeaveT (fs : List Addr) (A₀ : Around) (base : Heap) (outer : List Env) (K : Frag) (p : Program) (loose : List Str) (mean : ExcName → Option Value) (mg mb : Str → Option Value) (g₀ : Heap) (L : Addr) (m : Str → Option Value) (g : Heap) (R : Result → Shared → Prop) (v : Value) (s' : Shared) : Prop
  | mk : ∀ g' L' m' news', (KtsTurn fs g g') → (Fr g' L' s'.heap m') → (News g' L' s'.heap news') → (∀ h₀', KtsTurn (outer.filterMap (·.frame)) g₀ h₀' → Fr h₀' L s'.heap m → News h₀' L s'.heap news' → Below A₀ base outer h₀' → K.In h₀' → Top p loose mean mg mb h₀' → R (.ok (.ret v)) s') → LeaveT fs A₀ base outer K p loose mean mg mb g₀ L m g R v s'
theorem groundT (B : Below A₀ base outer h₀) (F : Fr h₀ L s.heap m) (X₀ : K.In h₀) (N : News h₀ L s.heap news) (T : Top p loose mean mg mb h₀) (XB : K.In base) (TB : Top p loose mean mg mb base) (T0 : KtsTurn (outer.filterMap (·.frame)) g₀ h₀) (hA : A.frames = some (env :: outer)) (hf : env.frame = some L) (hke : env.scope.kind = .function) :
    Fr h₀ L (hideAll s.heap (news.map (·.1))) m ∧ Below A base (env :: outer) (hideAll s.heap (news.map (·.1))) ∧ h₀.StaysIn (hideAll s.heap (news.map (·.1))) ∧
      ∀ v s', LeaveT ((env :: outer).filterMap (·.frame)) A₀ base outer K p loose mean mg mb g₀ L m (hideAll s.heap (news.map (·.1))) R v s' → R (.ok (.ret v)) s' := by
  obtain ⟨G, BG, st, _⟩ := groundX (R := R) B F N hA hf hke
  refine ⟨G, BG, st, fun v s' hl => ?_⟩
  obtain ⟨g', L', m', news', T', F', N', k⟩ := hl
  obtain ⟨oL, es, ep, hLg, hLd, hLk, hLf⟩ := G.ns
  have nL₀ : h₀.get? L = none := kts_self F
  obtain ⟨sl, hs⟩ := T'.up hLg
  have hNs : Heap.Ns s'.heap L m := ⟨_, es, ep, F'.keep _ _ hs, hLd, hLk, hLf⟩
  obtain ⟨T₁, S₁⟩ := kts_turn_at (h := s'.heap) (fs := outer.filterMap (·.frame)) (g := h₀)
    (fun b hb => by
      obtain ⟨_, o, ho', _⟩ := B.frames.mem hb
      exact ⟨o, ho'⟩)
    (fun b o e nmem => F'.keep b o (T'.other b o (st b o e) (fun q => by
      rcases memX hf q with z | z
      · rw [z, nL₀] at e; cases e
      · exact nmem z)))
    (fun b o e hm => by
      obtain ⟨sl', hs'⟩ := T'.up (st b o e)
      exact ⟨sl', F'.keep _ _ hs'⟩)
  have B₃ : Below A₀ base outer (ktsHeap s'.heap (outer.filterMap (·.frame)) h₀) := ⟨B.stack, fun b o e => T₁.other b o (B.stays b o e) (fun hm => by
    rw [(B.frames.mem hm).1] at e
    cases e), B.frames.of_keeps fun b o e _ => by
    obtain ⟨sl', hs'⟩ := T₁.up e
    exact ⟨_, hs', rfl⟩⟩
  refine k _ (T0.trans T₁) ⟨hNs, S₁, by rw [T₁.size]; exact F.above⟩ (fun p hp => ⟨(N' p hp).1, fun q => ?_, ?_⟩) B₃ (XB.keeps B₃.stays) (TB.keeps B₃.stays)
  · have := (N' p hp).2.2; rw [q, hs] at this; cases this
  · refine T₁.none_ _ ?_
    cases q : h₀.get? p.1 with
    | none => rfl
    | some o =>
      obtain ⟨sl', hs'⟩ := T'.up (st _ _ q)
      have := (N' p hp).2.2
      rw [hs'] at this
      cases this
/- a def without cells whose frame catches: the frames below may be marked -/
theorem enterT (B : Below A₀ base outer h₀) (F : Fr h₀ L s.heap m) (X₀ : K.In h₀) (N : News h₀ L s.heap news) (T : Top p loose mean mg mb h₀) (XB : K.In base) (TB : Top p loose mean mg mb base) (T0 : KtsTurn (outer.filterMap (·.frame)) g₀ h₀) (hA : A.frames = some (env :: outer)) (hf : env.frame = some L) (hke : env.scope.kind = .function)
    (ho : K.lookup f = some ⟨oc, od, .func (fnOf name qual params body scope dV kV doc pm an cdv ct), osl⟩) (hcd : codeIn K cdv qual = true) (hroom : A.depth < recursionLimit)
    (hbind : BindsTo s (fnOf name qual params body scope dV kV doc pm an cdv ct) args binds) (hloc : ∀ y ∈ binds, scope.names.lookup y.1 = some .local)
    (h : ∀ g L' h₁, Hid s.heap news g → Fr h₀ L g m → Fr g L' h₁ (fun y => binds.reverse.lookup y) → News g L' h₁ news → Below A base (env :: outer) g → K.In g → Top p loose mean mg mb g → (∀ p ∈ news, p.1 < L') →
      wpAny (model prog w) (A.deeper (envOf qual scope L' f cdv)) (execs body (envOf qual scope L' f cdv))
        (fun fl s' => LeaveT ((env :: outer).filterMap (·.frame)) A₀ base outer K p loose mean mg mb g₀ L m g R (match fl with | .ret v => v | _ => .none) s')
        (fun e s' => wpAny (model prog w) (A.deeper (envOf qual scope L' f cdv)) (leaving (envOf qual scope L' f cdv) e) (fun _ s'' => R (.error e) s'') (fun e' s'' => R (.error e') s'') s')
        { s with heap := h₁, toks := s.toks + binds.length })
    (hco : scope.isCoroutine = false) (hgen : scope.isGenerator = false) (hk : scope.kind = .function) (hcell : ∀ x ∈ scope.names, x.2 ≠ .cell) : codeAny (model prog w) A (.call (.ref f) args) R s := by
  obtain ⟨G, BG, st, back⟩ := groundT (R := R) B F X₀ N T XB TB T0 hA hf hke
  have X := X₀.keeps F.keep
  refine codeAny_call_def (fd := fnOf name qual params body scope dV kV doc pm an cdv ct) (body := body) (binds := binds) hroom (X _ _ ho) rfl (T.nolimit.keeps F.keep) (codeRec_of X hcd) rfl hbind hcell hloc (fun h₁ ns keep => ?_) hco hgen hk
  have lt : ∀ q ∈ news, q.1 < s.heap.objs.size := fun q hq => Heap.lt_size (N q hq).1
  refine wpAny_mono (h _ _ h₁ (fun b o e hb => hideAll_get _ e hb) G ⟨ns, fun b o e => keep b o (of_hideAll _ e), Nat.le_of_eq (hideAll_size _ _)⟩ (fun q hq => ?_) BG (X₀.keeps st) (T.keeps st) lt) (fun fl s' z => back _ _ z) fun _ _ z => z
  exact ⟨keep _ _ (N q hq).1, Nat.ne_of_lt (lt q hq), hideAll_none _ (List.mem_map_of_mem hq)⟩
/- a def with cells whose frame catches -/
theorem enterTC (B : Below A₀ base outer h₀) (F : Fr h₀ L s.heap m) (X₀ : K.In h₀) (N : News h₀ L s.heap news) (T : Top p loose mean mg mb h₀) (XB : K.In base) (TB : Top p loose mean mg mb base) (T0 : KtsTurn (outer.filterMap (·.frame)) g₀ h₀) (hA : A.frames = some (env :: outer)) (hf : env.frame = some L) (hke : env.scope.kind = .function)
    (ho : K.lookup f = some ⟨oc, od, .func (fnOf name qual params body scope dV kV doc pm an cdv ct), osl⟩) (hcd : codeIn K cdv qual = true) (hroom : A.depth < recursionLimit)
    (hbind : BindsTo s (fnOf name qual params body scope dV kV doc pm an cdv ct) args binds) (hkind : (binds.all fun y => scope.names.lookup y.1 == some .local || scope.names.lookup y.1 == some .cell) = true)
    (hnd : ((cellsFrom 0 scope.names []).map (·.1)).Nodup)
    (h : ∀ g L' h₁ tk cells, Hid s.heap news g → Fr h₀ L g m → Fr g L' h₁ (bindL (envOfC qual scope L' f cdv).kindOf binds fun _ => none) → News g L' h₁ (cells ++ news) →
      CellsAre (bindC (envOfC qual scope L' f cdv).kindOf binds fun _ => none) (cellsFrom (L' + 1) scope.names []) cells → Below A base (env :: outer) g → K.In g → Top p loose mean mg mb g → (∀ p ∈ news, p.1 < L') →
      wpAny (model prog w) (A.deeper (envOfC qual scope L' f cdv)) (execs body (envOfC qual scope L' f cdv))
        (fun fl s' => LeaveT ((env :: outer).filterMap (·.frame)) A₀ base outer K p loose mean mg mb g₀ L m g R (match fl with | .ret v => v | _ => .none) s')
        (fun e s' => wpAny (model prog w) (A.deeper (envOfC qual scope L' f cdv)) (leaving (envOfC qual scope L' f cdv) e) (fun _ s'' => R (.error e) s'') (fun e' s'' => R (.error e') s'') s')
        { s with heap := h₁, toks := tk })
    (hco : scope.isCoroutine = false) (hgen : scope.isGenerator = false) (hk : scope.kind = .function) : codeAny (model prog w) A (.call (.ref f) args) R s := by
  obtain ⟨G, BG, st, back⟩ := groundT (R := R) B F X₀ N T XB TB T0 hA hf hke
  have X := X₀.keeps F.keep
  have lt : ∀ q ∈ news, q.1 < s.heap.objs.size := fun q hq => Heap.lt_size (N q hq).1
  refine codeAny_call_function hroom (X _ _ ho) rfl hco hgen rfl (codeRec_of X hcd) (hbind _ _ _ _ ?_)
  refine wpAny_newFunctionEnv_cells hk (kindsX hkind _) fun env' he s' x => ?_
  subst he
  refine ⟨(T.nolimit.keeps F.keep).keeps x.toInCall.keep, codeAny_func ?_⟩
  obtain ⟨h₁, tk, rfl, _⟩ := x.done
  have keep := x.toInCall.keep
  obtain ⟨cells, NC, Y⟩ := Cl.news (h₀ := s.heap) (Nat.le_refl _) fun n c hm => ⟨x.cell n c (lookup_of_mem_nodup (cellsFrom_names scope.names 0 (s.heap.objs.size + 1) [] [] rfl ▸ hnd) hm), x.above n c hm⟩
  refine wpAny_mono (h _ _ h₁ tk cells (fun b o e hb => hideAll_get _ e hb) G ⟨x.toInCall.ns, fun b o e => keep b o (of_hideAll _ e), Nat.le_of_eq (hideAll_size _ _)⟩ (fun q hq => ?_) Y BG (X₀.keeps st) (T.keeps st) lt) (fun fl s' z => back _ _ z) fun _ _ z => z
  rcases List.mem_append.mp hq with hq | hq
  · refine ⟨(NC q hq).1, (NC q hq).2.1, ?_⟩
    cases e : (hideAll s.heap (news.map (·.1))).get? q.1 with
    | none => rfl
    | some o => exact absurd ((NC q hq).2.2.symm.trans (of_hideAll _ e)) (by nofun)
  · exact ⟨keep _ _ (N q hq).1, Nat.ne_of_lt (lt q hq), hideAll_none _ (List.mem_map_of_mem hq)⟩
end
theorem leaveT_ {fs : List Addr} {A₀ : Around} {base : Heap} {outer : List Env} {K : Frag} {p : Program} {loose : List Str} {mean : ExcName → Option Value} {mg mb : Str → Option Value} {g₀ g g' : Heap} {L L' : Addr} {m m' : Str → Option Value} {news' : List (Addr × Obj)} {R : Result → Shared → Prop} {v : Value} {s' : Shared}
    (F' : Fr g' L' s'.heap m') (N' : News g' L' s'.heap news') (T : KtsTurn fs g g')
    (k : ∀ h₀', KtsTurn (outer.filterMap (·.frame)) g₀ h₀' → Fr h₀' L s'.heap m → News h₀' L s'.heap news' → Below A₀ base outer h₀' → K.In h₀' → Top p loose mean mg mb h₀' → R (.ok (.ret v)) s') :
    LeaveT fs A₀ base outer K p loose mean mg mb g₀ L m g R v s' := ⟨g', L', m', news', T, F', N', k⟩
end
theorem lines_p09refused : True := by
  w_top off
  k_extra "S"
  k_extra "ld:pre"
  k_extra "ld:exset"
  k_extra "ld:swinit"
  k_extra "ld:tellx"
  k_extra "ld:enters"
  k_extra "ld:o_refused"
  trivial
section
theorem TellX.widen {w : World} {f : Value} {vs : List Value} {d u : Nat} {small full : List (Addr × Obj)} {C : Addr} (X : TellX w f vs d u small C) (hs : ∀ p ∈ small, p ∈ full) : TellX w f vs d u full C := by
  intro mean mg mb dp un gd cn cs a ccd cl outer A₀ base h₀ L m s Q E B F XK N T hk hd hu hret
  refine X mean mg mb dp un gd cn cs a ccd cl outer A₀ base h₀ L m s Q E B F XK (News.sub N hs) T hk hd hu fun e h' G tk H FG U R => ?_
  have nf : ∀ q ∈ full, q.1 ∉ (envX cn cs L a ccd cl :: outer).filterMap (·.frame) := fun q hq hm => by
    rcases memX (env := envX cn cs L a ccd cl) rfl hm with z | z
    · exact (N q hq).2.1 z
    · obtain ⟨_, o, ho, _⟩ := B.frames.mem z
      rw [(N q hq).2.2] at ho; cases ho
  have Lf : L ∉ full.map (·.1) := fun hm => by
    obtain ⟨q, hq, e⟩ := List.mem_map.mp hm
    exact (N q hq).2.1 e
  obtain ⟨B', a0, hB, hBG, hl, hfl⟩ := R
  refine hret e h' (hideAll G (full.map (·.1))) tk (fun b o hb hn => ?_) ⟨?_, fun b o hb => ?_, FG.above⟩ (fun b o hb => U b o (of_hideAll _ hb)) ⟨B', a0, hB, fun b o hb => hBG b o (of_hideAll _ hb), fun q hq => ?_, hfl⟩
  · refine hideAll_get _ (H b o hb fun hm => hn ?_) hn
    obtain ⟨q, hq, e⟩ := List.mem_map.mp hm
    exact List.mem_map.mpr ⟨q, hs q hq, e⟩
  · obtain ⟨oL, es, ep, hL, r⟩ := FG.ns
    exact ⟨oL, es, ep, hideAll_get _ hL Lf, r⟩
  · refine hideAll_get _ (FG.keep b o hb) fun hm => ?_
    obtain ⟨q, hq, e⟩ := List.mem_map.mp hm
    have z := (N q hq).2.2
    rw [e, hb] at z; cases z
  · refine ⟨?_, hideAll_none _ (List.mem_map_of_mem hq), fresh_of_stays B.stays (N q hq).2.2⟩
    by_cases hm : q.1 ∈ small.map (·.1)
    · obtain ⟨q', hq', e⟩ := List.mem_map.mp hm
      have z := (N q' (hs q' hq')).1
      rw [e] at z
      have eo : q'.2 = q.2 := Option.some.inj (z.symm.trans (N q hq).1)
      have := (hl q' hq').1
      rw [e, eo] at this
      exact this
    · exact hBG _ _ (H _ _ (N q hq).1 hm) (nf q hq)
theorem TellX.use {w : World} {f : Value} {vs : List Value} {d u : Nat} {news : List (Addr × Obj)} {C : Addr} (X : TellX w f vs d u news C) {mean : ExcName → Option Value} {mg mb : Str → Option Value} {dp un : Nat} {gd : Option (List Code)} {cn : Str} {cs : Scope} {a : Addr} {ccd : Value} {cl : List (Str × Addr)} {outer : List Env} {A₀ : Around} {base h₀ : Heap} {L : Addr} {m : Str → Option Value} {s : Shared} {Q E : Value → Shared → Prop}
    (B : Below A₀ base outer h₀) (F : Fr h₀ L s.heap m) (XK : (Mine.hd.heap_39 w.params).In h₀) (N : News h₀ L s.heap news) (T : Top topProg loose mean mg mb h₀) (hk : cs.kind = .function) (hd : dp + d < recursionLimit) (hu : un + u < cLine)
    (h : ∀ (e : Addr) (h' G : Heap) (tk : Nat), Hid s.heap news G → Fr h₀ L G m → G.UpToSlots h' → FliesV base G (envX cn cs L a ccd cl :: outer) e (.ref C) news h' → E (.ref e) { s with heap := h', toks := tk }) :
    wpAny (model PySem.Challenge.pw_pc0377_01 w) (ktrTop dp un gd cn cs L a ccd cl outer) (call f vs) Q E s := X _ _ _ _ _ _ _ _ _ _ _ _ _ _ _ _ _ _ _ _ B F XK N T hk hd hu h
set_option maxHeartbeats 8000000 in
theorem c_refused {w : World} {c C : Addr} {d u : Nat} {news : List (Addr × Obj)} {cc : Value} {cd' : Option Addr} {fd : FuncData} {sl : Array (Option Value)} (hC : ktsIn (Mine.hd.heap_39 w.params) C "BaseException" = true) (hX : TellX w (.ref c) [] d u news C) (hmem : (c, (⟨cc, cd', .func fd, sl⟩ : Obj)) ∈ news)
    {mean : ExcName → Option Value} {mg mb : Str → Option Value} {dp un : Nat} {gd : Option (List Code)} {cn : Str} {cs : Scope} {a : Addr} {ccd : Value} {cl : List (Str × Addr)} {outer : List Env} {A₀ : Around} {base h₀ g₀ : Heap} {L : Addr} {m : Str → Option Value} {s : Shared} {Q E : Value → Shared → Prop}
    (B : Below A₀ base outer h₀) (F : Fr h₀ L s.heap m) (X : (Mine.hd.heap_39 w.params).In h₀) (N : News h₀ L s.heap news) (T : Top topProg loose mean mg mb h₀) (XB : (Mine.hd.heap_39 w.params).In base) (TB : Top topProg loose mean mg mb base) (T0 : KtsTurn (outer.filterMap (·.frame)) g₀ h₀) (hk : cs.kind = .function) (hd : dp + d + 10 < recursionLimit) (hu : un + u + 1000 < cLine)
    (hret : ∀ h' tk h₀', KtsTurn (outer.filterMap (·.frame)) g₀ h₀' → Fr h₀' L h' m → News h₀' L h' news → Below A₀ base outer h₀' → (Mine.hd.heap_39 w.params).In h₀' → Top topProg loose mean mg mb h₀' → Q (.bool true) { s with heap := h', toks := tk }) :
    wpAny (model PySem.Challenge.pw_pc0377_01 w) (ktrTop dp un gd cn cs L a ccd cl outer) (call (.ref 380) [.ref c, .ref C]) Q E s := by
  refine wpAny_call ?_
  k_dflt cell_enter
  k_steps
  all_goals exact hret _ _ _ (by assumption) (by k_asm) (by k_asm) (by assumption) (by assumption) (by assumption)
end
theorem lines_p10take : True := by
  w_top off
  k_extra "S"
  k_extra "ld:pre"
  k_extra "ld:o_take"
  trivial
section
section
variable {prog : Program} {w : World} {A : Around} {E : Value → Shared → Prop} {s : Shared} {h₀ h : Heap} {L D : Addr} {m : Str → Option Value} {news news' : List (Addr × Obj)} {n : Nat}
theorem pop0 {y : Value} {q : List Value} {u : Tok} {Q : Value → Shared → Prop} (F : Fr h₀ L s.heap m) (N : News h₀ L s.heap news) (U : Upd D (listOf (y :: q).toArray n) (listOf q.toArray (n + 1)) news news')
    (hz : q.length + 1 ≤ 100) (h : ∀ h', Fr h₀ L h' m → News h₀ L h' news' → Q y { s with heap := h' }) : wpAny (model prog w) A (call (.builtin "list.pop") [.ref D, .int 0 u]) Q E s := by
  refine kl_popAt (p := []) (q := q) (k := 0) F N rfl ?_ rfl U ?_ h
  · rw [List.size_toArray, List.length_cons]
    unfold seqIndex?
    simp
  · rw [sizeLine_eq]
    simp
    lia
end
inductive Ret_take (src l : Addr) (top : Int) (v : Value) (news' : List (Addr × Obj)) : Prop
  | mk : ∀ d t' o1' o2', (v = .int d t') → (0 ≤ d) → (d < top) → (SrcObj l o1' o2') → (news' = [(src, o1'), (l, o2')]) → Ret_take src l top v news'
set_option maxHeartbeats 8000000 in
theorem c_take (w : World) (src l : Addr) (o1 o2 : Obj) (top : Int) (t : Tok) (hS : SrcObj l o1 o2) (hlt : @LT.lt Nat _ l src) (htop : 0 < top) (htop2 : top ≤ 100000) :
    Tell w 366 [.ref src, .int top t] 5 100 [(src, o1), (l, o2)] (Ret_take src l top) := by
  obtain ⟨x, y, t1, t2, n1, n2, vs, ns, rfl, rfl, hx, hy, hy2, hi, hns, hvl⟩ := hS
  cases hi with
  | nil =>
    unfold Tell
    intro mean mg mb dp un gd cn cs a ccd cl outer A₀ base h₀ L m s Q E B F X N T hk hd hu hret
    refine wpAny_call ?_
    k_dflt cell_enter
    k_steps
    all_goals (
      refine' fin_ (small := [(src, _), (l, _)]) hret ?H ?F' ?F ?N ?S ?R
      case H => k_asm
      case F' => k_asm
      case F => k_asm
      case N => k_asm
      case S => repeat' (first | exact Sub.refl | refine' Sub.keep ?_ | refine' Sub.skip ?_ | exact Sub.nil)
      case R => exact ⟨_, _, _, _, rfl, am0 htop, am1 htop, ⟨_, _, _, _, _, _, _, _, rfl, rfl, by first | exact hx | exact ad0 hx htop, by first | exact hy | exact am0 (by decide), by first | exact hy2 | exact am1 (by decide), IntsAre.nil, hns, hvl⟩, rfl⟩)
  | cons n u hi =>
    unfold Tell
    intro mean mg mb dp un gd cn cs a ccd cl outer A₀ base h₀ L m s Q E B F X N T hk hd hu hret
    refine wpAny_call ?_
    k_dflt cell_enter
    k_steps
    all_goals (
      refine' fin_ (small := [(src, _), (l, _)]) hret ?H ?F' ?F ?N ?S ?R
      case H => k_asm
      case F' => k_asm
      case F => k_asm
      case N => k_asm
      case S => repeat' (first | exact Sub.refl | refine' Sub.keep ?_ | refine' Sub.skip ?_ | exact Sub.nil)
      case R => first
        | exact ⟨_, _, _, _, rfl, am0 htop, am1 htop, ⟨_, _, _, _, _, _, _, _, rfl, rfl, by first | exact hx | exact ad0 hx htop, by first | exact hy | exact am0 (by decide), by first | exact hy2 | exact am1 (by decide), IntsAre.cons n u hi, hns, hvl⟩, rfl⟩
        | exact ⟨_, _, _, _, rfl, am0 htop, am1 htop, ⟨_, _, _, _, _, _, _, _, rfl, rfl, hx, hy, hy2, hi, fun n hn => hns n (.tail _ hn), by simp only [List.length_cons] at hvl; lia⟩, rfl⟩)
theorem use_take {w : World} {mean : ExcName → Option Value} {mg mb : Str → Option Value} {dp un : Nat} {gd : Option (List Code)} {cn : Str} {cs : Scope} {a : Addr} {ccd : Value} {cl : List (Str × Addr)} {outer : List Env} {A₀ : Around} {base h₀ : Heap} {L : Addr} {m : Str → Option Value} {s0 : Heap} {s1 : Array GenState} {s2 : Drawn} {s3 : Nat} {s4 : OsState} {Q E : Value → Shared → Prop}
    {src l : Addr} {o1 o2 : Obj} {top : Int} {t : Tok} {full r1 rest : List (Addr × Obj)} (P1 : Pick src o1 full r1) (hS : SrcObj l o1 o2) (P2 : Pick l o2 r1 rest) (hlt : @LT.lt Nat _ l src) (hr1 : ∀ p ∈ rest, p.1 ≠ src) (hr2 : ∀ p ∈ rest, p.1 ≠ l) (htop : 0 < top) (htop2 : top ≤ 100000)
    (B : Below A₀ base outer h₀) (F : Fr h₀ L s0 m) (X : (Mine.hd.heap_39 w.params).In h₀) (N : News h₀ L s0 full) (T : Top topProg loose mean mg mb h₀) (hk : cs.kind = .function) (hd : dp + 5 < recursionLimit) (hu : un + 100 < cLine)
    (h : let R := rest; (∀ p ∈ R, p.1 ≠ src) → (∀ p ∈ R, p.1 ≠ l) → ∀ (d : Int) (t' : Tok) (o1' o2' : Obj) (h' : Heap) (tk' : Nat), 0 ≤ d → d < top → SrcObj l o1' o2' → Fr h₀ L h' m → News h₀ L h' ((src, o1') :: (l, o2') :: R) → Q (.int d t') (Shared.mk h' s1 s2 tk' s4)) :
    wpAny (model PySem.Challenge.pw_pc0377_01 w) (ktrTop dp un gd cn cs L a ccd cl outer) (call (.ref 366) [.ref src, .int top t]) Q E (Shared.mk s0 s1 s2 s3 s4) := by
  refine (c_take w src l o1 o2 top t hS hlt htop htop2).use B F X (pick2 P1 P2 N) T hk hd hu fun v h' tk' news' hR H F' N' => ?_
  obtain ⟨d, t', o1', o2', rfl, a, b, c, rfl⟩ := hR
  exact h hr1 hr2 d t' o1' o2' h' tk' a b c F' (pick2_after P1 P2 hr1 hr2 N H N')
end
theorem lines_p11one : True := by
  w_top off
  k_extra "S"
  k_extra "ld:pre"
  k_extra "ld:take"
  k_extra "ld:o_one"
  trivial
section
section
variable {prog : Program} {w : World} {A : Around} {E : Value → Shared → Prop} {s : Shared} {h₀ : Heap} {L l : Addr} {m : Str → Option Value} {news : List (Addr × Obj)}
theorem item_in {vs : List Value} {n : Nat} {k : Int} {u : Tok} {value slice : Expr} {Q : Value → Shared → Prop} (N : News h₀ L s.heap news) (hm : (l, listOf vs.toArray n) ∈ news) (h0 : 0 ≤ k) (h1 : k < (vs.length : Int)) (hz : vs.length ≤ 100)
    (h : ∀ v, vs[k.toNat]? = some v → Q v s)
    (hs : subscripted slice false (.ref l) (.int k u) = operate [.ref l, .int k u] (getItem (.ref l) (.int k u)) := by with_unfolding_all rfl) :
    wpAny (model prog w) A (subscriptTail value slice (.ref l) (.int k u)) Q E s := by
  have hl : s.heap.IsList l vs.toArray := ⟨_, N.get hm, rfl, _, rfl⟩
  have hlt : k.toNat < vs.length := by lia
  have hx : vs[k.toNat]? = some vs[k.toNat] := List.getElem?_eq_getElem hlt
  exact tail_any hl.typeIs slot_list_getitem.lookup (wpAny_getItem_list hl h0 (by lia) (by rw [List.getElem?_toArray]; exact hx) (h _ hx)) hs
theorem len_in {vs : List Value} {n : Nat} {Q : Value → Shared → Prop} (N : News h₀ L s.heap news) (hm : (l, listOf vs.toArray n) ∈ news) (hz : vs.length ≤ 100)
    (h : Q (.int (vs.length : Int) (s.toks + 1)) { s with toks := s.toks + 1 + 1 }) : wpAny (model prog w) A (call (.builtin "len") [.ref l]) Q E s := by
  have hl : s.heap.IsList l vs.toArray := ⟨_, N.get hm, rfl, _, rfl⟩
  exact call_len_list hl (by rw [List.size_toArray]; lia) (by rw [List.size_toArray]; exact h)
end
inductive Ret_one (src l : Addr) (vs : List Value) (v : Value) (news' : List (Addr × Obj)) : Prop
  | mk : ∀ (j : Nat) (o1' o2' : Obj), (vs[j]? = some v) → (SrcObj l o1' o2') → (news' = [(src, o1'), (l, o2')]) → Ret_one src l vs v news'
set_option maxHeartbeats 8000000 in
theorem c_one (w : World) (src l th : Addr) (o1 o2 : Obj) (vs : List Value) (n : Nat) (hS : SrcObj l o1 o2) (hlt : @LT.lt Nat _ l src) (hth1 : @Ne Nat th src) (hth2 : @Ne Nat th l)
    (hv1 : 0 < (vs.length : Int)) (hv2 : vs.length ≤ 100) :
    Tell w 373 [.ref src, .ref th] 10 200 [(src, o1), (l, o2), (th, listOf vs.toArray n)] (Ret_one src l vs) := by
  unfold Tell
  intro mean mg mb dp un gd cn cs a ccd cl outer A₀ base h₀ L m s Q E B F X N T hk hd hu hret
  have hv3 : (vs.toArray.size : Int) ≤ 100000 := by rw [List.size_toArray]; lia
  have hv4 : 0 < (vs.toArray.size : Int) := by rw [List.size_toArray]; lia
  refine wpAny_call ?_
  k_dflt cell_enter
  k_steps
  all_goals (
    refine' fin_ (small := [(src, _), (l, _)]) hret ?H ?F' ?F ?N ?S ?R
    case H => k_asm
    case F' => k_asm
    case F => k_asm
    case N => k_asm
    case S => repeat' (first | exact Sub.refl | refine' Sub.keep ?_ | refine' Sub.skip ?_ | exact Sub.nil)
    case R => exact ⟨_, _, _, by assumption, by assumption, rfl⟩)
theorem pick3 {h₀ h : Heap} {L a b c : Addr} {o1 o2 o3 : Obj} {full r1 r2 rest : List (Addr × Obj)} (P1 : Pick a o1 full r1) (P2 : Pick b o2 r1 r2) (P3 : Pick c o3 r2 rest) (N : News h₀ L h full) : News h₀ L h [(a, o1), (b, o2), (c, o3)] := News.sub N fun p hp => P1.mem p (by
  rcases List.mem_cons.mp hp with rfl | hp
  · exact .head _
  · exact .tail _ (P2.mem p (by
      rcases List.mem_cons.mp hp with rfl | hp
      · exact .head _
      · exact .tail _ (P3.mem p (by rcases List.mem_cons.mp hp with rfl | hp; exact .head _; cases hp)))))
/- a list of strs -/
inductive StrsIn : List Value → List Str → Prop
  | nil : StrsIn [] []
  | cons {x : Str} {t : Tok} {vs : List Value} {xs : List Str} : StrsIn vs xs → StrsIn (.str x t :: vs) (x :: xs)
theorem StrsIn.at {vs : List Value} {xs : List Str} (h : StrsIn vs xs) : ∀ {j : Nat} {v : Value}, vs[j]? = some v → ∃ x t, v = .str x t ∧ x ∈ xs := by
  induction h with
  | nil => intro j v e; simp at e
  | cons h ih =>
    intro j v e
    cases j with
    | zero => simp at e; subst e; exact ⟨_, _, rfl, .head _⟩
    | succ j => simp at e; obtain ⟨x, t, a, b⟩ := ih e; exact ⟨x, t, a, .tail _ b⟩
theorem ints_at {vs : List Value} {ns : List Int} (h : IntsAre vs ns) : ∀ {j : Nat} {v : Value}, vs[j]? = some v → ∃ x t, v = .int x t ∧ x ∈ ns := by
  induction h with
  | nil => intro j v e; simp at e
  | cons n u h ih =>
    intro j v e
    cases j with
    | zero => simp at e; subst e; exact ⟨_, _, rfl, .head _⟩
    | succ j => simp at e; obtain ⟨x, t, a, b⟩ := ih e; exact ⟨x, t, a, .tail _ b⟩
section
variable {w : World} {mean : ExcName → Option Value} {mg mb : Str → Option Value} {dp un : Nat} {gd : Option (List Code)} {cn : Str} {cs : Scope} {a : Addr} {ccd : Value} {cl : List (Str × Addr)} {outer : List Env} {A₀ : Around} {base h₀ : Heap} {L : Addr} {m : Str → Option Value} {s : Shared} {Q E : Value → Shared → Prop}
    {src l th : Addr} {o1 o2 : Obj} {vs : List Value} {n : Nat} {full r1 r2 rest : List (Addr × Obj)}
theorem use_one (P3 : Pick th (listOf vs.toArray n) full r1) (P1 : Pick src o1 r1 r2) (hS : SrcObj l o1 o2) (P2 : Pick l o2 r2 rest) (hlt : @LT.lt Nat _ l src) (hr1 : ∀ p ∈ rest, p.1 ≠ src) (hr2 : ∀ p ∈ rest, p.1 ≠ l) (hr3 : ∀ p ∈ rest, p.1 ≠ th) (hth1 : @Ne Nat th src) (hth2 : @Ne Nat th l)
    (hv1 : 0 < (vs.length : Int)) (hv2 : vs.length ≤ 100)
    (B : Below A₀ base outer h₀) (F : Fr h₀ L s.heap m) (X : (Mine.hd.heap_39 w.params).In h₀) (N : News h₀ L s.heap full) (T : Top topProg loose mean mg mb h₀) (hk : cs.kind = .function) (hd : dp + 10 < recursionLimit) (hu : un + 200 < cLine)
    (h : ∀ (j : Nat) (v : Value) (o1' o2' : Obj) (h' : Heap) (tk' : Nat), vs[j]? = some v → SrcObj l o1' o2' → Fr h₀ L h' m → News h₀ L h' ((src, o1') :: (l, o2') :: rest) → Q v { s with heap := h', toks := tk' }) :
    wpAny (model PySem.Challenge.pw_pc0377_01 w) (ktrTop dp un gd cn cs L a ccd cl outer) (call (.ref 373) [.ref src, .ref th]) Q E s := by
  have N3 : News h₀ L s.heap [(src, o1), (l, o2), (th, listOf vs.toArray n)] := News.sub (pick3 P3 P1 P2 N) fun p hp => by
    simp only [List.mem_cons, List.not_mem_nil, or_false] at hp ⊢
    rcases hp with rfl | rfl | rfl <;> simp
  refine (c_one w src l th o1 o2 vs n hS hlt hth1 hth2 hv1 hv2).use B F X N3 T hk hd hu fun v h' tk' news' hR H F' N' => ?_
  obtain ⟨j, o1', o2', e, c, rfl⟩ := hR
  refine h j v o1' o2' h' tk' e c F' (after_ N H N' fun p hp => ⟨P3.mem p (.tail _ (P1.mem p (.tail _ (P2.mem p (.tail _ hp))))), fun hm => ?_⟩)
  simp only [mapc, mapn, List.mem_cons, List.not_mem_nil, or_false] at hm
  rcases hm with e | e | e
  · exact hr1 p hp e
  · exact hr2 p hp e
  · exact hr3 p hp e
theorem use_oneI {ns : List Int} (P3 : Pick th (listOf vs.toArray n) full r1) (hi : IntsAre vs ns) (P1 : Pick src o1 r1 r2) (hS : SrcObj l o1 o2) (P2 : Pick l o2 r2 rest) (hlt : @LT.lt Nat _ l src) (hr1 : ∀ p ∈ rest, p.1 ≠ src) (hr2 : ∀ p ∈ rest, p.1 ≠ l) (hr3 : ∀ p ∈ rest, p.1 ≠ th) (hth1 : @Ne Nat th src) (hth2 : @Ne Nat th l)
    (hv1 : Nat.ble 1 vs.length = true) (hv2 : Nat.ble vs.length 100 = true)
    (B : Below A₀ base outer h₀) (F : Fr h₀ L s.heap m) (X : (Mine.hd.heap_39 w.params).In h₀) (N : News h₀ L s.heap full) (T : Top topProg loose mean mg mb h₀) (hk : cs.kind = .function) (hd : dp + 10 < recursionLimit) (hu : un + 200 < cLine)
    (h : let R := rest; (∀ p ∈ R, p.1 ≠ src) → (∀ p ∈ R, p.1 ≠ l) → ∀ (x : Int) (t : Tok) (o1' o2' : Obj) (h' : Heap) (tk' : Nat), x ∈ ns → SrcObj l o1' o2' → Fr h₀ L h' m → News h₀ L h' ((src, o1') :: (l, o2') :: R) → Q (.int x t) { s with heap := h', toks := tk' }) :
    wpAny (model PySem.Challenge.pw_pc0377_01 w) (ktrTop dp un gd cn cs L a ccd cl outer) (call (.ref 373) [.ref src, .ref th]) Q E s :=
  use_one P3 P1 hS P2 hlt hr1 hr2 hr3 hth1 hth2 (by have := Nat.le_of_ble_eq_true hv1; lia) (Nat.le_of_ble_eq_true hv2) B F X N T hk hd hu fun j v o1' o2' h' tk' e c F' N' => by
    obtain ⟨x, t, rfl, hx⟩ := ints_at hi e
    exact h hr1 hr2 x t o1' o2' h' tk' hx c F' N'
theorem use_oneS {xs : List Str} (P3 : Pick th (listOf vs.toArray n) full r1) (hi : StrsIn vs xs) (P1 : Pick src o1 r1 r2) (hS : SrcObj l o1 o2) (P2 : Pick l o2 r2 rest) (hlt : @LT.lt Nat _ l src) (hr1 : ∀ p ∈ rest, p.1 ≠ src) (hr2 : ∀ p ∈ rest, p.1 ≠ l) (hr3 : ∀ p ∈ rest, p.1 ≠ th) (hth1 : @Ne Nat th src) (hth2 : @Ne Nat th l)
    (hv1 : Nat.ble 1 vs.length = true) (hv2 : Nat.ble vs.length 100 = true)
    (B : Below A₀ base outer h₀) (F : Fr h₀ L s.heap m) (X : (Mine.hd.heap_39 w.params).In h₀) (N : News h₀ L s.heap full) (T : Top topProg loose mean mg mb h₀) (hk : cs.kind = .function) (hd : dp + 10 < recursionLimit) (hu : un + 200 < cLine)
    (h : let R := rest; (∀ p ∈ R, p.1 ≠ src) → (∀ p ∈ R, p.1 ≠ l) → ∀ (x : Str) (t : Tok) (o1' o2' : Obj) (h' : Heap) (tk' : Nat), x ∈ xs → SrcObj l o1' o2' → Fr h₀ L h' m → News h₀ L h' ((src, o1') :: (l, o2') :: R) → Q (.str x t) { s with heap := h', toks := tk' }) :
    wpAny (model PySem.Challenge.pw_pc0377_01 w) (ktrTop dp un gd cn cs L a ccd cl outer) (call (.ref 373) [.ref src, .ref th]) Q E s :=
  use_one P3 P1 hS P2 hlt hr1 hr2 hr3 hth1 hth2 (by have := Nat.le_of_ble_eq_true hv1; lia) (Nat.le_of_ble_eq_true hv2) B F X N T hk hd hu fun j v o1' o2' h' tk' e c F' N' => by
    obtain ⟨x, t, rfl, hx⟩ := hi.at e
    exact h hr1 hr2 x t o1' o2' h' tk' hx c F' N'
end
end
theorem lines_p12comp : True := by
  w_top off
  k_extra "S"
  k_extra "ld:pre"
  trivial
section
section
open PyProof.Rows.LCg
variable {prog : Program} {w : World} {A : Around} {E : Value → Shared → Prop} {s : Shared} {h₀ : Heap} {L I C D : Addr} {m mC : Str → Option Value} {news rest src : List (Addr × Obj)} {env cenv : Env} {g : Obj → List (Addr × Obj)} {n i : Nat} {P : Nat → Value → Prop} {oI oC : Obj}
/- the source of an iterator is at hand -/
noncomputable def SrcIn (src : List (Addr × Obj)) (h : Heap) : Prop := ∀ p ∈ src, h.get? p.1 = some p.2
theorem srcIn_nil {h : Heap} : SrcIn [] h := fun _ hp => nomatch hp
theorem srcIn_news {h : Heap} {a : Addr} {o : Obj} (N : News h₀ L h news) (hm : (a, o) ∈ news) : SrcIn [(a, o)] h := fun p hp => by rw [List.mem_singleton.mp hp]; exact N.get hm
theorem srcIn_base {K : Frag} {h : Heap} {a : Addr} {o : Obj} (F : Fr h₀ L h m) (X : K.In h₀) (hl : K.lookup a = some o) : SrcIn [(a, o)] h := fun p hp => by rw [List.mem_singleton.mp hp]; exact F.keep _ _ (X _ _ hl)
noncomputable def ownerless (n : String) : Bool := !(["enumerate", "zip", "dict_itemiterator", "dict_reverseitemiterator", "odict_iterator", "itertools.zip_longest", "itertools.pairwise"].contains n)
/- the iterator I, whose object is oI, stands before its item i -/
inductive Steps (prog : Program) (w : World) (I : Addr) (src : List (Addr × Obj)) (n : Nat) (P : Nat → Value → Prop) (i : Nat) (oI : Obj) : Prop
  | mk : ∀ (fp : List Addr) (St : Nat → Heap → Prop), ((∀ A : Around, A.handled = none → Walks prog w A I fp [I] n P St)) → ((∀ b ∈ fp, b = I ∨ ∃ p ∈ src, p.1 = b)) → ((∀ j h, St j h → ∃ o, h.get? I = some o ∧ ∃ n, o.cls = .type n ∧ ownerless n = true)) → ((∀ p ∈ src, p.1 ≠ I)) → (∀ h, h.get? I = some oI → SrcIn src h → St i h) → Steps prog w I src n P i oI
theorem steps_next {Q : Option Value → Shared → Prop} (S : Steps prog w I src n P i oI) (hh : A.handled = none) (hi : i < n) (F : Fr h₀ L s.heap m) (N : News h₀ L s.heap news) (U : UpdF I oI news g) (hs : SrcIn src s.heap)
    (h : ∀ v h' tk oI', P i v → Steps prog w I src n P (i + 1) oI' → Fr h₀ L h' m → News h₀ L h' (g oI') → Q (some v) { s with heap := h', toks := tk }) : wpAny (model prog w) A (pyNext (.ref I)) Q E s := by
  obtain ⟨fp, St, W, hfp, hIo, hsI, hst⟩ := S
  obtain ⟨pre, post, rfl, hg, h1, h2⟩ := U.split
  have zI := N (I, oI) (List.mem_append_right _ (.head _))
  refine (W A hh).item i s Q E hi (hst _ zI.1 hs) fun v h' tk hP st' keep => ?_
  obtain ⟨oI', he, _⟩ := hIo _ _ st'
  have keepN : ∀ b, b ≠ I → ∀ o, s.heap.get? b = some o → h'.get? b = some o := fun b hb o e => keep b o (fun hm => hb (List.mem_singleton.mp hm)) e
  refine h v h' tk oI' hP ⟨fp, St, W, hfp, hIo, hsI, fun h₂ e2 s2 => (W A hh).frame _ _ _ st' fun b hb o e => ?_⟩ ⟨F.ns.at' fun o e => keepN L (Ne.symm zI.2.1) o e, fun b o e => keepN b (fun q => ?_) o (F.keep b o e), F.above⟩ fun p hp => ?_
  · rcases hfp b hb with rfl | ⟨p, hp, rfl⟩
    · rw [he] at e; cases e; exact e2
    · rw [keepN _ (hsI p hp) _ (hs p hp)] at e; cases e; exact s2 p hp
  · rw [q, zI.2.2] at e; cases e
  · rw [hg] at hp
    rcases List.mem_append.mp hp with hp | hp
    · have z := N p (List.mem_append_left _ hp); exact ⟨keepN _ (h1 p hp) _ z.1, z.2⟩
    · rcases List.mem_cons.mp hp with rfl | hp
      · exact ⟨he, zI.2⟩
      · have z := N p (List.mem_append_right _ (.tail _ hp)); exact ⟨keepN _ (h2 p hp) _ z.1, z.2⟩
theorem steps_done {Q : Option Value → Shared → Prop} (S : Steps prog w I src n P n oI) (hh : A.handled = none) (F : Fr h₀ L s.heap m) (N : News h₀ L s.heap news) (U : Pick I oI news rest) (hne : ∀ p ∈ rest, p.1 ≠ I) (hs : SrcIn src s.heap)
    (h : ∀ h' tk, Fr h₀ L h' m → News h₀ L h' rest → Q none { s with heap := h', toks := tk }) : wpAny (model prog w) A (pyNext (.ref I)) Q E s := by
  obtain ⟨fp, St, W, hfp, hIo, hsI, hst⟩ := S
  have zI := N (I, oI) (U.mem _ (.head _))
  refine (W A hh).done s Q E (hst _ zI.1 hs) fun h' tk keep => ?_
  have keepN : ∀ b, b ≠ I → ∀ o, s.heap.get? b = some o → h'.get? b = some o := fun b hb o e => keep b o (fun hm => hb (List.mem_singleton.mp hm)) e
  refine h h' tk ⟨F.ns.at' fun o e => keepN L (Ne.symm zI.2.1) o e, fun b o e => keepN b (fun q => ?_) o (F.keep b o e), F.above⟩ fun p hp => ?_
  · rw [q, zI.2.2] at e; cases e
  · have z := N p (U.mem _ (.tail _ hp)); exact ⟨keepN _ (hne p hp) _ z.1, z.2⟩
theorem steps_cls {h : Heap} (S : Steps prog w I src n P i oI) (e : h.get? I = some oI) (hs : SrcIn src h) : ∃ n, oI.cls = .type n ∧ ownerless n = true := by
  obtain ⟨fp, St, W, hfp, hIo, hsI, hst⟩ := S
  obtain ⟨o, e', r⟩ := hIo _ _ (hst h e hs)
  rw [e] at e'; cases e'; exact r
theorem steps_self {Q : Value → Shared → Prop} (S : Steps prog w I src n P i oI) (hh : A.handled = none) (e : s.heap.get? I = some oI) (hs : SrcIn src s.heap) (h : Q (.ref I) s) : wpAny (model prog w) A (pyIter (.ref I)) Q E s := by
  obtain ⟨fp, St, W, hfp, hIo, hsI, hst⟩ := S
  exact (W A hh).self i s Q E (hst _ e hs) h
theorem pushN {o : Obj} (F : Fr h₀ L s.heap m) (N : News h₀ L s.heap news) (hf : o.isFreed = false) : News h₀ L (s.heap.push o) ((s.heap.objs.size, o) :: news) := fun q hq => by
  rcases List.mem_cons.mp hq with rfl | hq
  · exact ⟨Heap.get?_push_size _ hf, Nat.ne_of_gt F.ns.lt, none_at_size F⟩
  · exact ⟨Heap.get?_push_of_some _ (N q hq).1, (N q hq).2⟩
theorem iter_list {l : Addr} {ol : Obj} {its : Array Value} {k : Nat} {Q : Value → Shared → Prop} (F : Fr h₀ L s.heap m) (N : News h₀ L s.heap news) (hs : SrcIn [(l, ol)] s.heap) (hc : ol.cls = .type "list") (hd : ol.data = .seq its k)
    (h : ∀ I h' oI, Fr h₀ L h' m → News h₀ L h' ((I, oI) :: news) → (∀ p ∈ news, p.1 < I) → Steps prog w I [(l, ol)] its.size (fun i v => its[i]? = some v) 0 oI → SrcIn [(l, ol)] h' → Q (.ref I) { s with heap := h' }) :
    wpAny (model prog w) A (pyIter (.ref l)) Q E s := by
  have hl : s.heap.get? l = some ol := hs _ (.head _)
  have hlt := Heap.lt_size hl
  have IL : s.heap.IsList l its := ⟨ol, hl, hc, k, hd⟩
  refine wpAny_pyIter_list IL (h _ _ _ (F.push _) (pushN F N rfl) (fun p hp => Heap.lt_size (N p hp).1) ⟨_, _, fun A hh => Walks.list hh s.heap.objs.size l (Nat.ne_of_lt hlt) its, fun b hb => ?_, fun j h st => ?_, fun p hp => ?_, fun h' e s' => ?_⟩ fun p hp => ?_)
  · rcases List.mem_cons.mp hb with rfl | hb
    · exact .inl rfl
    · exact .inr ⟨_, .head _, (List.mem_singleton.mp hb).symm⟩
  · obtain ⟨o, e, c, _⟩ := st.1; exact ⟨o, e, _, c, by decide⟩
  · rw [List.mem_singleton.mp hp]; exact Nat.ne_of_lt hlt
  · exact ⟨⟨_, e, rfl, rfl⟩, ⟨ol, s' _ (.head _), hc, k, hd⟩⟩
  · rw [List.mem_singleton.mp hp]; exact Heap.get?_push_of_some _ hl
theorem iter_tuple {l : Addr} {ol : Obj} {its : Array Value} {k : Nat} {Q : Value → Shared → Prop} (F : Fr h₀ L s.heap m) (N : News h₀ L s.heap news) (hs : SrcIn [(l, ol)] s.heap) (hc : ol.cls = .type "tuple") (hd : ol.data = .seq its k)
    (h : ∀ I h' oI, Fr h₀ L h' m → News h₀ L h' ((I, oI) :: news) → (∀ p ∈ news, p.1 < I) → Steps prog w I [(l, ol)] its.size (fun i v => its[i]? = some v) 0 oI → SrcIn [(l, ol)] h' → Q (.ref I) { s with heap := h' }) :
    wpAny (model prog w) A (pyIter (.ref l)) Q E s := by
  have hl : s.heap.get? l = some ol := hs _ (.head _)
  have hlt := Heap.lt_size hl
  have IL : s.heap.IsTuple l its := ⟨ol, hl, hc, k, hd⟩
  refine wpAny_pyIter_tuple IL (h _ _ _ (F.push _) (pushN F N rfl) (fun p hp => Heap.lt_size (N p hp).1) ⟨_, _, fun A hh => Walks.tuple hh s.heap.objs.size l (Nat.ne_of_lt hlt) its, fun b hb => ?_, fun j h st => ?_, fun p hp => ?_, fun h' e s' => ?_⟩ fun p hp => ?_)
  · rcases List.mem_cons.mp hb with rfl | hb
    · exact .inl rfl
    · exact .inr ⟨_, .head _, (List.mem_singleton.mp hb).symm⟩
  · obtain ⟨o, e, c, _⟩ := st.1; exact ⟨o, e, _, c, by decide⟩
  · rw [List.mem_singleton.mp hp]; exact Nat.ne_of_lt hlt
  · exact ⟨⟨_, e, rfl, rfl⟩, ⟨ol, s' _ (.head _), hc, k, hd⟩⟩
  · rw [List.mem_singleton.mp hp]; exact Heap.get?_push_of_some _ hl
theorem iter_range {r : Addr} {a b c : Int} {t u v : Tok} {n : Nat} {Q : Value → Shared → Prop} (F : Fr h₀ L s.heap m) (N : News h₀ L s.heap news) (hr : IsRange s.heap r a b c t u v) (hsm : Builtin.Range.small a b c = true) (hn : Builtin.Range.rangeSize a b c = ((n : Nat) : Int))
    (h : ∀ I h' oI, Fr h₀ L h' m → News h₀ L h' ((I, oI) :: news) → (∀ p ∈ news, p.1 < I) → Steps prog w I [] n (fun i v => ∃ t, v = .int (a + i * c) t) 0 oI → SrcIn [] h' → Q (.ref I) { s with heap := h' }) :
    wpAny (model prog w) A (pyIter (.ref r)) Q E s := by
  refine wpAny_pyIter_range hr hsm (h _ _ _ (F.push _) (pushN F N rfl) (fun p hp => Heap.lt_size (N p hp).1) ⟨_, _, fun A hh => Walks.range hh s.heap.objs.size a c n, fun b hb => .inl (List.mem_singleton.mp hb), fun j h st => ⟨_, st, _, rfl, by decide⟩, fun p hp => (nomatch hp), fun h' e s' => ?_⟩ srcIn_nil)
  show IsRangeIter _ _ _ _ _
  rw [hn] at e
  simpa using e
theorem iter_vals {K : Type} [DecidableEq K] {knd : KeyKind prog w K} {kvs : List (K × Value)} {l d : Addr} {ol od : Obj} {Q : Value → Shared → Prop} (F : Fr h₀ L s.heap m) (N : News h₀ L s.heap news) (hv : (l, ol) ∈ news) (hc : ol.cls = .type "dict_values") (hd : ol.data = .fields #[.ref d]) (hs : SrcIn [(d, od)] s.heap) (hod : od.IsDictOf knd kvs)
    (h : ∀ I h' oI, Fr h₀ L h' m → News h₀ L h' ((I, oI) :: news) → (∀ p ∈ news, p.1 < I) → Steps prog w I [(d, od)] kvs.length (fun i v => ∃ k, kvs[i]? = some (k, v)) 0 oI → SrcIn [(d, od)] h' → Q (.ref I) { s with heap := h' }) :
    wpAny (model prog w) A (pyIter (.ref l)) Q E s := by
  obtain ⟨ep, ha⟩ := KdkAt.of hod
  have hl : s.heap.get? d = some od := hs _ (.head _)
  have hlt := Heap.lt_size hl
  refine wpAny_pyIter_values (knd := knd) (kvs := kvs) (ep := ep) ⟨_, N.get hv, hc, hd⟩ (ha.dictAt hl) (h _ _ _ (F.push _) (pushN F N rfl) (fun p hp => Heap.lt_size (N p hp).1) ⟨_, _, fun A hh => Walks.dictValues (knd := knd) hh s.heap.objs.size d (Nat.ne_of_lt hlt) kvs ep, fun b hb => ?_, fun j h st => ?_, fun p hp => ?_, fun h' e s' => ?_⟩ fun p hp => ?_)
  · rcases List.mem_cons.mp hb with rfl | hb
    · exact .inl rfl
    · exact .inr ⟨_, .head _, (List.mem_singleton.mp hb).symm⟩
  · obtain ⟨o, e, c, _⟩ := st.1; exact ⟨o, e, _, c, by decide⟩
  · rw [List.mem_singleton.mp hp]; exact Nat.ne_of_lt hlt
  · exact ⟨⟨_, e, rfl, rfl⟩, ha.dictAt (s' _ (.head _))⟩
  · rw [List.mem_singleton.mp hp]; exact Heap.get?_push_of_some _ hl
end
end
theorem lines_p13loop : True := by
  w_top off
  k_extra "S"
  k_extra "ld:pre"
  trivial
section
section
open PyProof.Rows.LCg
variable {prog : Program} {w : World} {A : Around} {E : Value → Shared → Prop} {s : Shared} {h₀ : Heap} {L I C D : Addr} {m mC : Str → Option Value} {news rest src : List (Addr × Obj)} {env cenv : Env} {g : Obj → List (Addr × Obj)} {n i : Nat} {P : Nat → Value → Prop} {oI oC : Obj}
  {elt kx vx target iter c : Expr} {ifs : List Expr} {scope : Scope} {cl : List (Str × Addr)} {pos : Pos} {use : Option (Value → Sem Unit)} {Q : Value → Shared → Prop} {R : Result → Shared → Prop}
noncomputable def MLoop (prog : Program) (w : World) (A : Around) (e : Expr) (it acc : Value) (cenv : Env) (R : Result → Shared → Prop) (s : Shared) : Prop := codeAny (model prog w) A (.compLoop e 0 it acc cenv) R s
theorem letML {prog : Program} {w : World} {A : Around} {e : Expr} {it acc : Value} {cenv : Env} {R : Result → Shared → Prop} {s : Shared} (k : let s1 := s; MLoop prog w A e it acc cenv R s1) : MLoop prog w A e it acc cenv R s := k
noncomputable def MMake (prog : Program) (w : World) (A : Around) (e : Expr) (scope : Scope) (cl : List (Str × Addr)) (env : Env) (newAcc : Sem Value) (use : Option (Value → Sem Unit)) (Q E : Value → Shared → Prop) (it : Value) (s : Shared) : Prop :=
  wpAny (model prog w) A newAcc (fun acc s₃ => wpAny (model prog w) A (newFunctionEnv scope env.globals cl [] env.qual none .none (some env)) (fun cenv s₄ =>
    codeAny (model prog w) A (.compStart e 0 it acc { cenv with scope := relabel scope env }) (compPost (model prog w) A E use Q acc cenv.locals) s₄) E s₃) E s
noncomputable def MSrc (prog : Program) (w : World) (A : Around) (e : Expr) (scope : Scope) (cl : List (Str × Addr)) (env : Env) (newAcc : Sem Value) (use : Option (Value → Sem Unit)) (Q E : Value → Shared → Prop) (x : Value) (s : Shared) : Prop :=
  wpAny (model prog w) A (pyIter x) (fun it s₂ => MMake prog w A e scope cl env newAcc use Q E it s₂) E s
noncomputable def MAssign (prog : Program) (w : World) (A : Around) (target : Expr) (v it : Value) (cenv : Env) (K : Shared → Prop) (E : Value → Shared → Prop) (s : Shared) : Prop :=
  wpAny (model prog w) A (letOwnedTupleGo target it v) (fun _ s₁ => wpAny (model prog w) A (assign target cenv v) (fun _ s₂ => K s₂) E s₁) E s
theorem mstart_list (hclos : closureFor scope env = pure cl) (hkind : scope.kind = .function) (hnames : ∀ x ∈ scope.names, x.2 = .local → scope.names.lookup x.1 = some .local)
    (h : wpAny (model prog w) A (eval iter env) (MSrc prog w A (.ListComp elt [⟨target, iter, ifs, 0⟩] scope pos) scope cl env (newList []) none Q E) E s)
    (hs : ∀ x, foldedSetIterable iter env x = pure x := by intro _; rfl) :
    wpAny (model prog w) A (eval (.ListComp elt [⟨target, iter, ifs, 0⟩] scope pos) env) Q E s := by
  rw [eval_ListComp]
  exact wpAny_comprehension_free (use := none) rfl hs hclos hkind hnames h
theorem mstart_dict (hclos : closureFor scope env = pure cl) (hkind : scope.kind = .function) (hnames : ∀ x ∈ scope.names, x.2 = .local → scope.names.lookup x.1 = some .local)
    (h : wpAny (model prog w) A (eval iter env) (MSrc prog w A (.DictComp kx vx [⟨target, iter, ifs, 0⟩] scope pos) scope cl env newDict none Q E) E s)
    (hs : ∀ x, foldedSetIterable iter env x = pure x := by intro _; rfl) :
    wpAny (model prog w) A (eval (.DictComp kx vx [⟨target, iter, ifs, 0⟩] scope pos) env) Q E s := by
  rw [arm_eval_DictComp]
  exact wpAny_comprehension_free (use := none) rfl hs hclos hkind hnames h
theorem massign_list {y : Str} {py spos : Pos} {Q : Flow → Shared → Prop} (hsw : swapsWith (.ListComp elt [⟨target, iter, ifs, 0⟩] scope pos) (some (.Name y py)) spos.line env = pure true)
    (hclos : closureFor scope env = pure cl) (hkind : scope.kind = .function) (hnames : ∀ x ∈ scope.names, x.2 = .local → scope.names.lookup x.1 = some .local)
    (h : wpAny (model prog w) A (eval iter env) (MSrc prog w A (.ListComp elt [⟨target, iter, ifs, 0⟩] scope pos) scope cl env (newList []) (some (assign (.Name y py) env)) (fun _ s' => Q .next s') E) E s)
    (hs : ∀ x, foldedSetIterable iter env x = pure x := by intro _; rfl) :
    wpAny (model prog w) A (exec (.Assign [.Name y py] (.ListComp elt [⟨target, iter, ifs, 0⟩] scope pos) spos) env) Q E s := by
  rw [exec_Assign_Name_used _ _ _ _ hsw]
  refine wpAny_bind (wpAny_standAt (wpAny_bind ?_))
  show wpAny _ A (do let _ ← comprehension (.ListComp elt [⟨target, iter, ifs, 0⟩] scope pos) scope env _ (newList []) false (eval iter env) (some (assign (.Name y py) env))) _ _ s
  exact wpAny_bind (wpAny_mono (wpAny_comprehension_free (use := some (assign (.Name y py) env)) (Q := fun _ s' => Q .next s') rfl hs hclos hkind hnames h) (fun _ s' hq => wpAny_pure (wpAny_pure hq)) fun _ _ e => e)
theorem massign_dict {y : Str} {py spos : Pos} {Q : Flow → Shared → Prop} (hsw : swapsWith (.DictComp kx vx [⟨target, iter, ifs, 0⟩] scope pos) (some (.Name y py)) spos.line env = pure true)
    (hclos : closureFor scope env = pure cl) (hkind : scope.kind = .function) (hnames : ∀ x ∈ scope.names, x.2 = .local → scope.names.lookup x.1 = some .local)
    (h : wpAny (model prog w) A (eval iter env) (MSrc prog w A (.DictComp kx vx [⟨target, iter, ifs, 0⟩] scope pos) scope cl env newDict (some (assign (.Name y py) env)) (fun _ s' => Q .next s') E) E s)
    (hs : ∀ x, foldedSetIterable iter env x = pure x := by intro _; rfl) :
    wpAny (model prog w) A (exec (.Assign [.Name y py] (.DictComp kx vx [⟨target, iter, ifs, 0⟩] scope pos) spos) env) Q E s := by
  rw [exec_Assign_Name_used _ _ _ _ hsw]
  refine wpAny_bind (wpAny_standAt (wpAny_bind ?_))
  show wpAny _ A (do let _ ← comprehension (.DictComp kx vx [⟨target, iter, ifs, 0⟩] scope pos) scope env _ newDict false (eval iter env) (some (assign (.Name y py) env))) _ _ s
  exact wpAny_bind (wpAny_mono (wpAny_comprehension_free (use := some (assign (.Name y py) env)) (Q := fun _ s' => Q .next s') rfl hs hclos hkind hnames h) (fun _ s' hq => wpAny_pure (wpAny_pure hq)) fun _ _ e => e)
/- the block's own names and its cell, if it has one -/
theorem mcells {scope : Scope} {Q' : Env → Shared → Prop} (F : Fr h₀ L s.heap m) (N : News h₀ L s.heap news) (hc : ∀ y ∈ scope.names, y.2 ≠ .cell)
    (h : ∀ C h' oC tk, (∀ b o, s.heap.get? b = some o → h'.get? b = some o) → Fr h₀ L h' m → News h₀ L h' ((C, oC) :: news) → (∀ p ∈ news, p.1 < C) → NsObj oC (fun _ => none) → Q' (newEnv scope C env.globals cl env.qual none .none (some env) builtinsNs) { s with heap := h', toks := tk })
    (hk : scope.kind = .function) : wpAny (model prog w) A (newFunctionEnv scope env.globals cl [] env.qual none .none (some env)) Q' E s := by
  refine wpAny_newFunctionEnv hc (by intro y hy; simp at hy) (fun h₁ hns hsb => ?_) hk
  obtain ⟨oC, he, hoC⟩ := ns_obj hns
  have old : ∀ b o, s.heap.get? b = some o → h₁.get? b = some o := fun b o e => hsb.extBut b o (Nat.ne_of_lt (Heap.lt_size e)) (Heap.get?_push_of_some _ e)
  have hC₀ : h₀.get? s.heap.objs.size = none := none_at_size F
  refine h _ _ oC _ old (F.keeps old) (fun q hq => ?_) (fun p hp => Heap.lt_size (N p hp).1) (by simpa using hoC)
  rcases List.mem_cons.mp hq with rfl | hq
  · exact ⟨he, Nat.ne_of_gt F.ns.lt, hC₀⟩
  · exact ⟨old _ _ (N q hq).1, (N q hq).2⟩
theorem mcells1 {scope : Scope} {x : Str} {Q' : Env → Shared → Prop} (F : Fr h₀ L s.heap m) (N : News h₀ L s.heap news) (hc : ∀ n acc, cellsFrom n scope.names acc = (x, n) :: acc) (hp : ∀ h : Heap, pushCells h scope.names = h.push { cls := .type "cell", data := .cell none })
    (h : ∀ C K h' oC oK, (∀ b o, s.heap.get? b = some o → h'.get? b = some o) → Fr h₀ L h' m → News h₀ L h' ((K, oK) :: (C, oC) :: news) → (∀ p ∈ news, p.1 < C) → @LT.lt Nat _ C K → NsObj oC (fun _ => none) → oK.data = .cell none → Q' (newEnv scope C env.globals ((x, K) :: cl) env.qual none .none (some env) builtinsNs) { s with heap := h' }) :
    wpAny (model prog w) A (newFunctionEnv scope env.globals cl [] env.qual none .none (some env)) Q' E s := by
  simp only [newFunctionEnv, Option.isSome_some, if_true]
  refine wpAny_bind (wpAny_alloc ?_)
  refine wpAny_bind (wpAny_layCells _ (fun name kind cells => by cases hkc : kind == NameKind.cell <;> simp [hkc]) _ _ _ _ ?_)
  rw [hp, hc]
  have F₁ : Fr h₀ L (s.heap.push { cls := .type "dict", data := .dict #[] }) m := F.push _
  have N₁ : News h₀ L (s.heap.push { cls := .type "dict", data := .dict #[] }) ((s.heap.objs.size, { cls := .type "dict", data := .dict #[] }) :: news) := pushN F N rfl
  have N₂ := pushN (s := { s with heap := s.heap.push { cls := .type "dict", data := .dict #[] } }) (o := { cls := .type "cell", data := .cell none }) F₁ N₁ rfl
  have lt : @LT.lt Nat _ s.heap.objs.size (s.heap.push { cls := .type "dict", data := .dict #[] }).objs.size := by rw [Heap.size_push]; exact Nat.lt_succ_self _
  obtain ⟨es, ep, hd, r⟩ : NsObj { cls := .type "dict", data := .dict #[] } (fun _ => none) := ⟨#[], 0, rfl, (by intro e he; simp at he), fun _ => rfl⟩
  refine wpAny_bind (wpAny_pure (wpAny_pure (h s.heap.objs.size _ _ _ _ (fun b o e => Heap.get?_push_of_some _ (Heap.get?_push_of_some _ e)) (F₁.push _) N₂ (fun p hp => Heap.lt_size (N p hp).1) lt ⟨es, ep, hd, r⟩ rfl)))
theorem SrcIn.keeps {h h' : Heap} (x : SrcIn src h) (k : ∀ b o, h.get? b = some o → h'.get? b = some o) : SrcIn src h' := fun p hp => k _ _ (x p hp)
theorem mmake_list0 (hh : A.handled = none) (F : Fr h₀ L s.heap m) (N : News h₀ L s.heap news) (S : Steps prog w I src n P 0 oI) (hm : (I, oI) ∈ news) (hs : SrcIn src s.heap) (hc : ∀ y ∈ scope.names, y.2 ≠ .cell) (hk : scope.kind = .function)
    (h : ∀ D C h' oC tk, Fr h₀ L h' m → News h₀ L h' ((C, oC) :: (D, lst []) :: news) → (∀ p ∈ news, p.1 < D) → @LT.lt Nat _ D C → NsObj oC (fun _ => none) → MLoop prog w A (.ListComp elt [⟨target, iter, ifs, 0⟩] scope pos) (.ref I) (.ref D) (compEnvC scope cl C env) (compPost (model prog w) A E use Q (.ref D) C) { s with heap := h', toks := tk }) :
    MMake prog w A (.ListComp elt [⟨target, iter, ifs, 0⟩] scope pos) scope cl env (newList []) use Q E (.ref I) s := by
  unfold MMake
  refine wpAny_newObj_type ?_
  refine mcells (s := { s with heap := s.heap.push { cls := .type "list", dict := none, data := .seq ([] : List Value).toArray } }) (F.push _) (pushN F N rfl) hc (fun C h' oC tk keep F' N' l1 hC => ?_) hk
  have keep' : ∀ b o, s.heap.get? b = some o → h'.get? b = some o := fun b o e => keep b o (Heap.get?_push_of_some _ e)
  have key := h s.heap.objs.size C h' oC tk F' N' (fun p hp => Heap.lt_size (N p hp).1) (l1 _ (.head _)) hC
  exact codeAny_compStart_list key (steps_self S hh (keep' _ _ (N.get hm)) (hs.keeps keep') key)
theorem mmake_list1 {x : Str} (hh : A.handled = none) (F : Fr h₀ L s.heap m) (N : News h₀ L s.heap news) (S : Steps prog w I src n P 0 oI) (hm : (I, oI) ∈ news) (hs : SrcIn src s.heap) (hc : ∀ n acc, cellsFrom n scope.names acc = (x, n) :: acc) (hp : ∀ h : Heap, pushCells h scope.names = h.push { cls := .type "cell", data := .cell none })
    (h : ∀ D C K h' oC oK, Fr h₀ L h' m → News h₀ L h' ((K, oK) :: (C, oC) :: (D, lst []) :: news) → (∀ p ∈ news, p.1 < D) → @LT.lt Nat _ D C → @LT.lt Nat _ C K → NsObj oC (fun _ => none) → oK.data = .cell none → MLoop prog w A (.ListComp elt [⟨target, iter, ifs, 0⟩] scope pos) (.ref I) (.ref D) (compEnvC scope ((x, K) :: cl) C env) (compPost (model prog w) A E use Q (.ref D) C) { s with heap := h' }) :
    MMake prog w A (.ListComp elt [⟨target, iter, ifs, 0⟩] scope pos) scope cl env (newList []) use Q E (.ref I) s := by
  unfold MMake
  refine wpAny_newObj_type ?_
  refine mcells1 (s := { s with heap := s.heap.push { cls := .type "list", dict := none, data := .seq ([] : List Value).toArray } }) (F.push _) (pushN F N rfl) hc hp (fun C K h' oC oK keep F' N' l1 l2 hC hK => ?_)
  have keep' : ∀ b o, s.heap.get? b = some o → h'.get? b = some o := fun b o e => keep b o (Heap.get?_push_of_some _ e)
  have key := h s.heap.objs.size C K h' oC oK F' N' (fun p hp => Heap.lt_size (N p hp).1) (l1 _ (.head _)) l2 hC hK
  exact codeAny_compStart_list key (steps_self S hh (keep' _ _ (N.get hm)) (hs.keeps keep') key)
theorem emptyDict {K : Type} [DecidableEq K] (knd : KeyKind prog w K) : (dictOf [] 0).IsDictOf knd [] := ⟨#[], 0, ⟨rfl, rfl, rfl⟩, rfl, (fun e he => by simp at he), .nil, List.nodup_nil⟩
theorem mmake_dict0 (hh : A.handled = none) (F : Fr h₀ L s.heap m) (N : News h₀ L s.heap news) (hbig : sysModules < h₀.objs.size) (S : Steps prog w I src n P 0 oI) (hm : (I, oI) ∈ news) (hs : SrcIn src s.heap) (hc : ∀ y ∈ scope.names, y.2 ≠ .cell) (hk : scope.kind = .function)
    (h : ∀ D C h' oC tk oD, Fr h₀ L h' m → News h₀ L h' ((C, oC) :: (D, oD) :: news) → oD.IsDictOf (strKind prog w) [] → oD.IsDictOf (intKind prog w) [] → (D == sysModules) = false → (∀ p ∈ news, p.1 < D) → @LT.lt Nat _ D C → NsObj oC (fun _ => none) → MLoop prog w A (.DictComp kx vx [⟨target, iter, ifs, 0⟩] scope pos) (.ref I) (.ref D) (compEnvC scope cl C env) (compPost (model prog w) A E use Q (.ref D) C) { s with heap := h', toks := tk }) :
    MMake prog w A (.DictComp kx vx [⟨target, iter, ifs, 0⟩] scope pos) scope cl env newDict use Q E (.ref I) s := by
  unfold MMake
  refine wpAny_newObj_type ?_
  refine mcells (s := { s with heap := s.heap.push (dictOf [] 0) }) (F.push _) (pushN F N rfl) hc (fun C h' oC tk keep F' N' l1 hC => ?_) hk
  have keep' : ∀ b o, s.heap.get? b = some o → h'.get? b = some o := fun b o e => keep b o (Heap.get?_push_of_some _ e)
  have key := h s.heap.objs.size C h' oC tk (dictOf [] 0) F' N' (emptyDict _) (emptyDict _) (F.notModules hbig) (fun p hp => Heap.lt_size (N p hp).1) (l1 _ (.head _)) hC
  exact codeAny_compStart_dict key (steps_self S hh (keep' _ _ (N.get hm)) (hs.keeps keep') key)
noncomputable abbrev noted (prog : Program) (w : World) (A : Around) (cenv : Env) (R : Result → Shared → Prop) : Value → Shared → Prop := notedBy (model prog w) A cenv fun e s' => R (.error e) s'
theorem mloop_L0 {acc : Value} (hh : A.handled = none) (S : Steps prog w I src n P i oI) (hi : i < n) (F : Fr h₀ L s.heap m) (N : News h₀ L s.heap news) (U : UpdF I oI news g) (hs : SrcIn src s.heap)
    (h : ∀ v h' tk oI', P i v → Steps prog w I src n P (i + 1) oI' → Fr h₀ L h' m → News h₀ L h' (g oI') → MAssign prog w A target v (.ref I) cenv (fun s₂ => wpAny (model prog w) A (eval elt cenv) (fun x s₄ =>
      wpAny (model prog w) A (call (.builtin "list.append") [acc, x]) (fun _ s₅ => MLoop prog w A (.ListComp elt [⟨target, iter, [], 0⟩] scope pos) (.ref I) acc cenv R s₅) (noted prog w A cenv R) s₄) (noted prog w A cenv R) s₂) (noted prog w A cenv R) { s with heap := h', toks := tk }) :
    MLoop prog w A (.ListComp elt [⟨target, iter, [], 0⟩] scope pos) (.ref I) acc cenv R s := by
  refine codeAny_of_tree ?_
  show wpAny _ A ((compTurn (.ListComp elt [⟨target, iter, [], 0⟩] scope pos) 0 (.ref I) acc cenv).onRaise (fun x => do noteFrame x cenv; theTreesLotGoes x)) _ _ s
  refine wpAny_noted ?_
  rw [compTurn_list]
  refine wpAny_bind (wpAny_standAt (wpAny_bind (steps_next S hh hi F N U hs fun v h' tk oI' hP S' F' N' => ?_)))
  refine wpAny_bind (wpAny_mono (h v h' tk oI' hP S' F' N') (fun _ s₁ h₁ => wpAny_bind (wpAny_mono h₁ (fun _ s₂ h₂ => ?_) fun _ _ x => x)) fun _ _ x => x)
  refine wpAny_bind (wpAny_tests_nil ?_)
  exact wpAny_bind (wpAny_bind (wpAny_mono h₂ (fun x s₄ h₄ => wpAny_bind (wpAny_mono h₄ (fun _ s₅ h₅ => wpAny_pure (wpAny_pure ⟨rfl, h₅⟩)) fun _ _ x => x)) fun _ _ x => x))
theorem mloop_L1 {acc : Value} (hh : A.handled = none) (S : Steps prog w I src n P i oI) (hi : i < n) (F : Fr h₀ L s.heap m) (N : News h₀ L s.heap news) (U : UpdF I oI news g) (hs : SrcIn src s.heap)
    (h : ∀ v h' tk oI', P i v → Steps prog w I src n P (i + 1) oI' → Fr h₀ L h' m → News h₀ L h' (g oI') → MAssign prog w A target v (.ref I) cenv (fun s₂ => wpAny (model prog w) A (isTrue c cenv (eval c cenv)) (fun ok s₃ => if ok = true then wpAny (model prog w) A (eval elt cenv) (fun x s₄ =>
      wpAny (model prog w) A (call (.builtin "list.append") [acc, x]) (fun _ s₅ => MLoop prog w A (.ListComp elt [⟨target, iter, [c], 0⟩] scope pos) (.ref I) acc cenv R s₅) (noted prog w A cenv R) s₄) (noted prog w A cenv R) s₃
      else MLoop prog w A (.ListComp elt [⟨target, iter, [c], 0⟩] scope pos) (.ref I) acc cenv R s₃) (noted prog w A cenv R) s₂) (noted prog w A cenv R) { s with heap := h', toks := tk }) :
    MLoop prog w A (.ListComp elt [⟨target, iter, [c], 0⟩] scope pos) (.ref I) acc cenv R s := by
  refine codeAny_of_tree ?_
  show wpAny _ A ((compTurn (.ListComp elt [⟨target, iter, [c], 0⟩] scope pos) 0 (.ref I) acc cenv).onRaise (fun x => do noteFrame x cenv; theTreesLotGoes x)) _ _ s
  refine wpAny_noted ?_
  rw [compTurn_list]
  refine wpAny_bind (wpAny_standAt (wpAny_bind (steps_next S hh hi F N U hs fun v h' tk oI' hP S' F' N' => ?_)))
  refine wpAny_bind (wpAny_mono (h v h' tk oI' hP S' F' N') (fun _ s₁ h₁ => wpAny_bind (wpAny_mono h₁ (fun _ s₂ h₂ => ?_) fun _ _ x => x)) fun _ _ x => x)
  refine wpAny_bind (wpAny_tests_one (wpAny_mono h₂ (fun okb s₃ h₃ => ?_) fun _ _ x => x))
  cases okb with
  | false => exact wpAny_pure ⟨rfl, h₃⟩
  | true => exact wpAny_bind (wpAny_bind (wpAny_mono h₃ (fun x s₄ h₄ => wpAny_bind (wpAny_mono h₄ (fun _ s₅ h₅ => wpAny_pure (wpAny_pure ⟨rfl, h₅⟩)) fun _ _ x => x)) fun _ _ x => x))
theorem mloop_D0 {D : Addr} (hh : A.handled = none) (S : Steps prog w I src n P i oI) (hi : i < n) (F : Fr h₀ L s.heap m) (N : News h₀ L s.heap news) (U : UpdF I oI news g) (hs : SrcIn src s.heap)
    (h : ∀ v h' tk oI', P i v → Steps prog w I src n P (i + 1) oI' → Fr h₀ L h' m → News h₀ L h' (g oI') → MAssign prog w A target v (.ref I) cenv (fun s₂ => wpAny (model prog w) A (eval kx cenv) (fun kv s₃ => wpAny (model prog w) A (eval vx cenv) (fun vv s₄ =>
      wpAny (model prog w) A (dictSet D kv vv) (fun _ s₅ => MLoop prog w A (.DictComp kx vx [⟨target, iter, [], 0⟩] scope pos) (.ref I) (.ref D) cenv R s₅) (noted prog w A cenv R) s₄) (noted prog w A cenv R) s₃) (noted prog w A cenv R) s₂) (noted prog w A cenv R) { s with heap := h', toks := tk }) :
    MLoop prog w A (.DictComp kx vx [⟨target, iter, [], 0⟩] scope pos) (.ref I) (.ref D) cenv R s := by
  refine codeAny_of_tree ?_
  show wpAny _ A ((compTurn (.DictComp kx vx [⟨target, iter, [], 0⟩] scope pos) 0 (.ref I) (.ref D) cenv).onRaise (fun x => do noteFrame x cenv; theTreesLotGoes x)) _ _ s
  refine wpAny_noted ?_
  rw [compTurn_dict]
  refine wpAny_bind (wpAny_standAt (wpAny_bind (steps_next S hh hi F N U hs fun v h' tk oI' hP S' F' N' => ?_)))
  refine wpAny_bind (wpAny_mono (h v h' tk oI' hP S' F' N') (fun _ s₁ h₁ => wpAny_bind (wpAny_mono h₁ (fun _ s₂ h₂ => ?_) fun _ _ x => x)) fun _ _ x => x)
  refine wpAny_bind (wpAny_tests_nil ?_)
  exact wpAny_bind (wpAny_bind (wpAny_mono h₂ (fun kv s₃ h₃ => wpAny_bind (wpAny_holding (wpAny_mono h₃ (fun vv s₄ h₄ => wpAny_bind (wpAny_standAt (wpAny_holding (wpAny_mono h₄ (fun _ s₅ h₅ => wpAny_pure ⟨rfl, h₅⟩) fun _ _ x => x)))) fun _ _ x => x))) fun _ _ x => x))
theorem mloop_D1 {D : Addr} (hh : A.handled = none) (S : Steps prog w I src n P i oI) (hi : i < n) (F : Fr h₀ L s.heap m) (N : News h₀ L s.heap news) (U : UpdF I oI news g) (hs : SrcIn src s.heap)
    (h : ∀ v h' tk oI', P i v → Steps prog w I src n P (i + 1) oI' → Fr h₀ L h' m → News h₀ L h' (g oI') → MAssign prog w A target v (.ref I) cenv (fun s₂ => wpAny (model prog w) A (isTrue c cenv (eval c cenv)) (fun ok s₂' => if ok = true then wpAny (model prog w) A (eval kx cenv) (fun kv s₃ => wpAny (model prog w) A (eval vx cenv) (fun vv s₄ =>
      wpAny (model prog w) A (dictSet D kv vv) (fun _ s₅ => MLoop prog w A (.DictComp kx vx [⟨target, iter, [c], 0⟩] scope pos) (.ref I) (.ref D) cenv R s₅) (noted prog w A cenv R) s₄) (noted prog w A cenv R) s₃) (noted prog w A cenv R) s₂'
      else MLoop prog w A (.DictComp kx vx [⟨target, iter, [c], 0⟩] scope pos) (.ref I) (.ref D) cenv R s₂') (noted prog w A cenv R) s₂) (noted prog w A cenv R) { s with heap := h', toks := tk }) :
    MLoop prog w A (.DictComp kx vx [⟨target, iter, [c], 0⟩] scope pos) (.ref I) (.ref D) cenv R s := by
  refine codeAny_of_tree ?_
  show wpAny _ A ((compTurn (.DictComp kx vx [⟨target, iter, [c], 0⟩] scope pos) 0 (.ref I) (.ref D) cenv).onRaise (fun x => do noteFrame x cenv; theTreesLotGoes x)) _ _ s
  refine wpAny_noted ?_
  rw [compTurn_dict]
  refine wpAny_bind (wpAny_standAt (wpAny_bind (steps_next S hh hi F N U hs fun v h' tk oI' hP S' F' N' => ?_)))
  refine wpAny_bind (wpAny_mono (h v h' tk oI' hP S' F' N') (fun _ s₁ h₁ => wpAny_bind (wpAny_mono h₁ (fun _ s₂ h₂ => ?_) fun _ _ x => x)) fun _ _ x => x)
  refine wpAny_bind (wpAny_tests_one (wpAny_mono h₂ (fun okb s₃ h₃ => ?_) fun _ _ x => x))
  cases okb with
  | false => exact wpAny_pure ⟨rfl, h₃⟩
  | true => exact wpAny_bind (wpAny_bind (wpAny_mono h₃ (fun kv s₃ h₃ => wpAny_bind (wpAny_holding (wpAny_mono h₃ (fun vv s₄ h₄ => wpAny_bind (wpAny_standAt (wpAny_holding (wpAny_mono h₄ (fun _ s₅ h₅ => wpAny_pure ⟨rfl, h₅⟩) fun _ _ x => x)))) fun _ _ x => x))) fun _ _ x => x))
theorem mloop_end_L {acc : Value} (hh : A.handled = none) (S : Steps prog w I src n P n oI) (F : Fr h₀ L s.heap m) (N : News h₀ L s.heap news) (U : Pick I oI news rest) (hne : ∀ p ∈ rest, p.1 ≠ I) (hs : SrcIn src s.heap)
    (h : ∀ h' tk, Fr h₀ L h' m → News h₀ L h' rest → R (.ok .next) { s with heap := h', toks := tk }) : MLoop prog w A (.ListComp elt [⟨target, iter, ifs, 0⟩] scope pos) (.ref I) acc cenv R s := by
  refine codeAny_of_tree ?_
  show wpAny _ A ((compTurn (.ListComp elt [⟨target, iter, ifs, 0⟩] scope pos) 0 (.ref I) acc cenv).onRaise (fun x => do noteFrame x cenv; theTreesLotGoes x)) _ _ s
  refine wpAny_noted ?_
  rw [compTurn_list]
  exact wpAny_bind (wpAny_standAt (wpAny_bind (steps_done S hh F N U hne hs fun h' tk F' N' => wpAny_pure (h h' tk F' N'))))
theorem mloop_end_D {D : Addr} (hh : A.handled = none) (S : Steps prog w I src n P n oI) (F : Fr h₀ L s.heap m) (N : News h₀ L s.heap news) (U : Pick I oI news rest) (hne : ∀ p ∈ rest, p.1 ≠ I) (hs : SrcIn src s.heap)
    (h : ∀ h' tk, Fr h₀ L h' m → News h₀ L h' rest → R (.ok .next) { s with heap := h', toks := tk }) : MLoop prog w A (.DictComp kx vx [⟨target, iter, ifs, 0⟩] scope pos) (.ref I) (.ref D) cenv R s := by
  refine codeAny_of_tree ?_
  show wpAny _ A ((compTurn (.DictComp kx vx [⟨target, iter, ifs, 0⟩] scope pos) 0 (.ref I) (.ref D) cenv).onRaise (fun x => do noteFrame x cenv; theTreesLotGoes x)) _ _ s
  refine wpAny_noted ?_
  rw [compTurn_dict]
  exact wpAny_bind (wpAny_standAt (wpAny_bind (steps_done S hh F N U hne hs fun h' tk F' N' => wpAny_pure (h h' tk F' N'))))
end
end
theorem lines_p13bmany : True := by
  w_top off
  k_extra "S"
  k_extra "ld:pre"
  trivial
section
open PyProof.Rows.LCg
theorem iter_many {prog : Program} {w : World} {A : Around} {E Q : Value → Shared → Prop} {s : Shared} {h₀ : Heap} {L r : Addr} {m : Str → Option Value} {news : List (Addr × Obj)} {q : Int} {n : Nat} {t u v : Tok} (F : Fr h₀ L s.heap m) (N : News h₀ L s.heap news) (hr : IsRange s.heap r 0 q 1 t u v) (hq : q = (n : Int)) (hn : n ≤ 4)
    (h : ∀ I h' oI, Fr h₀ L h' m → News h₀ L h' ((I, oI) :: news) → (∀ p ∈ news, p.1 < I) → Steps prog w I [] n (fun (i : Nat) v => ∃ t, v = .int (i : Int) t) 0 oI → SrcIn [] h' → Q (.ref I) { s with heap := h' }) :
    wpAny (model prog w) A (pyIter (.ref r)) Q E s := by
  subst hq
  have e : (fun (i : Nat) (v : Value) => ∃ t, v = Value.int (0 + (i : Int) * 1) t) = fun (i : Nat) v => ∃ t, v = Value.int (i : Int) t := by
    funext i v; rw [Int.zero_add, Int.mul_one]
  have c : n = 0 ∨ n = 1 ∨ n = 2 ∨ n = 3 ∨ n = 4 := by lia
  rcases c with rfl | rfl | rfl | rfl | rfl <;> exact iter_range F N hr (by decide) rfl fun I h' oI F' N' l S x => h I h' oI F' N' l (e ▸ S) x
end
theorem lines_p14massign : True := by
  w_top off
  k_extra "S"
  k_extra "ld:pre"
  trivial
section
section
open PyProof.Rows.LCg
variable {prog : Program} {w : World} {A : Around} {E : Value → Shared → Prop} {s : Shared} {h₀ : Heap} {L I C D : Addr} {m mC : Str → Option Value} {news rest src : List (Addr × Obj)} {env cenv : Env} {g g₂ : Obj → List (Addr × Obj)} {n i : Nat} {P : Nat → Value → Prop} {oI oC : Obj}
  {scope : Scope} {cl : List (Str × Addr)} {use : Option (Value → Sem Unit)} {Q : Value → Shared → Prop} {R : Result → Shared → Prop} {K : Shared → Prop} {x y : Str} {px py : Pos} {v it : Value}
theorem setC {h' : Heap} {oC' : Obj} (F : Fr h₀ L s.heap m) (N : News h₀ L s.heap news) (U : UpdF C oC news g) (hs : Heap.SameBut C s.heap h') (he : h'.get? C = some oC') : Fr h₀ L h' m ∧ News h₀ L h' (g oC') := by
  obtain ⟨pre, post, rfl, hg, h1, h2⟩ := U.split
  have zC := N (C, oC) (List.mem_append_right _ (.head _))
  refine ⟨F.change hs zC.2.1 zC.2.2, fun p hp => ?_⟩
  rw [hg] at hp
  rcases List.mem_append.mp hp with hp | hp
  · have z := N p (List.mem_append_left _ hp); exact ⟨hs.extBut _ _ (h1 p hp) z.1, z.2⟩
  · rcases List.mem_cons.mp hp with rfl | hp
    · exact ⟨he, zC.2⟩
    · have z := N p (List.mem_append_right _ (.tail _ hp)); exact ⟨hs.extBut _ _ (h2 p hp) z.1, z.2⟩
theorem massign_name (F : Fr h₀ L s.heap m) (N : News h₀ L s.heap news) (U : UpdF C oC news g) (hC : NsObj oC mC) (hx : scope.names.lookup x = some .local) (hk : scope.kind = .function)
    (h : ∀ h' oC', Fr h₀ L h' m → News h₀ L h' (g oC') → NsObj oC' (fun z => if z = x then some v else mC z) → K { s with heap := h', toks := s.toks + 1 }) :
    MAssign prog w A (.Name x px) v it (compEnvC scope cl C env) K E s := by
  have zC := N (C, oC) (by obtain ⟨pre, post, rfl, _⟩ := U.split; exact List.mem_append_right _ (.head _))
  refine wpAny_pure (wpAny_assign_Name (wpAny_storeName_local (lookup_relabel_local hx) (hC.ns zC.1) (fun h' hn hs => ?_) (by simp [compEnvC, relabel, hk])))
  obtain ⟨oC', he, hoC⟩ := ns_obj hn
  obtain ⟨F', N'⟩ := setC F N U hs he
  exact h h' oC' F' N' hoC
theorem massign_cell {Kc : Addr} {oK : Obj} {v0 : Option Value} (F : Fr h₀ L s.heap m) (N : News h₀ L s.heap news) (U : UpdF Kc oK news g) (hK : oK.data = .cell v0) (hc : cl.lookup x = some Kc) (hk : (compEnvC scope cl C env).scope.kind = .function) (hx : (compEnvC scope cl C env).kindOf x = some .cell)
    (h : ∀ h' oK', Fr h₀ L h' m → News h₀ L h' (g oK') → oK'.data = .cell (some v) → K { s with heap := h' }) :
    MAssign prog w A (.Name x px) v it (compEnvC scope cl C env) K E s := by
  have zK := N (Kc, oK) (by obtain ⟨pre, post, rfl, _⟩ := U.split; exact List.mem_append_right _ (.head _))
  refine wpAny_pure (wpAny_assign_Name (wpAny_storeName_cell hk hx hc ⟨oK, zK.1, hK⟩ fun h' hv hs => ?_))
  obtain ⟨oK', he, hd⟩ := hv
  obtain ⟨F', N'⟩ := setC F N U hs he
  exact h h' oK' F' N' hd
theorem owned_not {elts : List Expr} {x1 : Nat} {tp : Pos} {t : Value} {Q : Unit → Shared → Prop} (S : Steps prog w I src n P i oI) (e : s.heap.get? I = some oI) (hs : SrcIn src s.heap) (h : Q () s) : wpAny (model prog w) A (letOwnedTupleGo (.Tuple elts x1 tp) (.ref I) t) Q E s := by
  obtain ⟨k, hc, ho⟩ := steps_cls S e hs
  cases t with
  | ref a =>
    unfold letOwnedTupleGo
    refine wpAny_bind (wpAny_load e ?_)
    rw [hc]
    have hn : (["enumerate", "zip", "dict_itemiterator", "dict_reverseitemiterator", "odict_iterator", "itertools.zip_longest", "itertools.pairwise"].contains k) = false := by
      unfold ownerless at ho
      exact Bool.not_eq_true' _ |>.mp ho
    cases oI.data <;> first
      | exact wpAny_pure h
      | (dsimp only; rw [hn]; exact wpAny_pure h)
  | _ => exact wpAny_pure h
theorem massign_pair {elts : Nat} {tp p1 p2 : Pos} {x1 x2 : Str} {t : Addr} {v1 v2 : Value} (hh : A.handled = none) (S : Steps prog w I src n P i oI) (hmI : (I, oI) ∈ news) (hsr : SrcIn src s.heap) (F : Fr h₀ L s.heap m) (N : News h₀ L s.heap news) (U : UpdF C oC news g) (hC : NsObj oC mC)
    (ht : IsTup s.heap t #[v1, v2]) (hx1 : scope.names.lookup x1 = some .local) (hx2 : scope.names.lookup x2 = some .local) (hk : scope.kind = .function)
    (h : ∀ h' tk oC', Fr h₀ L h' m → News h₀ L h' (g oC') → NsObj oC' (fun z => if z = x2 then some v2 else if z = x1 then some v1 else mC z) → K { s with heap := h', toks := tk }) :
    MAssign prog w A (.Tuple [.Name x1 p1, .Name x2 p2] elts tp) (.ref t) (.ref I) (compEnvC scope cl C env) K E s := by
  have zC := N (C, oC) (by obtain ⟨pre, post, rfl, _⟩ := U.split; exact List.mem_append_right _ (.head _))
  refine owned_not S (N.get hmI) hsr ?_
  refine assign_Tuple_tuple hh ht rfl rfl fun h₁ he => ?_
  have keep : ∀ b o, s.heap.get? b = some o → h₁.get? b = some o := fun b o e => he b o (Nat.ne_of_lt (Heap.lt_size e)) e
  have F₁ : Fr h₀ L h₁ m := F.keeps keep
  have N₁ : News h₀ L h₁ news := fun q hq => ⟨keep _ _ (N q hq).1, (N q hq).2⟩
  refine assignInOrder_cons (wpAny_assign_Name (wpAny_storeName_local (lookup_relabel_local hx1) (hC.ns (keep _ _ zC.1)) (fun h₂ hn₂ hs₂ => ?_) (by simp [compEnvC, relabel, hk])))
  refine assignInOrder_cons (wpAny_assign_Name (wpAny_storeName_local (lookup_relabel_local hx2) hn₂ (fun h₃ hn₃ hs₃ => ?_) (by simp [compEnvC, relabel, hk])))
  refine assignInOrder_nil ?_
  obtain ⟨oC', he', hoC⟩ := ns_obj hn₃
  have hs : Heap.SameBut C h₁ h₃ := hs₂.trans hs₃
  obtain ⟨F', N'⟩ := setC (s := { s with heap := h₁ }) F₁ N₁ U hs he'
  exact h h₃ _ oC' F' N' hoC
theorem isTup_base {Kf : Frag} {h : Heap} {a : Addr} {its : Array Value} {k : Nat} {d : Option Addr} {sl : Array (Option Value)} (F : Fr h₀ L h m) (X : Kf.In h₀) (hl : Kf.lookup a = some ⟨.type "tuple", d, .seq its k, sl⟩) : IsTup h a its := ⟨_, F.keep _ _ (X _ _ hl), rfl, k, rfl⟩
theorem mpost_none {acc : Value} (F : Fr h₀ L s.heap m) (N : News h₀ L s.heap news) (U : Pick C oC news rest) (hne : ∀ p ∈ rest, p.1 ≠ C) (hC : NsObj oC mC) (h : ∀ h', Fr h₀ L h' m → News h₀ L h' rest → Q acc { s with heap := h' }) :
    compPost (model prog w) A E none Q acc C (.ok .next) s := by
  have zC := N (C, oC) (U.mem _ (.head _))
  exact ⟨mC, hC.ns zC.1, fun h' hs => h h' (F.change hs zC.2.1 zC.2.2) fun p hp => by
    have z := N p (U.mem _ (.tail _ hp)); exact ⟨hs.extBut _ _ (hne p hp) z.1, z.2⟩⟩
theorem mpost_some {acc : Value} {env : Env} (F : Fr h₀ env.locals s.heap m) (N : News h₀ env.locals s.heap news) (U : Pick C oC news rest) (hne : ∀ p ∈ rest, p.1 ≠ C) (hC : NsObj oC mC) (hy : env.kindOf y = some .local) (hp : (env.scope.kind == .class || (env.scope.kind == .module && env.locals != env.globals)) = false)
    (h : ∀ h', Fr h₀ env.locals h' (fun z => if z = y then some acc else m z) → News h₀ env.locals h' rest → Q .none { s with heap := h', toks := s.toks + 1 }) :
    compPost (model prog w) A E (some (assign (.Name y py) env)) Q acc C (.ok .next) s := by
  have zC := N (C, oC) (U.mem _ (.head _))
  show wpAny _ A (assign (.Name y py) env acc) _ _ _
  refine wpAny_assign_Name (wpAny_storeName_local hy F.ns (fun h₂ hn₂ hs₂ => ?_) hp)
  have hL₀ : h₀.get? env.locals = none := Heap.get?_none_of_le F.above
  have F₂ : Fr h₀ env.locals h₂ (fun z => if z = y then some acc else m z) := ⟨hn₂, fun b o e => hs₂.extBut b o (fun q => by rw [q, hL₀] at e; cases e) (F.keep b o e), F.above⟩
  have hC₂ : h₂.get? C = some oC := hs₂.extBut _ _ zC.2.1 zC.1
  exact ⟨mC, hC.ns hC₂, fun h'' hs'' => h h'' (F₂.change hs'' zC.2.1 zC.2.2) fun p hp => by
    have z := N p (U.mem _ (.tail _ hp)); exact ⟨hs''.extBut _ _ (hne p hp) (hs₂.extBut _ _ z.2.1 z.1), z.2⟩⟩
theorem dset_K {K : Type} [DecidableEq K] {knd : KeyKind prog w K} {kvs : List (K × Value)} {k : K} {key : Value} {o : Obj} {Q : Unit → Shared → Prop} (F : Fr h₀ L s.heap m) (N : News h₀ L s.heap news) (U : UpdF D o news g) (hd : o.IsDictOf knd kvs) (hkey : knd.is k key = true) (hsz : kvs.length ≤ 1000)
    (h : ∀ h' o', Fr h₀ L h' m → News h₀ L h' (g o') → o'.IsDictOf knd (stored kvs k v) → Q () { s with heap := h', toks := s.toks + 1 }) : wpAny (model prog w) A (dictSet D key v) Q E s := by
  obtain ⟨pre, post, rfl, hg, a, b⟩ := U.split
  have hm := N (D, o) (List.mem_append_right _ (.head _))
  refine wpAny_dictSet_pairs (hsz := by rw [sizeLine_eq]; lia) hkey (Heap.dictOf_iff.mpr ⟨o, hm.1, hd⟩) fun h' hmm hs => ?_
  obtain ⟨o', ho', hd'⟩ := Heap.dictOf_iff.mp hmm
  exact h h' o' (F.change hs hm.2.1 hm.2.2) (hg o' ▸ N.setIn a b hs ho') hd'
end
end
theorem lines_p14bbytes : True := by
  w_top off
  k_extra "S"
  k_extra "ld:pre"
  k_extra "ld:massign"
  trivial
section
section
variable {prog : Program} {w : World} {A : Around} {E : Value → Shared → Prop} {s : Shared} {h₀ : Heap} {L D : Addr} {m : Str → Option Value} {news : List (Addr × Obj)} {vs : List Value} {ns ks ls : List Int} {t u : Tok} {Q : Value → Shared → Prop}
/- ints that are octets -/
noncomputable def Octs : List Int → Prop
  | [] => True
  | n :: r => (0 ≤ n ∧ n < 256) ∧ Octs r
theorem Octs.all : ∀ {ns : List Int}, Octs ns → KBa.In ns
  | [], _ => fun _ h => nomatch h
  | _ :: _, h => fun x hx => by
    rcases List.mem_cons.mp hx with rfl | hx
    · exact h.1
    · exact Octs.all h.2 x hx
theorem Octs.append : ∀ {a b : List Int}, Octs a → Octs b → Octs (a ++ b)
  | [], _, _, h => h
  | _ :: _, _, h, h' => ⟨h.1, Octs.append h.2 h'⟩
theorem Octs.of : ∀ {ns : List Int}, (∀ n ∈ ns, 0 ≤ n ∧ n < 256) → Octs ns
  | [], _ => trivial
  | _ :: _, h => ⟨h _ (.head _), Octs.of fun x hx => h x (.tail _ hx)⟩
theorem octs_of {b : Array UInt8} (h : KBw.bInts b = ks) : Octs ks := Octs.of fun x hx => by subst h; exact KBw.ints_in hx
theorem arr_of {b : Array UInt8} (h : KBw.bInts b = ks) : b = byteArr ks := by
  subst h
  unfold byteArr KBw.bInts
  rw [List.map_map]
  have : ((fun n : Int => n.toNat.toUInt8) ∘ fun c : UInt8 => (c.toNat : Int)) = _root_.id := by
    funext c
    simp
  rw [this, List.map_id, Array.toArray_toList]
theorem bInts_inj {b c : Array UInt8} (hb : KBw.bInts b = ks) (hc : KBw.bInts c = ks) : b = c := (arr_of hb).trans (arr_of hc).symm
/- bytes(a list of ints) -/
theorem mkb (F : Fr h₀ L s.heap m) (N : News h₀ L s.heap news) (hh : A.handled = none) (hl : s.heap.IsList D vs.toArray) (hi : IntsAre vs ns) (hr : Octs ns) (hn : ns.length ≤ 1000)
    (h : ∀ b h' t' k, Fr h₀ L h' m → News h₀ L h' news → KBw.bInts b = ns → Q (.bytes b t') { s with heap := h', toks := k }) : wpAny (model prog w) A (call (.type "bytes") [.ref D]) Q E s :=
  KBa.make_K F N hh hl hi hr.all (by lia) fun h' t' k F' N' r => h _ h' t' k F' N' (KBa.ints_make r)
end
end
theorem lines_p14cbe : True := by
  w_top off
  k_extra "S"
  k_extra "ld:pre"
  k_extra "ld:massign"
  k_extra "ld:bytes"
  trivial
section
noncomputable def be2 (n : Int) : List Int := [n / 256 % 256, n % 256]
noncomputable def be4 (n : Int) : List Int := [n / 16777216 % 256, n / 65536 % 256, n / 256 % 256, n % 256]
noncomputable def be6 (n : Int) : List Int := [n / 1099511627776 % 256, n / 4294967296 % 256, n / 16777216 % 256, n / 65536 % 256, n / 256 % 256, n % 256]
theorem fdv {a b : Int} (h : 0 ≤ b) : a.fdiv b = a / b := Int.fdiv_eq_ediv_of_nonneg a h
theorem fmv {a b : Int} (h : 0 ≤ b) : a.fmod b = a % b := Int.fmod_eq_emod_of_nonneg a h
/- the result is such a value, and nothing else is changed -/
noncomputable def RetV (P : Value → Prop) (part : List (Addr × Obj)) (v : Value) (news' : List (Addr × Obj)) : Prop := P v ∧ news' = part
noncomputable def IsB (ks : List Int) (v : Value) : Prop := ∃ b t, v = .bytes b t ∧ KBw.bInts b = ks
noncomputable def IsI (x : Int) (v : Value) : Prop := ∃ t, v = .int x t
theorem bA_lo (x : Int) : 0 ≤ Builtin.bitAnd x 255 := by rw [bitAnd_m8]; lia
theorem bA_hi (x : Int) : Builtin.bitAnd x 255 < 256 := by rw [bitAnd_m8]; lia
/- a call that only reads: the ledger stays -/
theorem Tell.val {w : World} {f : Addr} {vs : List Value} {d u : Nat} {part full : List (Addr × Obj)} {P : Value → Prop} (C : Tell w f vs d u part (RetV P part)) (hp : ∀ p ∈ part, p ∈ full)
    {mean : ExcName → Option Value} {mg mb : Str → Option Value} {dp un : Nat} {gd : Option (List Code)} {cn : Str} {cs : Scope} {a : Addr} {ccd : Value} {cl : List (Str × Addr)} {outer : List Env} {A₀ : Around} {base h₀ : Heap} {L : Addr} {m : Str → Option Value} {s : Shared} {Q E : Value → Shared → Prop}
    (B : Below A₀ base outer h₀) (F : Fr h₀ L s.heap m) (X : (Mine.hd.heap_39 w.params).In h₀) (N : News h₀ L s.heap full) (T : Top topProg loose mean mg mb h₀) (hk : cs.kind = .function) (hd : dp + d < recursionLimit) (hu : un + u < cLine)
    (h : ∀ (v : Value) (h' : Heap) (tk' : Nat), P v → Fr h₀ L h' m → News h₀ L h' full → Q v { s with heap := h', toks := tk' }) :
    wpAny (model PySem.Challenge.pw_pc0377_01 w) (ktrTop dp un gd cn cs L a ccd cl outer) (call (.ref f) vs) Q E s := by
  refine C.use B F X (News.sub N hp) T hk hd hu fun v h' tk' news' hR H F' N' => ?_
  obtain ⟨pv, rfl⟩ := hR
  exact h v h' tk' pv F' (after_read (new := []) N hp H N')
theorem Tell.valB {w : World} {f : Addr} {vs : List Value} {d u : Nat} {part full : List (Addr × Obj)} {ks : List Int} (C : Tell w f vs d u part (RetV (IsB ks) part)) (hp : ∀ p ∈ part, p ∈ full)
    {mean : ExcName → Option Value} {mg mb : Str → Option Value} {dp un : Nat} {gd : Option (List Code)} {cn : Str} {cs : Scope} {a : Addr} {ccd : Value} {cl : List (Str × Addr)} {outer : List Env} {A₀ : Around} {base h₀ : Heap} {L : Addr} {m : Str → Option Value} {s : Shared} {Q E : Value → Shared → Prop}
    (B : Below A₀ base outer h₀) (F : Fr h₀ L s.heap m) (X : (Mine.hd.heap_39 w.params).In h₀) (N : News h₀ L s.heap full) (T : Top topProg loose mean mg mb h₀) (hk : cs.kind = .function) (hd : dp + d < recursionLimit) (hu : un + u < cLine)
    (h : ∀ (b : Array UInt8) (t : Tok) (h' : Heap) (tk' : Nat), KBw.bInts b = ks → Fr h₀ L h' m → News h₀ L h' full → Q (.bytes b t) { s with heap := h', toks := tk' }) :
    wpAny (model PySem.Challenge.pw_pc0377_01 w) (ktrTop dp un gd cn cs L a ccd cl outer) (call (.ref f) vs) Q E s :=
  C.val hp B F X N T hk hd hu fun v h' tk' pv F' N' => by
    obtain ⟨b, t, rfl, hb⟩ := pv
    exact h b t h' tk' hb F' N'
theorem Tell.valI {w : World} {f : Addr} {vs : List Value} {d u : Nat} {part full : List (Addr × Obj)} {x : Int} (C : Tell w f vs d u part (RetV (IsI x) part)) (hp : ∀ p ∈ part, p ∈ full)
    {mean : ExcName → Option Value} {mg mb : Str → Option Value} {dp un : Nat} {gd : Option (List Code)} {cn : Str} {cs : Scope} {a : Addr} {ccd : Value} {cl : List (Str × Addr)} {outer : List Env} {A₀ : Around} {base h₀ : Heap} {L : Addr} {m : Str → Option Value} {s : Shared} {Q E : Value → Shared → Prop}
    (B : Below A₀ base outer h₀) (F : Fr h₀ L s.heap m) (X : (Mine.hd.heap_39 w.params).In h₀) (N : News h₀ L s.heap full) (T : Top topProg loose mean mg mb h₀) (hk : cs.kind = .function) (hd : dp + d < recursionLimit) (hu : un + u < cLine)
    (h : ∀ (t : Tok) (h' : Heap) (tk' : Nat), Fr h₀ L h' m → News h₀ L h' full → Q (.int x t) { s with heap := h', toks := tk' }) :
    wpAny (model PySem.Challenge.pw_pc0377_01 w) (ktrTop dp un gd cn cs L a ccd cl outer) (call (.ref f) vs) Q E s :=
  C.val hp B F X N T hk hd hu fun v h' tk' pv F' N' => by
    obtain ⟨t, rfl⟩ := pv
    exact h t h' tk' F' N'
theorem lshK {prog : Program} {w : World} {A : Around} {E Q : Value → Shared → Prop} {s : Shared} {a n r : Int} {t u : Tok} (hn : 0 ≤ n) (hn2 : n ≤ 1000000) (ha : a.natAbs < 2 ^ 64) (hr : a * 2 ^ n.toNat = r) (h : Q (.int r s.toks) { s with toks := s.toks + 1 }) : wpAny (model prog w) A (binaryOp .LShift (.int a t) (.int n u)) Q E s :=
  lshift_int_small hn hn2 ha (by rw [hr]; exact h)
theorem addb {prog : Program} {w : World} {A : Around} {E Q : Value → Shared → Prop} {s : Shared} {b c : Array UInt8} {ks ls : List Int} {t u : Tok} (hb : KBw.bInts b = ks) (hc : KBw.bInts c = ls) (hz : ks.length + ls.length ≤ 16777216)
    (h : ∀ d t' k, KBw.bInts d = ks ++ ls → Q (.bytes d t') { s with toks := k }) : wpAny (model prog w) A (binaryOp .Add (.bytes b t) (.bytes c u)) Q E s :=
  KBa.add_K hb hc hz fun t' k e => h _ t' k e
theorem fd_lo {a b : Int} (ha : 0 ≤ a) (hb : 0 ≤ b) : 0 ≤ a.fdiv b := by rw [fdv hb]; exact Int.ediv_nonneg ha hb
theorem fd_256 {a : Int} (ha : a < 65536) : a.fdiv 256 < 256 := by rw [fdv (by decide)]; lia
end
theorem lines_p14dbits : True := by
  w_top off
  k_extra "S"
  k_extra "ld:pre"
  k_extra "ld:massign"
  k_extra "ld:bytes"
  k_extra "ld:be"
  trivial
section
theorem bitOr_nn {a b : Int} (ha : 0 ≤ a) (hb : 0 ≤ b) : Builtin.bitOr a b = ((a.toNat ||| b.toNat : Nat) : Int) := by
  unfold Builtin.bitOr Builtin.bitAnd Builtin.bitNot
  have h1 : decide (0 ≤ -a - 1) = false := by simp; lia
  have h2 : decide (0 ≤ -b - 1) = false := by simp; lia
  rw [h1, h2]
  dsimp only
  have e1 : (-(-a - 1) - 1) = a := by lia
  have e2 : (-(-b - 1) - 1) = b := by lia
  rw [e1, e2]
  lia
theorem bitOr_8 {a x : Int} (ha : 0 ≤ a) (h0 : 0 ≤ x) (h1 : x < 256) : Builtin.bitOr (a * 256) x = a * 256 + x := by
  obtain ⟨a, rfl⟩ := Int.eq_ofNat_of_zero_le ha
  obtain ⟨x, rfl⟩ := Int.eq_ofNat_of_zero_le h0
  rw [bitOr_nn (Int.mul_nonneg ha (by decide)) h0]
  show ((a * 256 ||| x : Nat) : Int) = ((a * 256 + x : Nat) : Int)
  rw [show a * 256 = a <<< 8 from (Nat.shiftLeft_eq a 8).symm, ← Nat.shiftLeft_add_eq_or_of_lt (show x < 2 ^ 8 from Int.ofNat_lt.mp h1)]
section
variable {prog : Program} {w : World} {A : Around} {E Q : Value → Shared → Prop} {s : Shared} {a x : Int} {t u : Tok}
theorem shl8 (h0 : 0 ≤ a) (h1 : a < 72057594037927936) (h : Q (.int (a * 256) s.toks) { s with toks := s.toks + 1 }) : wpAny (model prog w) A (binaryOp .LShift (.int a t) (.int 8 u)) Q E s :=
  lshift_int_small (by decide) (by decide) (by lia) (by exact h)
theorem or8 (h0 : 0 ≤ a) (hx : 0 ≤ x ∧ x < 256) (h : Q (.int (a * 256 + x) s.toks) { s with toks := s.toks + 1 }) : wpAny (model prog w) A (binaryOp .BitOr (.int (a * 256) t) (.int x u)) Q E s :=
  or_int (by rw [bitOr_8 h0 hx.1 hx.2]; exact h)
end
theorem lt8 {a x B C : Int} (h : a < B) (hx : x < 256) (e : B * 256 = C) : a * 256 + x < C :=
  e ▸ Int.lt_of_lt_of_le (Int.add_lt_add_left hx (a * 256)) ((Int.add_mul a 1 256 : (a + 1) * 256 = a * 256 + 256) ▸ Int.mul_le_mul_of_nonneg_right h (by decide))
theorem lt56 {a x : Int} (h : a < 281474976710656) (hx : x < 256) : a * 256 + x < 72057594037927936 := lt8 h hx rfl
theorem lt48 {a x : Int} (h : a < 1099511627776) (hx : x < 256) : a * 256 + x < 281474976710656 := lt8 h hx rfl
theorem lt40 {a x : Int} (h : a < 4294967296) (hx : x < 256) : a * 256 + x < 1099511627776 := lt8 h hx rfl
theorem lt32 {a x : Int} (h : a < 16777216) (hx : x < 256) : a * 256 + x < 4294967296 := lt8 h hx rfl
theorem lt24 {a x : Int} (h : a < 65536) (hx : x < 256) : a * 256 + x < 16777216 := lt8 h hx rfl
theorem lt16 {a x : Int} (h : a < 256) (hx : x < 256) : a * 256 + x < 65536 := lt8 h hx rfl
noncomputable def ob2 (a b : Int) : Int := a * 256 + b
noncomputable def ob4 (a b c d : Int) : Int := ((a * 256 + b) * 256 + c) * 256 + d
noncomputable def ob6 (a b c d e f : Int) : Int := ((((a * 256 + b) * 256 + c) * 256 + d) * 256 + e) * 256 + f
theorem st8 (n : Int) : n / 256 * 256 + n % 256 = n := by rw [Int.mul_comm]; exact Int.mul_ediv_add_emod n 256
theorem dd8 {n k q : Int} (h : 0 ≤ k) (e : k * 256 = q) : n / q = n / k / 256 := by rw [← e, Int.ediv_ediv_of_nonneg h]
theorem ob2_be {n : Int} (h0 : 0 ≤ n) (h1 : n < 65536) : ob2 (n / 256 % 256) (n % 256) = n := by
  unfold ob2
  rw [Int.emod_eq_of_lt (Int.ediv_nonneg h0 (by decide)) (Int.ediv_lt_of_lt_mul (by decide) h1), st8]
theorem ob4_be {n : Int} (h0 : 0 ≤ n) (h1 : n < 4294967296) : ob4 (n / 16777216 % 256) (n / 65536 % 256) (n / 256 % 256) (n % 256) = n := by
  unfold ob4
  rw [Int.emod_eq_of_lt (Int.ediv_nonneg h0 (by decide)) (Int.ediv_lt_of_lt_mul (by decide) h1), dd8 (n := n) (k := 65536) (q := 16777216) (by decide) rfl, st8, dd8 (n := n) (k := 256) (q := 65536) (by decide) rfl, st8, st8]
theorem ob6_be {n : Int} (h0 : 0 ≤ n) (h1 : n < 281474976710656) : ob6 (n / 1099511627776 % 256) (n / 4294967296 % 256) (n / 16777216 % 256) (n / 65536 % 256) (n / 256 % 256) (n % 256) = n := by
  unfold ob6
  rw [Int.emod_eq_of_lt (Int.ediv_nonneg h0 (by decide)) (Int.ediv_lt_of_lt_mul (by decide) h1), dd8 (n := n) (k := 4294967296) (q := 1099511627776) (by decide) rfl, st8, dd8 (n := n) (k := 16777216) (q := 4294967296) (by decide) rfl, st8, dd8 (n := n) (k := 65536) (q := 16777216) (by decide) rfl, st8, dd8 (n := n) (k := 256) (q := 65536) (by decide) rfl, st8, st8]
end
theorem lines_p14enew : True := by
  w_top off
  k_extra "S"
  k_extra "ld:pre"
  k_extra "ld:massign"
  k_extra "ld:bytes"
  k_extra "ld:be"
  trivial
section
/- an entry was handed in, or its address is new -/
noncomputable def Fresh (h : Heap) (news news' : List (Addr × Obj)) : Prop := ∀ p ∈ news', p.1 ∈ news.map (·.1) ∨ h.get? p.1 = none
section
variable {h₀ h : Heap} {L a : Addr} {o : Obj} {p q : Addr × Obj} {t : List (Addr × Obj)} {P : Prop}
/- an object of the ledger goes by a name from here on -/
theorem letN0 (N : News h₀ L h ((a, o) :: t)) (k : let o1 := o; News h₀ L h ((a, o1) :: t) → P) : P := k N
theorem letN1 (N : News h₀ L h (p :: (a, o) :: t)) (k : let o1 := o; News h₀ L h (p :: (a, o1) :: t) → P) : P := k N
theorem letN3 {r : Addr × Obj} (N : News h₀ L h (p :: q :: r :: (a, o) :: t)) (k : let o1 := o; News h₀ L h (p :: q :: r :: (a, o1) :: t) → P) : P := k N
theorem letN4 {r u : Addr × Obj} (N : News h₀ L h (p :: q :: r :: u :: (a, o) :: t)) (k : let o1 := o; News h₀ L h (p :: q :: r :: u :: (a, o1) :: t) → P) : P := k N
theorem letN2 (N : News h₀ L h (p :: q :: (a, o) :: t)) (k : let o1 := o; News h₀ L h (p :: q :: (a, o1) :: t) → P) : P := k N
end
/- a call that makes new objects -/
noncomputable def TellN (w : World) (f : Value) (vs : List Value) (d u : Nat) (news : List (Addr × Obj)) (Ret : Value → List (Addr × Obj) → Prop) : Prop :=
  ∀ (mean : ExcName → Option Value) (mg mb : Str → Option Value) (dp un : Nat) (gd : Option (List Code)) (cn : Str) (cs : Scope) (a : Addr) (ccd : Value) (cl : List (Str × Addr)) (outer : List Env) (A₀ : Around) (base h₀ : Heap) (L : Addr) (m : Str → Option Value) (s : Shared) (Q E : Value → Shared → Prop),
    Below A₀ base outer h₀ → Fr h₀ L s.heap m → (Mine.hd.heap_39 w.params).In h₀ → News h₀ L s.heap news → Top topProg loose mean mg mb h₀ → cs.kind = .function → dp + d < recursionLimit → un + u < cLine →
    (∀ (v : Value) (h' : Heap) (tk' : Nat) (news' : List (Addr × Obj)), Ret v news' → Fresh s.heap news news' → Hid s.heap news h' → Fr h₀ L h' m → News h₀ L h' news' → Q v { s with heap := h', toks := tk' }) →
    wpAny (model PySem.Challenge.pw_pc0377_01 w) (ktrTop dp un gd cn cs L a ccd cl outer) (call f vs) Q E s
theorem finN {Ret : Value → List (Addr × Obj) → Prop} {h₀ h' g : Heap} {L L' : Addr} {m m' : Str → Option Value} {s : Shared} {Q : Value → Shared → Prop} {v : Value} {tk' : Nat} {news big small : List (Addr × Obj)}
    (hret : ∀ (v : Value) (h' : Heap) (tk' : Nat) (news' : List (Addr × Obj)), Ret v news' → Fresh s.heap news news' → Hid s.heap news h' → Fr h₀ L h' m → News h₀ L h' news' → Q v { s with heap := h', toks := tk' })
    (H : Hid s.heap news g) (F' : Fr g L' h' m') (F : Fr h₀ L h' m) (N : News h₀ L h' big) (NG : News g L' h' big) (S : Sub small big) (R : Ret v small) : Q v { s with heap := h', toks := tk' } :=
  hret _ _ _ _ R (fun p hp => by
    by_cases hm : p.1 ∈ news.map (·.1)
    · exact .inl hm
    · refine .inr ?_
      cases e : s.heap.get? p.1 with
      | none => rfl
      | some o => exact absurd ((H _ _ e hm).symm.trans (NG p (S.mem p hp)).2.2) (by nofun)) (fun b o e hb => F'.keep b o (H b o e hb)) F (News.sub N S.mem)
theorem Fresh.off {h₀ h : Heap} {L : Addr} {part full news' : List (Addr × Obj)} (f : Fresh h part news') (N : News h₀ L h full) {p : Addr × Obj} (hp : p ∈ news') : p.1 ∈ part.map (·.1) ∨ ∀ q ∈ full, q.1 ≠ p.1 := by
  rcases f p hp with z | z
  · exact .inl z
  · refine .inr fun q hq e => ?_
    have := (N q hq).1
    rw [e, z] at this; cases this
theorem Aps.new {h₀ h : Heap} {L : Addr} {part full news' : List (Addr × Obj)} {p : Addr × Obj} (f : Fresh h part news') (N : News h₀ L h full) (hp : p ∈ news') (hn : ∀ q ∈ part, q.1 ≠ p.1) : Aps p.1 (full.map (·.1)) := by
  rcases f.off N hp with z | z
  · obtain ⟨q, hq, e⟩ := List.mem_map.mp z
    exact absurd e (hn q hq)
  · exact .of z
theorem TellN.read {w : World} {f : Value} {vs : List Value} {d u : Nat} {part full : List (Addr × Obj)} {P : Value → List (Addr × Obj) → Prop} (C : TellN w f vs d u part (fun v news' => ∃ new, P v new ∧ news' = new ++ part)) (hp : ∀ p ∈ part, p ∈ full)
    {mean : ExcName → Option Value} {mg mb : Str → Option Value} {dp un : Nat} {gd : Option (List Code)} {cn : Str} {cs : Scope} {a : Addr} {ccd : Value} {cl : List (Str × Addr)} {outer : List Env} {A₀ : Around} {base h₀ : Heap} {L : Addr} {m : Str → Option Value} {s : Shared} {Q E : Value → Shared → Prop}
    (B : Below A₀ base outer h₀) (F : Fr h₀ L s.heap m) (X : (Mine.hd.heap_39 w.params).In h₀) (N : News h₀ L s.heap full) (T : Top topProg loose mean mg mb h₀) (hk : cs.kind = .function) (hd : dp + d < recursionLimit) (hu : un + u < cLine)
    (h : ∀ (v : Value) (h' : Heap) (tk' : Nat) (new : List (Addr × Obj)), P v new → (∀ p ∈ new, (∀ q ∈ part, q.1 ≠ p.1) → Aps p.1 (full.map (·.1))) → Fr h₀ L h' m → News h₀ L h' (new ++ full) → Q v { s with heap := h', toks := tk' }) :
    wpAny (model PySem.Challenge.pw_pc0377_01 w) (ktrTop dp un gd cn cs L a ccd cl outer) (call f vs) Q E s := by
  refine C _ _ _ _ _ _ _ _ _ _ _ _ _ _ _ _ _ _ _ _ B F X (News.sub N hp) T hk hd hu fun v h' tk' news' hR hf H F' N' => ?_
  obtain ⟨new, hP, rfl⟩ := hR
  exact h v h' tk' new hP (fun p hm hn => Aps.new hf N (List.mem_append_left _ hm) hn) F' (after_read N hp H N')
theorem TellN.draw {w : World} {f : Value} {vs : List Value} {d u : Nat} {src l : Addr} {o1 o2 : Obj} {full r1 rest : List (Addr × Obj)} {P : Value → List (Addr × Obj) → Prop} (P1 : Pick src o1 full r1) (P2 : Pick l o2 r1 rest) (hr1 : ∀ p ∈ rest, p.1 ≠ src) (hr2 : ∀ p ∈ rest, p.1 ≠ l) (C : TellN w f vs d u [(src, o1), (l, o2)] (fun v news' => ∃ new o1' o2', P v new ∧ SrcObj l o1' o2' ∧ news' = (src, o1') :: (l, o2') :: new))
    {mean : ExcName → Option Value} {mg mb : Str → Option Value} {dp un : Nat} {gd : Option (List Code)} {cn : Str} {cs : Scope} {a : Addr} {ccd : Value} {cl : List (Str × Addr)} {outer : List Env} {A₀ : Around} {base h₀ : Heap} {L : Addr} {m : Str → Option Value} {s : Shared} {Q E : Value → Shared → Prop}
    (B : Below A₀ base outer h₀) (F : Fr h₀ L s.heap m) (X : (Mine.hd.heap_39 w.params).In h₀) (N : News h₀ L s.heap full) (T : Top topProg loose mean mg mb h₀) (hk : cs.kind = .function) (hd : dp + d < recursionLimit) (hu : un + u < cLine)
    (h : ∀ (v : Value) (h' : Heap) (tk' : Nat) (new : List (Addr × Obj)) (o1' o2' : Obj), P v new → SrcObj l o1' o2' → (∀ p ∈ new, p.1 ≠ src → p.1 ≠ l → Aps p.1 (full.map (·.1))) → Fr h₀ L h' m → News h₀ L h' ((src, o1') :: (l, o2') :: (new ++ rest)) → Q v { s with heap := h', toks := tk' }) :
    wpAny (model PySem.Challenge.pw_pc0377_01 w) (ktrTop dp un gd cn cs L a ccd cl outer) (call f vs) Q E s := by
  refine C _ _ _ _ _ _ _ _ _ _ _ _ _ _ _ _ _ _ _ _ B F X (pick2 P1 P2 N) T hk hd hu fun v h' tk' news' hR hf H F' N' => ?_
  obtain ⟨new, o1', o2', hP, hS, rfl⟩ := hR
  refine h v h' tk' new o1' o2' hP hS (fun p hm n1 n2 => Aps.new hf N (.tail _ (.tail _ hm)) fun q hq => ?_) F' (after_ (part' := (src, o1') :: (l, o2') :: new) (rest := rest) N H N' fun p hp => ⟨P1.mem p (.tail _ (P2.mem p (.tail _ hp))), fun hm => ?_⟩)
  · rcases List.mem_cons.mp hq with rfl | hq
    · exact Ne.symm n1
    · rw [List.mem_singleton.mp hq]; exact Ne.symm n2
  · rcases List.mem_cons.mp hm with e | hm
    · exact hr1 p hp e
    · rcases List.mem_cons.mp hm with e | hm
      · exact hr2 p hp e
      · cases hm
theorem Aps.join {q : Addr} {l1 pa : List Addr} {part full : List (Addr × Obj)} (h : Aps q (l1 ++ pa)) (e : part.map (·.1) = pa) (hA : (∀ p ∈ part, p.1 ≠ q) → Aps q (full.map (·.1))) : Aps q (l1 ++ full.map (·.1)) :=
  ⟨fun a hm => by
    rcases List.mem_append.mp hm with hm | hm
    · exact h.all a (List.mem_append_left _ hm)
    · exact (hA fun p hp => h.all _ (List.mem_append_right _ (e ▸ List.mem_map_of_mem hp))).all a hm⟩
theorem Aps.join2 {q src l : Addr} {l1 : List Addr} {full : List (Addr × Obj)} (h : Aps q (l1 ++ [src, l])) (hA : q ≠ src → q ≠ l → Aps q (full.map (·.1))) : Aps q (l1 ++ full.map (·.1)) :=
  ⟨fun a hm => by
    rcases List.mem_append.mp hm with hm | hm
    · exact h.all a (List.mem_append_left _ hm)
    · exact (hA (Ne.symm (h.all _ (List.mem_append_right _ (.head _)))) (Ne.symm (h.all _ (List.mem_append_right _ (.tail _ (.head _)))))).all a hm⟩
theorem finM {Ret : Value → List (Addr × Obj) → Prop} {h₀ h' g : Heap} {L L' : Addr} {m m' : Str → Option Value} {s : Shared} {Q : Value → Shared → Prop} {v : Value} {tk' : Nat} {news big small : List (Addr × Obj)}
    (hret : ∀ (v : Value) (h' : Heap) (tk' : Nat) (news' : List (Addr × Obj)), Ret v news' → Fresh s.heap news news' → Hid s.heap news h' → Fr h₀ L h' m → News h₀ L h' news' → Q v { s with heap := h', toks := tk' })
    (H : Hid s.heap news g) (F' : Fr g L' h' m') (F : Fr h₀ L h' m) (N : News h₀ L h' big) (NG : News g L' h' big) (S : ∀ p ∈ small, p ∈ big) (R : Ret v small) : Q v { s with heap := h', toks := tk' } :=
  hret _ _ _ _ R (fun p hp => by
    by_cases hm : p.1 ∈ news.map (·.1)
    · exact .inl hm
    · refine .inr ?_
      cases e : s.heap.get? p.1 with
      | none => rfl
      | some o => exact absurd ((H _ _ e hm).symm.trans (NG p (S p hp)).2.2) (by nofun)) (fun b o e hb => F'.keep b o (H b o e hb)) F (News.sub N S)
noncomputable abbrev objOf {prog : Program} {w : World} {K : Type} [DecidableEq K] {knd : KeyKind prog w K} {o : Obj} {kvs : List (K × Value)} (_ : o.IsDictOf knd kvs) : Obj := o
end
theorem lines_p14fitem : True := by
  w_top off
  k_extra "S"
  k_extra "ld:pre"
  k_extra "ld:massign"
  k_extra "ld:bytes"
  k_extra "ld:be"
  trivial
section
section
variable {prog : Program} {w : World} {A : Around} {E : Value → Shared → Prop} {s : Shared} {value slice : PySem.Expr} {b : Array UInt8} {t u : Tok} {Q : Value → Shared → Prop} {ks : List Int} {i x : Int}
/- an item of bytes whose ints are written -/
theorem item_B (hk : KBw.bInts b = ks) (h0 : 0 ≤ i) (hx : ks[i.toNat]? = some x) (hz : ks.length ≤ 1000)
    (h : ∀ t' k, 0 ≤ x → x < 256 → Q (.int x t') { s with toks := k })
    (hs : subscripted slice false (.bytes b t) (.int i u) = operate [.bytes b t, .int i u] (getItem (.bytes b t) (.int i u)) := by with_unfolding_all rfl)
    (ht : ∀ r, letTemporaryGo value (.bytes b t) r = pure () := by intro _; with_unfolding_all rfl) : wpAny (model prog w) A (subscriptTail value slice (.bytes b t) (.int i u)) Q E s := by
  obtain ⟨hlt, he⟩ := List.getElem?_eq_some_iff.mp hx
  have e : ks.getD i.toNat 0 = x := by rw [List.getD_eq_getElem?_getD, hx]; rfl
  exact KBw.item_K hk (by lia) h0 (by lia) (fun t' k a c => by rw [e] at a c ⊢; exact h t' k a c) hs ht
end
end
theorem lines_p14hmints : True := by
  w_top off
  k_extra "S"
  k_extra "ld:pre"
  k_extra "ld:massign"
  trivial
section
theorem ints_at9 {us : List Value} {ks : List Int} (h : IntsAre us ks) (i : Nat) (v : Value) (hv : us.toArray[i]? = some v) : ∃ t, v = .int (ks.getD i 0) t :=
  IntsAre.int_at h i v (by rw [← hv]; simp)
section
open PyProof.Rows.LCg
variable {prog : Program} {w : World} {A : Around} {E : Value → Shared → Prop} {s : Shared} {h₀ : Heap} {L I C D : Addr} {m : Str → Option Value} {rest src : List (Addr × Obj)} {env : Env} {n : Nat} {P : Nat → Value → Prop} {oI oC : Obj}
  {elt kx vx iter c : Expr} {scope : Scope} {cl : List (Str × Addr)} {pos px : Pos} {x : Str} {R : Result → Shared → Prop}
/- an element's end: this int, all else as it stood -/
inductive EndI (h₀ : Heap) (L : Addr) (m : Str → Option Value) (led : List (Addr × Obj)) (s₀ : Shared) (n : Int) (v : Value) (s' : Shared) : Prop
  | mk : ∀ t h' tk, (v = .int n t) → (s' = { s₀ with heap := h', toks := tk }) → (Fr h₀ L h' m) → (News h₀ L h' led) → EndI h₀ L m led s₀ n v s'
theorem endI_ {led : List (Addr × Obj)} {h' : Heap} {tk : Nat} {n k : Int} {t : Tok} (e : k = n) (F : Fr h₀ L h' m) (N : News h₀ L h' led) : EndI h₀ L m led s n (.int k t) { s with heap := h', toks := tk } := ⟨t, h', tk, by rw [e], rfl, F, N⟩
/- a comprehension of ints over ints, of any length: the element is walked once -/
theorem mints_L (hh : A.handled = none) (S : Steps prog w I src n P 0 oI) (hn : n ≤ 1000) (F : Fr h₀ L s.heap m) (N : News h₀ L s.heap ((C, oC) :: (D, lst []) :: (I, oI) :: rest)) (hC : NsObj oC (fun _ => none)) (hx : scope.names.lookup x = some .local) (hk : scope.kind = .function)
    (hsr : ∀ h, Fr h₀ L h m → News h₀ L h rest → SrcIn src h) (a1 : D ≠ C) (a2 : I ≠ C) (a3 : I ≠ D) (a4 : ∀ p ∈ rest, p.1 ≠ C) (a5 : ∀ p ∈ rest, p.1 ≠ D) (a6 : ∀ p ∈ rest, p.1 ≠ I)
    (f : Int → Int) (ks : List Int) (hlen : ks.length = n) (hP : ∀ i v, i < n → P i v → ∃ t, v = .int (ks.getD i 0) t)
    (el : ∀ k t h tk oC' oI' vs c (E' : Value → Shared → Prop), k ∈ ks → Fr h₀ L h m → News h₀ L h ((C, oC') :: (D, listOf vs c) :: (I, oI') :: rest) → NsObj oC' (fun z => if z = x then some (.int k t) else none) →
      wpAny (model prog w) A (eval elt (compEnvC scope cl C env)) (EndI h₀ L m ((C, oC') :: (D, listOf vs c) :: (I, oI') :: rest) s (f k)) E' { s with heap := h, toks := tk })
    (fin : ∀ h tk oC' oN vs c, Fr h₀ L h m → News h₀ L h ((C, oC') :: (D, listOf vs.toArray c) :: rest) → NsObj oC' oN → IntsAre vs (ks.map f) → R (.ok .next) { s with heap := h, toks := tk }) :
    MLoop prog w A (.ListComp elt [⟨.Name x px, iter, [], 0⟩] scope pos) (.ref I) (.ref D) (compEnvC scope cl C env) R s := by
  have key : ∀ (d i : Nat) (h : Heap) (tk : Nat) (oI oC : Obj) (vs : List Value) (c : Nat) (o : Option Value), i + d = n → Steps prog w I src n P i oI → IntsAre vs ((ks.take i).map f) → Fr h₀ L h m → News h₀ L h ((C, oC) :: (D, listOf vs.toArray c) :: (I, oI) :: rest) → NsObj oC (fun z => if z = x then o else none) →
      MLoop prog w A (.ListComp elt [⟨.Name x px, iter, [], 0⟩] scope pos) (.ref I) (.ref D) (compEnvC scope cl C env) R { s with heap := h, toks := tk } := by
    intro d
    induction d with
    | zero =>
      intro i h tk oI oC vs c o hi S hv F N hC
      have : i = n := by lia
      subst this
      refine mloop_end_L hh S F N (.tail (.tail .head)) (fun p hp => ?_) (hsr h F (News.sub N fun p hp => .tail _ (.tail _ (.tail _ hp)))) fun h' tk' F' N' => fin h' tk' oC _ vs c F' N' hC ?_
      · rcases List.mem_cons.mp hp with rfl | hp
        · exact Ne.symm a2
        · rcases List.mem_cons.mp hp with rfl | hp
          · exact Ne.symm a3
          · exact a6 p hp
      · rwa [List.take_of_length_le (by lia)] at hv
    | succ d ih =>
      intro i h tk oI oC vs c o hi S hv F N hC
      refine mloop_L0 hh S (by lia) F N (.tail a2.symm (.tail a3.symm (.head a6))) (hsr h F (News.sub N fun p hp => .tail _ (.tail _ (.tail _ hp)))) fun v h1 tk1 oI1 hp S1 F1 N1 => ?_
      obtain ⟨t, rfl⟩ := hP i v (by lia) hp
      refine massign_name F1 N1 (.head (fun p hp => ?_)) hC hx hk fun h2 oC2 F2 N2 hC2 => ?_
      · rcases List.mem_cons.mp hp with rfl | hp
        · exact a1
        · rcases List.mem_cons.mp hp with rfl | hp
          · exact a2
          · exact a4 p hp
      have eC : (fun z => if z = x then some (Value.int (ks.getD i 0) t) else if z = x then o else none) = fun z => if z = x then some (Value.int (ks.getD i 0) t) else none := by
        funext z
        by_cases e : z = x
        · rw [if_pos e, if_pos e]
        · rw [if_neg e, if_neg e, if_neg e]
      rw [eC] at hC2
      have hil : i < ks.length := by lia
      have hmem : ks.getD i 0 ∈ ks := by rw [List.getD_eq_getElem?_getD, List.getElem?_eq_getElem hil]; exact List.getElem_mem hil
      refine wpAny_mono (el _ t h2 _ oC2 oI1 vs.toArray c _ hmem F2 N2 hC2) (fun v9 s9 z9 => ?_) fun _ _ e => e
      obtain ⟨t', h3, tk3, rfl, rfl, F3, N3⟩ := z9
      have hvl : vs.length = i := by rw [hv.length, List.length_map, List.length_take]; lia
      refine append_second F3 N3 a1.symm (fun p hp => ?_) (fun h4 F4 N4 => ?_) (by rw [List.size_toArray, sizeLine_eq]; lia)
      · rcases List.mem_cons.mp hp with rfl | hp
        · exact a3
        · exact a5 p hp
      rw [List.push_toArray] at N4
      refine ih (i + 1) h4 tk3 oI1 oC2 (vs ++ [.int (f (ks.getD i 0)) t']) (c + 1) _ (by lia) S1 ?_ F4 N4 hC2
      have e : ks.take (i + 1) = ks.take i ++ [ks.getD i 0] := by
        rw [List.take_add_one, List.getElem?_eq_getElem hil, List.getD_eq_getElem?_getD, List.getElem?_eq_getElem hil]; rfl
      rw [e, List.map_append]
      exact hv.append (.cons _ _ .nil)
  have := key n 0 s.heap s.toks oI oC [] 0 none (by lia) S .nil F N (by
    have e : (fun z => if z = x then none else none) = fun _ : Str => (none : Option Value) := by funext z; split <;> rfl
    rw [e]; exact hC)
  exact this
end
end
theorem lines_p14hamind : True := by
  w_top off
  k_extra "S"
  k_extra "ld:pre"
  k_extra "ld:massign"
  trivial
section
section
open PyProof.Rows.LCg
variable {prog : Program} {w : World} {A : Around} {E : Value → Shared → Prop} {s : Shared} {h₀ : Heap} {L I C D : Addr} {m : Str → Option Value} {rest src : List (Addr × Obj)} {env : Env} {n : Nat} {P : Nat → Value → Prop} {oI oC : Obj}
  {elt target iter : Expr} {scope : Scope} {cl : List (Str × Addr)} {pos : Pos} {R : Result → Shared → Prop}
/- a turn's end: the ledger and the items as the law of the walk asks -/
inductive EndJ (h₀ : Heap) (L C D I : Addr) (oI : Obj) (m : Str → Option Value) (J : Nat → List Value → List (Addr × Obj) → Prop) (i : Nat) (vs : List Value) (k : Nat) (s₀ : Shared) (v : Value) (s' : Shared) : Prop
  | mk : ∀ h' tk oC' mC T', (s' = { s₀ with heap := h', toks := tk }) → (Fr h₀ L h' m) → (News h₀ L h' ((C, oC') :: (D, listOf vs.toArray k) :: (I, oI) :: T')) → (NsObj oC' mC) → (J i (vs ++ [v]) T') → EndJ h₀ L C D I oI m J i vs k s₀ v s'
theorem MAssign.mono {v it : Value} {cenv : Env} {K K' : Shared → Prop} (h : MAssign prog w A target v it cenv K E s) (k : ∀ s', K s' → K' s') : MAssign prog w A target v it cenv K' E s :=
  wpAny_mono h (fun _ _ h1 => wpAny_mono h1 (fun _ s2 h2 => k s2 h2) fun _ _ e => e) fun _ _ e => e
/- a list comprehension of any length: its turn is walked once -/
theorem mind_L (hh : A.handled = none) (S : Steps prog w I src n P 0 oI) (hn : n ≤ 1000) (F : Fr h₀ L s.heap m) (N : News h₀ L s.heap ((C, oC) :: (D, lst []) :: (I, oI) :: rest)) (hC : NsObj oC (fun _ => none)) (a1 : D ≠ C) (a2 : I ≠ C) (a3 : I ≠ D)
    (J : Nat → List Value → List (Addr × Obj) → Prop) (j0 : J 0 [] rest)
    (hJ : ∀ i vs T, J i vs T → (∀ h, News h₀ L h T → SrcIn src h) ∧ (∀ p ∈ T, p.1 ≠ C) ∧ (∀ p ∈ T, p.1 ≠ D) ∧ (∀ p ∈ T, p.1 ≠ I))
    (turn : ∀ i v vs T k h tk oC' oI' mC (E' : Value → Shared → Prop), i < n → P i v → J i vs T → vs.length = i → Steps prog w I src n P (i + 1) oI' → Fr h₀ L h m → News h₀ L h ((C, oC') :: (D, listOf vs.toArray k) :: (I, oI') :: T) → NsObj oC' mC →
      MAssign prog w A target v (.ref I) (compEnvC scope cl C env) (fun s₂ => wpAny (model prog w) A (eval elt (compEnvC scope cl C env)) (EndJ h₀ L C D I oI' m J (i + 1) vs k s) E' s₂) E' { s with heap := h, toks := tk })
    (fin : ∀ h tk oC' mC vs k T, Fr h₀ L h m → News h₀ L h ((C, oC') :: (D, listOf vs.toArray k) :: T) → NsObj oC' mC → J n vs T → vs.length = n → R (.ok .next) { s with heap := h, toks := tk }) :
    MLoop prog w A (.ListComp elt [⟨target, iter, [], 0⟩] scope pos) (.ref I) (.ref D) (compEnvC scope cl C env) R s := by
  have key : ∀ (d i : Nat) (h : Heap) (tk : Nat) (oI oC : Obj) (mC : Str → Option Value) (vs : List Value) (k : Nat) (T : List (Addr × Obj)), i + d = n → Steps prog w I src n P i oI → J i vs T → vs.length = i → Fr h₀ L h m → News h₀ L h ((C, oC) :: (D, listOf vs.toArray k) :: (I, oI) :: T) → NsObj oC mC →
      MLoop prog w A (.ListComp elt [⟨target, iter, [], 0⟩] scope pos) (.ref I) (.ref D) (compEnvC scope cl C env) R { s with heap := h, toks := tk } := by
    intro d
    induction d with
    | zero =>
      intro i h tk oI oC mC vs k T hi S hv hl F N hC
      have : i = n := by lia
      subst this
      obtain ⟨b1, b2, b3, b4⟩ := hJ _ _ _ hv
      refine mloop_end_L hh S F N (.tail (.tail .head)) (fun p hp => ?_) (b1 h (News.sub N fun p hp => .tail _ (.tail _ (.tail _ hp)))) fun h' tk' F' N' => fin h' tk' oC mC vs k T F' N' hC hv hl
      rcases List.mem_cons.mp hp with rfl | hp
      · exact Ne.symm a2
      · rcases List.mem_cons.mp hp with rfl | hp
        · exact Ne.symm a3
        · exact b4 p hp
    | succ d ih =>
      intro i h tk oI oC mC vs k T hi S hv hl F N hC
      obtain ⟨b1, b2, b3, b4⟩ := hJ _ _ _ hv
      refine mloop_L0 hh S (by lia) F N (.tail a2.symm (.tail a3.symm (.head b4))) (b1 h (News.sub N fun p hp => .tail _ (.tail _ (.tail _ hp)))) fun v h1 tk1 oI1 hp S1 F1 N1 => ?_
      refine (turn i v vs T k h1 tk1 oC oI1 mC _ (by lia) hp hv hl S1 F1 N1 hC).mono fun s2 z2 => wpAny_mono z2 (fun v9 s9 z9 => ?_) fun _ _ e => e
      obtain ⟨h3, tk3, oC3, mC3, T3, rfl, F3, N3, hC3, hJ3⟩ := z9
      obtain ⟨c1, c2, c3, c4⟩ := hJ _ _ _ hJ3
      refine append_second F3 N3 a1.symm (fun p hp => ?_) (fun h4 F4 N4 => ?_) (by rw [List.size_toArray, sizeLine_eq]; lia)
      · rcases List.mem_cons.mp hp with rfl | hp
        · exact a3
        · exact c3 p hp
      rw [List.push_toArray] at N4
      exact ih (i + 1) h4 tk3 oI1 oC3 mC3 (vs ++ [v9]) (k + 1) T3 (by lia) S1 hJ3 (by rw [List.length_append, hl]; rfl) F4 N4 hC3
  exact key n 0 s.heap s.toks oI oC _ [] 0 rest (by lia) S j0 rfl F N hC
end
end
theorem lines_p14imindt : True := by
  w_top off
  k_extra "S"
  k_extra "ld:pre"
  k_extra "ld:massign"
  trivial
section
section
open PyProof.Rows.LCg
variable {prog : Program} {w : World} {A : Around} {E : Value → Shared → Prop} {s : Shared} {h₀ : Heap} {L I C D : Addr} {m : Str → Option Value} {rest src : List (Addr × Obj)} {env : Env} {n : Nat} {P : Nat → Value → Prop} {oI oC : Obj}
  {elt target iter c : Expr} {scope : Scope} {cl : List (Str × Addr)} {pos : Pos} {R : Result → Shared → Prop}
/- a turn's end where the test left the item out -/
inductive EndS (h₀ : Heap) (L C D I : Addr) (oI : Obj) (m : Str → Option Value) (J : Nat → List Value → List (Addr × Obj) → Prop) (i : Nat) (vs : List Value) (k : Nat) (s₀ : Shared) (s' : Shared) : Prop
  | mk : ∀ h' tk oC' mC T', (s' = { s₀ with heap := h', toks := tk }) → (Fr h₀ L h' m) → (News h₀ L h' ((C, oC') :: (D, listOf vs.toArray k) :: (I, oI) :: T')) → (NsObj oC' mC) → (J i vs T') → EndS h₀ L C D I oI m J i vs k s₀ s'
/- a list comprehension with a test, of any length: its turn is walked once -/
theorem mind_T (hh : A.handled = none) (S : Steps prog w I src n P 0 oI) (hn : n ≤ 1000) (F : Fr h₀ L s.heap m) (N : News h₀ L s.heap ((C, oC) :: (D, lst []) :: (I, oI) :: rest)) (hC : NsObj oC (fun _ => none)) (a1 : D ≠ C) (a2 : I ≠ C) (a3 : I ≠ D)
    (J : Nat → List Value → List (Addr × Obj) → Prop) (j0 : J 0 [] rest)
    (hJ : ∀ i vs T, J i vs T → (∀ h, Fr h₀ L h m → News h₀ L h T → SrcIn src h) ∧ (∀ p ∈ T, p.1 ≠ C) ∧ (∀ p ∈ T, p.1 ≠ D) ∧ (∀ p ∈ T, p.1 ≠ I))
    (turn : ∀ i v vs T k h tk oC' oI' mC (E' : Value → Shared → Prop), i < n → P i v → J i vs T → vs.length ≤ i → Steps prog w I src n P (i + 1) oI' → Fr h₀ L h m → News h₀ L h ((C, oC') :: (D, listOf vs.toArray k) :: (I, oI') :: T) → NsObj oC' mC →
      MAssign prog w A target v (.ref I) (compEnvC scope cl C env) (fun s₂ => wpAny (model prog w) A (isTrue c (compEnvC scope cl C env) (eval c (compEnvC scope cl C env))) (fun ok s₃ => if ok = true then wpAny (model prog w) A (eval elt (compEnvC scope cl C env)) (EndJ h₀ L C D I oI' m J (i + 1) vs k s) E' s₃ else EndS h₀ L C D I oI' m J (i + 1) vs k s s₃) E' s₂) E' { s with heap := h, toks := tk })
    (fin : ∀ h tk oC' mC vs k T, Fr h₀ L h m → News h₀ L h ((C, oC') :: (D, listOf vs.toArray k) :: T) → NsObj oC' mC → J n vs T → vs.length ≤ n → R (.ok .next) { s with heap := h, toks := tk }) :
    MLoop prog w A (.ListComp elt [⟨target, iter, [c], 0⟩] scope pos) (.ref I) (.ref D) (compEnvC scope cl C env) R s := by
  have key : ∀ (d i : Nat) (h : Heap) (tk : Nat) (oI oC : Obj) (mC : Str → Option Value) (vs : List Value) (k : Nat) (T : List (Addr × Obj)), i + d = n → Steps prog w I src n P i oI → J i vs T → vs.length ≤ i → Fr h₀ L h m → News h₀ L h ((C, oC) :: (D, listOf vs.toArray k) :: (I, oI) :: T) → NsObj oC mC →
      MLoop prog w A (.ListComp elt [⟨target, iter, [c], 0⟩] scope pos) (.ref I) (.ref D) (compEnvC scope cl C env) R { s with heap := h, toks := tk } := by
    intro d
    induction d with
    | zero =>
      intro i h tk oI oC mC vs k T hi S hv hl F N hC
      have : i = n := by lia
      subst this
      obtain ⟨b1, b2, b3, b4⟩ := hJ _ _ _ hv
      refine mloop_end_L hh S F N (.tail (.tail .head)) (fun p hp => ?_) (b1 h F (News.sub N fun p hp => .tail _ (.tail _ (.tail _ hp)))) fun h' tk' F' N' => fin h' tk' oC mC vs k T F' N' hC hv hl
      rcases List.mem_cons.mp hp with rfl | hp
      · exact Ne.symm a2
      · rcases List.mem_cons.mp hp with rfl | hp
        · exact Ne.symm a3
        · exact b4 p hp
    | succ d ih =>
      intro i h tk oI oC mC vs k T hi S hv hl F N hC
      obtain ⟨b1, b2, b3, b4⟩ := hJ _ _ _ hv
      refine mloop_L1 hh S (by lia) F N (.tail a2.symm (.tail a3.symm (.head b4))) (b1 h F (News.sub N fun p hp => .tail _ (.tail _ (.tail _ hp)))) fun v h1 tk1 oI1 hp S1 F1 N1 => ?_
      refine (turn i v vs T k h1 tk1 oC oI1 mC _ (by lia) hp hv hl S1 F1 N1 hC).mono fun s2 z2 => wpAny_mono z2 (fun ok s9 z9 => ?_) fun _ _ e => e
      split at z9
      · rw [if_pos (by assumption)]
        refine wpAny_mono z9 (fun v9 s9 z9 => ?_) fun _ _ e => e
        obtain ⟨h3, tk3, oC3, mC3, T3, rfl, F3, N3, hC3, hJ3⟩ := z9
        obtain ⟨c1, c2, c3, c4⟩ := hJ _ _ _ hJ3
        refine append_second F3 N3 a1.symm (fun p hp => ?_) (fun h4 F4 N4 => ?_) (by rw [List.size_toArray, sizeLine_eq]; lia)
        · rcases List.mem_cons.mp hp with rfl | hp
          · exact a3
          · exact c3 p hp
        rw [List.push_toArray] at N4
        exact ih (i + 1) h4 tk3 oI1 oC3 mC3 (vs ++ [v9]) (k + 1) T3 (by lia) S1 hJ3 (by rw [List.length_append]; simp; lia) F4 N4 hC3
      · rw [if_neg (by assumption)]
        obtain ⟨h3, tk3, oC3, mC3, T3, rfl, F3, N3, hC3, hJ3⟩ := z9
        exact ih (i + 1) h3 tk3 oI1 oC3 mC3 vs k T3 (by lia) S1 hJ3 (by lia) F3 N3 hC3
  exact key n 0 s.heap s.toks oI oC _ [] 0 rest (by lia) S j0 (Nat.zero_le _) F N hC
end
end
theorem lines_p14jmindd : True := by
  w_top off
  k_extra "S"
  k_extra "ld:pre"
  k_extra "ld:massign"
  trivial
section
section
open PyProof.Rows.LCg
variable {prog : Program} {w : World} {A : Around} {E : Value → Shared → Prop} {s : Shared} {h₀ : Heap} {L I C D : Addr} {m : Str → Option Value} {rest src : List (Addr × Obj)} {env : Env} {n : Nat} {P : Nat → Value → Prop} {oI oC oD : Obj}
  {kx vx target iter : Expr} {scope : Scope} {cl : List (Str × Addr)} {pos : Pos} {R : Result → Shared → Prop}
/- a turn's end: the ledger and the dict as the law of the walk asks -/
inductive EndD (h₀ : Heap) (L C D I : Addr) (oI : Obj) (m : Str → Option Value) (J : Nat → Obj → List (Addr × Obj) → Prop) (i : Nat) (s₀ : Shared) (s' : Shared) : Prop
  | mk : ∀ h' tk oC' mC oD' T', (s' = { s₀ with heap := h', toks := tk }) → (Fr h₀ L h' m) → (News h₀ L h' ((C, oC') :: (D, oD') :: (I, oI) :: T')) → (NsObj oC' mC) → (J i oD' T') → EndD h₀ L C D I oI m J i s₀ s'
/- a dict comprehension of any length: its turn is walked once -/
theorem mind_D (hh : A.handled = none) (S : Steps prog w I src n P 0 oI) (F : Fr h₀ L s.heap m) (N : News h₀ L s.heap ((C, oC) :: (D, oD) :: (I, oI) :: rest)) (hC : NsObj oC (fun _ => none)) (a2 : I ≠ C) (a3 : I ≠ D)
    (J : Nat → Obj → List (Addr × Obj) → Prop) (j0 : J 0 oD rest)
    (hJ : ∀ i o T, J i o T → (∀ h, Fr h₀ L h m → News h₀ L h T → SrcIn src h) ∧ (∀ p ∈ T, p.1 ≠ I))
    (turn : ∀ i v o T h tk oC' oI' mC (E' : Value → Shared → Prop), i < n → P i v → J i o T → Steps prog w I src n P (i + 1) oI' → Fr h₀ L h m → News h₀ L h ((C, oC') :: (D, o) :: (I, oI') :: T) → NsObj oC' mC →
      MAssign prog w A target v (.ref I) (compEnvC scope cl C env) (fun s₂ => wpAny (model prog w) A (eval kx (compEnvC scope cl C env)) (fun kv s₃ => wpAny (model prog w) A (eval vx (compEnvC scope cl C env)) (fun vv s₄ => wpAny (model prog w) A (dictSet D kv vv) (fun _ s₅ => EndD h₀ L C D I oI' m J (i + 1) s s₅) E' s₄) E' s₃) E' s₂) E' { s with heap := h, toks := tk })
    (fin : ∀ h tk oC' mC o T, Fr h₀ L h m → News h₀ L h ((C, oC') :: (D, o) :: T) → NsObj oC' mC → J n o T → R (.ok .next) { s with heap := h, toks := tk }) :
    MLoop prog w A (.DictComp kx vx [⟨target, iter, [], 0⟩] scope pos) (.ref I) (.ref D) (compEnvC scope cl C env) R s := by
  have key : ∀ (d i : Nat) (h : Heap) (tk : Nat) (oI oC : Obj) (mC : Str → Option Value) (o : Obj) (T : List (Addr × Obj)), i + d = n → Steps prog w I src n P i oI → J i o T → Fr h₀ L h m → News h₀ L h ((C, oC) :: (D, o) :: (I, oI) :: T) → NsObj oC mC →
      MLoop prog w A (.DictComp kx vx [⟨target, iter, [], 0⟩] scope pos) (.ref I) (.ref D) (compEnvC scope cl C env) R { s with heap := h, toks := tk } := by
    intro d
    induction d with
    | zero =>
      intro i h tk oI oC mC o T hi S hv F N hC
      have : i = n := by lia
      subst this
      obtain ⟨b1, b4⟩ := hJ _ _ _ hv
      refine mloop_end_D hh S F N (.tail (.tail .head)) (fun p hp => ?_) (b1 h F (News.sub N fun p hp => .tail _ (.tail _ (.tail _ hp)))) fun h' tk' F' N' => fin h' tk' oC mC o T F' N' hC hv
      rcases List.mem_cons.mp hp with rfl | hp
      · exact Ne.symm a2
      · rcases List.mem_cons.mp hp with rfl | hp
        · exact Ne.symm a3
        · exact b4 p hp
    | succ d ih =>
      intro i h tk oI oC mC o T hi S hv F N hC
      obtain ⟨b1, b4⟩ := hJ _ _ _ hv
      refine mloop_D0 hh S (by lia) F N (.tail a2.symm (.tail a3.symm (.head b4))) (b1 h F (News.sub N fun p hp => .tail _ (.tail _ (.tail _ hp)))) fun v h1 tk1 oI1 hp S1 F1 N1 => ?_
      refine (turn i v o T h1 tk1 oC oI1 mC _ (by lia) hp hv S1 F1 N1 hC).mono fun s2 z2 => wpAny_mono z2 (fun kv s3 z3 => wpAny_mono z3 (fun vv s4 z4 => wpAny_mono z4 (fun _ s5 z5 => ?_) fun _ _ e => e) fun _ _ e => e) fun _ _ e => e
      obtain ⟨h3, tk3, oC3, mC3, oD3, T3, rfl, F3, N3, hC3, hJ3⟩ := z5
      exact ih (i + 1) h3 tk3 oI1 oC3 mC3 oD3 T3 (by lia) S1 hJ3 F3 N3 hC3
  exact key n 0 s.heap s.toks oI oC _ oD rest (by lia) S j0 F N hC
end
end
theorem lines_p14kfold : True := by
  w_top off
  k_extra "S"
  k_extra "ld:pre"
  trivial
section
/- the entries told of the ledger's opaque rest -/
noncomputable def HasK (R : List (Addr × Obj)) (G : Prop) : List (Addr × Obj) → Prop
  | [] => G
  | p :: l => p ∈ R → HasK R G l
structure Fin9 (P : Prop) : Prop where
  out : P
structure Sub9 (t R : List (Addr × Obj)) : Prop where
  sub : ∀ p ∈ t, p ∈ R
theorem Sub9.mem {t R : List (Addr × Obj)} {p : Addr × Obj} (h : Sub9 t R) (hp : p ∈ t) : p ∈ R := h.sub p hp
theorem hasK_of {R : List (Addr × Obj)} {G : Prop} : ∀ {l : List (Addr × Obj)}, HasK R G l → (∀ p ∈ l, p ∈ R) → G
  | [], h, _ => h
  | p :: _, h, k => hasK_of (h (k p (.head _))) fun q hq => k q (.tail _ hq)
/- the written part of a ledger -/
inductive Pre : List (Addr × Obj) → List (Addr × Obj) → List (Addr × Obj) → Prop
  | nil {t} : Pre [] t t
  | cons {p ps l t} : Pre ps l t → Pre (p :: ps) (p :: l) t
theorem Pre.eq : ∀ {ps l t : List (Addr × Obj)}, Pre ps l t → l = ps ++ t
  | _, _, _, .nil => rfl
  | _, _, _, .cons k => congrArg _ k.eq
section
variable {h₀ h : Heap} {L : Addr} {G : Prop}
end
/- entries picked out of the ledger, one after the other -/
inductive Picks : List (Addr × Obj) → List (Addr × Obj) → List (Addr × Obj) → Prop
  | nil {l} : Picks [] l l
  | cons {a o l r ps r'} : Pick a o l r → Picks ps r r' → Picks ((a, o) :: ps) l r'
theorem Picks.mem {ps l r : List (Addr × Obj)} (h : Picks ps l r) : ∀ p ∈ ps ++ r, p ∈ l := by
  induction h with
  | nil => exact fun _ hp => hp
  | cons k _ ih =>
    intro p hp
    rcases List.mem_cons.mp hp with rfl | hp
    · exact k.mem _ (.head _)
    · exact k.mem _ (.tail _ (ih p hp))
/- addresses that the ledger does not bear -/
noncomputable def Offs (r : List (Addr × Obj)) : List Addr → Prop
  | [] => True
  | a :: as => (∀ p ∈ r, p.1 ≠ a) ∧ Offs r as
theorem Offs.n {r : List (Addr × Obj)} : Offs r [] := trivial
theorem Offs.c {r : List (Addr × Obj)} {a : Addr} {as : List Addr} (h : ∀ p ∈ r, p.1 ≠ a) (k : Offs r as) : Offs r (a :: as) := ⟨h, k⟩
noncomputable def OffsK (R : List (Addr × Obj)) (G : Prop) : List Addr → Prop
  | [] => G
  | a :: as => (∀ p ∈ R, p.1 ≠ a) → OffsK R G as
theorem offsK_of {R : List (Addr × Obj)} {G : Prop} : ∀ {as : List Addr}, OffsK R G as → Offs R as → G
  | [], h, _ => h
  | _ :: _, h, k => offsK_of (h k.1) k.2
theorem memA {a : Addr} {o : Obj} {R : List (Addr × Obj)} (h : (a, o) ∈ R) : List.Mem a (R.map fun x => x.1) := List.mem_map.mpr ⟨_, h, rfl⟩
/- the ledger but for some entries turns opaque -/
theorem foldP {h₀ h : Heap} {L : Addr} {G : Prop} {p1 p2 p3 p4 : Addr × Obj} {ps news r es t : List (Addr × Obj)} {as : List Addr} (N : News h₀ L h news) (P : Picks ps news r) (E : Pre (p1 :: p2 :: p3 :: p4 :: es) r t) (O : Offs r as)
    (k : ∀ R, HasK R (Fin9 (Sub9 t R → OffsK R (Fin9 (News h₀ L h (ps ++ R) → G)) as)) (p1 :: p2 :: p3 :: p4 :: es)) : G := by
  have e := E.eq
  subst e
  exact (offsK_of ((hasK_of (k _) fun p hp => List.mem_append_left t hp).out ⟨fun p hp => List.mem_append_right (p1 :: p2 :: p3 :: p4 :: es) hp⟩) O).out (News.sub N P.mem)
theorem subn9 {big : List (Addr × Obj)} : ∀ p ∈ ([] : List (Addr × Obj)), p ∈ big := fun _ h => nomatch h
end
theorem lines_p14lmindr : True := by
  w_top off
  k_extra "S"
  k_extra "ld:pre"
  k_extra "ld:massign"
  trivial
section
section
open PyProof.Rows.LCg
variable {prog : Program} {w : World} {A : Around} {E : Value → Shared → Prop} {s : Shared} {h₀ : Heap} {L I C D : Addr} {m : Str → Option Value} {rest src : List (Addr × Obj)} {env : Env} {n : Nat} {P : Nat → Value → Prop} {oI oC : Obj}
  {elt target iter c : Expr} {scope : Scope} {cl : List (Str × Addr)} {pos : Pos} {R : Result → Shared → Prop}
/- turns' ends where the ground turns too (calls that catch): G says what is so of the ground -/
inductive EndJr (G : Heap → Prop) (L C D I : Addr) (oI : Obj) (m : Str → Option Value) (J : Nat → List Value → List (Addr × Obj) → Prop) (i : Nat) (vs : List Value) (k : Nat) (s₀ : Shared) (v : Value) (s' : Shared) : Prop
  | mk : ∀ g' h' tk oC' mC T', (s' = { s₀ with heap := h', toks := tk }) → (G g') → (Fr g' L h' m) → (News g' L h' ((C, oC') :: (D, listOf vs.toArray k) :: (I, oI) :: T')) → (NsObj oC' mC) → (J i (vs ++ [v]) T') → EndJr G L C D I oI m J i vs k s₀ v s'
inductive EndSr (G : Heap → Prop) (L C D I : Addr) (oI : Obj) (m : Str → Option Value) (J : Nat → List Value → List (Addr × Obj) → Prop) (i : Nat) (vs : List Value) (k : Nat) (s₀ : Shared) (s' : Shared) : Prop
  | mk : ∀ g' h' tk oC' mC T', (s' = { s₀ with heap := h', toks := tk }) → (G g') → (Fr g' L h' m) → (News g' L h' ((C, oC') :: (D, listOf vs.toArray k) :: (I, oI) :: T')) → (NsObj oC' mC) → (J i vs T') → EndSr G L C D I oI m J i vs k s₀ s'
/- a list comprehension with a test, of any length: its turn is walked once -/
theorem mind_R {G : Heap → Prop} (hg : G h₀) (hh : A.handled = none) (S : Steps prog w I src n P 0 oI) (hn : n ≤ 1000) (F : Fr h₀ L s.heap m) (N : News h₀ L s.heap ((C, oC) :: (D, lst []) :: (I, oI) :: rest)) (hC : NsObj oC (fun _ => none)) (a1 : D ≠ C) (a2 : I ≠ C) (a3 : I ≠ D)
    (J : Nat → List Value → List (Addr × Obj) → Prop) (j0 : J 0 [] rest)
    (hJ : ∀ i vs T, J i vs T → (∀ g h, G g → Fr g L h m → News g L h T → SrcIn src h) ∧ (∀ p ∈ T, p.1 ≠ C) ∧ (∀ p ∈ T, p.1 ≠ D) ∧ (∀ p ∈ T, p.1 ≠ I))
    (turn : ∀ i v vs T k g h tk oC' oI' mC (E' : Value → Shared → Prop), i < n → P i v → J i vs T → vs.length ≤ i → Steps prog w I src n P (i + 1) oI' → G g → Fr g L h m → News g L h ((C, oC') :: (D, listOf vs.toArray k) :: (I, oI') :: T) → NsObj oC' mC →
      MAssign prog w A target v (.ref I) (compEnvC scope cl C env) (fun s₂ => wpAny (model prog w) A (isTrue c (compEnvC scope cl C env) (eval c (compEnvC scope cl C env))) (fun ok s₃ => if ok = true then wpAny (model prog w) A (eval elt (compEnvC scope cl C env)) (EndJr G L C D I oI' m J (i + 1) vs k s) E' s₃ else EndSr G L C D I oI' m J (i + 1) vs k s s₃) E' s₂) E' { s with heap := h, toks := tk })
    (fin : ∀ g h tk oC' mC vs k T, G g → Fr g L h m → News g L h ((C, oC') :: (D, listOf vs.toArray k) :: T) → NsObj oC' mC → J n vs T → vs.length ≤ n → R (.ok .next) { s with heap := h, toks := tk }) :
    MLoop prog w A (.ListComp elt [⟨target, iter, [c], 0⟩] scope pos) (.ref I) (.ref D) (compEnvC scope cl C env) R s := by
  have key : ∀ (d i : Nat) (g h : Heap) (tk : Nat) (oI oC : Obj) (mC : Str → Option Value) (vs : List Value) (k : Nat) (T : List (Addr × Obj)), i + d = n → Steps prog w I src n P i oI → J i vs T → vs.length ≤ i → G g → Fr g L h m → News g L h ((C, oC) :: (D, listOf vs.toArray k) :: (I, oI) :: T) → NsObj oC mC →
      MLoop prog w A (.ListComp elt [⟨target, iter, [c], 0⟩] scope pos) (.ref I) (.ref D) (compEnvC scope cl C env) R { s with heap := h, toks := tk } := by
    intro d
    induction d with
    | zero =>
      intro i g h tk oI oC mC vs k T hi S hv hl hG F N hC
      have : i = n := by lia
      subst this
      obtain ⟨b1, b2, b3, b4⟩ := hJ _ _ _ hv
      refine mloop_end_L hh S F N (.tail (.tail .head)) (fun p hp => ?_) (b1 g h hG F (News.sub N fun p hp => .tail _ (.tail _ (.tail _ hp)))) fun h' tk' F' N' => fin g h' tk' oC mC vs k T hG F' N' hC hv hl
      rcases List.mem_cons.mp hp with rfl | hp
      · exact Ne.symm a2
      · rcases List.mem_cons.mp hp with rfl | hp
        · exact Ne.symm a3
        · exact b4 p hp
    | succ d ih =>
      intro i g h tk oI oC mC vs k T hi S hv hl hG F N hC
      obtain ⟨b1, b2, b3, b4⟩ := hJ _ _ _ hv
      refine mloop_L1 hh S (by lia) F N (.tail a2.symm (.tail a3.symm (.head b4))) (b1 g h hG F (News.sub N fun p hp => .tail _ (.tail _ (.tail _ hp)))) fun v h1 tk1 oI1 hp S1 F1 N1 => ?_
      refine (turn i v vs T k g h1 tk1 oC oI1 mC _ (by lia) hp hv hl S1 hG F1 N1 hC).mono fun s2 z2 => wpAny_mono z2 (fun ok s9 z9 => ?_) fun _ _ e => e
      split at z9
      · rw [if_pos (by assumption)]
        refine wpAny_mono z9 (fun v9 s9 z9 => ?_) fun _ _ e => e
        obtain ⟨g3, h3, tk3, oC3, mC3, T3, rfl, hG3, F3, N3, hC3, hJ3⟩ := z9
        obtain ⟨c1, c2, c3, c4⟩ := hJ _ _ _ hJ3
        refine append_second F3 N3 a1.symm (fun p hp => ?_) (fun h4 F4 N4 => ?_) (by rw [List.size_toArray, sizeLine_eq]; lia)
        · rcases List.mem_cons.mp hp with rfl | hp
          · exact a3
          · exact c3 p hp
        rw [List.push_toArray] at N4
        exact ih (i + 1) g3 h4 tk3 oI1 oC3 mC3 (vs ++ [v9]) (k + 1) T3 (by lia) S1 hJ3 (by rw [List.length_append]; simp; lia) hG3 F4 N4 hC3
      · rw [if_neg (by assumption)]
        obtain ⟨g3, h3, tk3, oC3, mC3, T3, rfl, hG3, F3, N3, hC3, hJ3⟩ := z9
        exact ih (i + 1) g3 h3 tk3 oI1 oC3 mC3 vs k T3 (by lia) S1 hJ3 (by lia) hG3 F3 N3 hC3
  exact key n 0 h₀ s.heap s.toks oI oC _ [] 0 rest (by lia) S j0 (Nat.zero_le _) hg F N hC
end
section
open PyProof.Rows.LCg
variable {prog : Program} {w : World} {A : Around} {E : Value → Shared → Prop} {s : Shared} {h₀ : Heap} {L I C D : Addr} {m : Str → Option Value} {rest src : List (Addr × Obj)} {env : Env} {n : Nat} {P : Nat → Value → Prop} {oI oC : Obj}
  {elt target iter c : Expr} {scope : Scope} {cl : List (Str × Addr)} {pos : Pos} {R : Result → Shared → Prop}
/- mind_R with a law of the walk that may name the block's own env -/
theorem mind_Q {G : Heap → Prop} (hg : G h₀) (hh : A.handled = none) (S : Steps prog w I src n P 0 oI) (hn : n ≤ 1000) (F : Fr h₀ L s.heap m) (N : News h₀ L s.heap ((C, oC) :: (D, lst []) :: (I, oI) :: rest)) (hC : NsObj oC (fun _ => none)) (a1 : D ≠ C) (a2 : I ≠ C) (a3 : I ≠ D)
    (J : Env → Nat → List Value → List (Addr × Obj) → Prop) (j0 : J (compEnvC scope cl C env) 0 [] rest)
    (hJ : ∀ i vs T, J (compEnvC scope cl C env) i vs T → (∀ g h, G g → Fr g L h m → News g L h T → SrcIn src h) ∧ (∀ p ∈ T, p.1 ≠ C) ∧ (∀ p ∈ T, p.1 ≠ D) ∧ (∀ p ∈ T, p.1 ≠ I))
    (turn : ∀ i v vs T k g h tk oC' oI' mC (E' : Value → Shared → Prop), i < n → P i v → J (compEnvC scope cl C env) i vs T → vs.length ≤ i → Steps prog w I src n P (i + 1) oI' → G g → Fr g L h m → News g L h ((C, oC') :: (D, listOf vs.toArray k) :: (I, oI') :: T) → NsObj oC' mC →
      MAssign prog w A target v (.ref I) (compEnvC scope cl C env) (fun s₂ => wpAny (model prog w) A (isTrue c (compEnvC scope cl C env) (eval c (compEnvC scope cl C env))) (fun ok s₃ => if ok = true then wpAny (model prog w) A (eval elt (compEnvC scope cl C env)) (EndJr G L C D I oI' m (J (compEnvC scope cl C env)) (i + 1) vs k s) E' s₃ else EndSr G L C D I oI' m (J (compEnvC scope cl C env)) (i + 1) vs k s s₃) E' s₂) E' { s with heap := h, toks := tk })
    (fin : ∀ g h tk oC' mC vs k T, G g → Fr g L h m → News g L h ((C, oC') :: (D, listOf vs.toArray k) :: T) → NsObj oC' mC → J (compEnvC scope cl C env) n vs T → vs.length ≤ n → R (.ok .next) { s with heap := h, toks := tk }) :
    MLoop prog w A (.ListComp elt [⟨target, iter, [c], 0⟩] scope pos) (.ref I) (.ref D) (compEnvC scope cl C env) R s :=
  mind_R hg hh S hn F N hC a1 a2 a3 (J (compEnvC scope cl C env)) j0 hJ turn fin
end
end
theorem lines_p14mcls : True := by
  w_top off
  k_extra "S"
  k_extra "ld:pre"
  k_extra "ld:massign"
  k_extra "ld:bytes"
  k_extra "ld:be"
  k_extra "ld:item"
  trivial
section
section
variable {prog : Program} {w : World} {A : Around} {E : Value → Shared → Prop} {s : Shared} {K : Frag} {C L : Addr} {h₀ : Heap} {m : Str → Option Value} {news : List (Addr × Obj)} {Q : Value → Shared → Prop}
/- an own class is called: what stood stands -/
theorem call_clsK {pos : List Value} {kw : List (Str × Value)} {fI : Addr} (F : Fr h₀ L s.heap m) (X₀ : K.In h₀) (N : News h₀ L s.heap news) (hm : makesIn K C = true) (hi : findIn K (.ref C) "__init__" = some (some (.ref fI))) (hf : isFn K (.ref fI) = true)
    (h : ∀ x dx h', (∀ b o, s.heap.get? b = some o → h'.get? b = some o) → s.heap.get? x = none → s.heap.get? dx = none → Fr h₀ L h' m → News h₀ L h' ((x, instObj C dx) :: (dx, dictOf [] 0) :: news) → (∀ p ∈ news, p.1 < dx) → dx < x →
      codeAny (model prog w) (A.under (.builtin "type.__call__" ⟨.ref C :: pos, kw⟩)) (.call (.ref fI) ⟨.ref x :: pos, kw⟩) (InitBack x fun r s' => match r with | .ok (.ret v) => Q v s' | .ok _ => False | .error e => E e s') { s with heap := h' }) :
    wpAny (model prog w) A (call (.ref C) pos kw) Q E s := by
  obtain ⟨hh, g, d, t, os⟩ := s
  have X := X₀.keeps F.keep
  refine wpAny_call (make_core (makes_of X hm) (looks_findIn X hi) (fun self => bind_fn X self (beq_iff_eq.mp hf)) (.inl rfl) (h _ hh.objs.size _ (fun b o e => Heap.get?_push_of_some _ (Heap.get?_push_of_some _ e)) (Heap.get?_none_of_le (Nat.le_succ _)) (Heap.get?_none_of_le (Nat.le_refl _)) ((F.push _).push _) ?_ (fun p hp => Heap.lt_size (N p hp).1) (Nat.lt_succ_self _)))
  have := (N.push F PySem.W.emptyDict).push (F.push _) (instObj C hh.objs.size)
  rwa [Heap.size_push] at this
theorem Hid.cls {h h' g : Heap} {x dx : Addr} {ox odx : Obj} (k : ∀ b o, h.get? b = some o → h'.get? b = some o) (nx : h.get? x = none) (nd : h.get? dx = none) (H : Hid h' ((x, ox) :: (dx, odx) :: news) g) : Hid h news g := fun b o e hn => H b o (k b o e) fun hm => by
  rcases List.mem_cons.mp hm with rfl | hm
  · rw [nx] at e; cases e
  · rcases List.mem_cons.mp hm with rfl | hm
    · rw [nd] at e; cases e
    · exact hn hm
end
end
theorem lines_p15four : True := by
  w_top off
  k_extra "S"
  k_extra "ld:pre"
  k_extra "ld:massign"
  k_extra "ld:bytes"
  k_extra "ld:be"
  k_extra "ld:o_four"
  trivial
section
theorem pow256 {prog : Program} {w : World} {A : Around} {E : Value → Shared → Prop} {s : Shared} {Q : Value → Shared → Prop} {k : Int} {t u : Tok} (hk : 0 ≤ k ∧ k < 8) (h : Q (.int (256 ^ k.toNat) s.toks) { s with toks := s.toks + 1 }) : wpAny (model prog w) A (binaryOp .Pow (.int 256 t) (.int k u)) Q E s :=
  pow_int hk.1 (by have e : (Builtin.Int.intBits 256 : Int) = 9 := by decide
                   rw [e]; lia) h
theorem div256 {prog : Program} {w : World} {A : Around} {E : Value → Shared → Prop} {s : Shared} {Q : Value → Shared → Prop} {a k : Int} {t u : Tok} (hk : 0 ≤ k ∧ k < 8) (h : Q (.int (a.fdiv (256 ^ k.toNat)) s.toks) { s with toks := s.toks + 1 }) : wpAny (model prog w) A (binaryOp .FloorDiv (.int a t) (.int (256 ^ k.toNat) u)) Q E s :=
  floordiv_int (Int.ne_of_gt (Int.pow_pos (by decide))) h (Or.inl (PyProof.noPylong_of_log2 ((by decide : ∀ m, m < 8 → ((256 : Int) ^ m).natAbs.log2 < 9000) _ (by lia))))
set_option maxHeartbeats 8000000 in
theorem c_four (w : World) (n : Int) (t : Tok) (h0 : 0 ≤ n) (h1 : n < 4294967296) : Tell w 402 [.int n t] 5 100 [] (RetV (IsB (be4 n)) []) := by
  unfold Tell
  intro mean mg mb dp un gd cn cs a ccd cl outer A₀ base h₀ L m s Q E B F X N T hk hd hu hret
  refine wpAny_call ?_
  k_dflt cell_enter
  k_steps
  refine Dbg.mk ?_
  refine letML ?_
  intro sM
  refine' mints_L ?hh ?S ?hn ?F ?N ?hC ?hx ?hk ?hsr ?a1 ?a2 ?a3 ?a4 ?a5 ?a6 (fun k => (n.fdiv (256 ^ k.toNat)).fmod 256) [3, 2, 1, 0] ?hlen ?hP ?el ?fin
  case hh => exact rfl
  case S => assumption
  case hn => exact Nat.le_of_ble_eq_true rfl
  case F => k_asm
  case N => k_asm
  case hC => assumption
  case hx => exact rfl
  case hk => exact rfl
  case hsr => exact fun h F N => srcIn_news N (by k_mem)
  case a1 => k_ne
  case a2 => k_ne
  case a3 => k_ne
  case a4 => k_all
  case a5 => k_all
  case a6 => k_all
  case hlen => exact rfl
  case hP => exact fun i v _ h => ints_at9 (by repeat' constructor) i v h
  case el =>
    intro k t h tk oC' oI' vs c E' hm F1 N1 hC1
    have hk0 : 0 ≤ k ∧ k < 8 := (by decide : ∀ k ∈ ([3, 2, 1, 0] : List Int), 0 ≤ k ∧ k < 8) k hm
    k_steps
    all_goals exact endI_ rfl (by k_asm) (by k_asm)
  case fin =>
    intro h tk oC' oN vs c F1 N1 hC1 hv
    (try dsimp only)
    k_steps
    all_goals (
      refine' fin_ (s := s) (small := []) hret ?H ?F' ?F ?N ?S ?R
      case H => k_asm
      case F' => k_asm
      case F => k_asm
      case N => k_asm
      case S => repeat' (first | exact Sub.refl | refine' Sub.keep ?_ | refine' Sub.skip ?_ | exact Sub.nil)
      case R => exact ⟨⟨_, _, rfl, by rename KBw.bInts _ = _ => hb; exact hb.trans (by simp [be2, be4, be6, fdv, fmv, bitAnd_m8])⟩, rfl⟩)
end
theorem lines_p15num : True := by
  w_top off
  k_extra "S"
  k_extra "ld:pre"
  k_extra "ld:massign"
  k_extra "ld:bytes"
  k_extra "ld:be"
  k_extra "ld:o_num"
  trivial
section
theorem rng_at {a c : Int} {ks : List Int} {n : Nat} (e : ∀ i, i < n → ks.getD i 0 = a + (i : Int) * c) (i : Nat) (v : Value) (hi : i < n) (h : ∃ t, v = .int (a + (i : Int) * c) t) : ∃ t, v = .int (ks.getD i 0) t := by
  obtain ⟨t, rfl⟩ := h
  exact ⟨t, by rw [e i hi]⟩
theorem shr_k {prog : Program} {w : World} {A : Around} {E : Value → Shared → Prop} {s : Shared} {Q : Value → Shared → Prop} {x k : Int} {t u : Tok} (hk : 0 ≤ k ∧ k < 8) (h : Q (.int (x.fdiv (2 ^ (8 * k).toNat)) s.toks) { s with toks := s.toks + 1 }) : wpAny (model prog w) A (binaryOp .RShift (.int x t) (.int (8 * k) u)) Q E s := rshift_int (by lia) h
set_option maxHeartbeats 8000000 in
theorem c_num2 (w : World) (n : Int) (t u : Tok) (h0 : 0 ≤ n) (h1 : n < 65536) : Tell w 243 [.int n t, .int 2 u] 5 100 [] (RetV (IsB (be2 n)) []) := by
  unfold Tell
  intro mean mg mb dp un gd cn cs a ccd cl outer A₀ base h₀ L m s Q E B F X N T hk hd hu hret
  refine wpAny_call ?_
  k_dflt cell_enter
  k_steps
  refine Dbg.mk ?_
  refine letML ?_
  intro sM
  refine' mints_L ?hh ?S ?hn ?F ?N ?hC ?hx ?hk ?hsr ?a1 ?a2 ?a3 ?a4 ?a5 ?a6 (fun k => Builtin.bitAnd (n.fdiv (2 ^ (8 * k).toNat)) 255) [1, 0] ?hlen ?hP ?el ?fin
  case hh => exact rfl
  case S => assumption
  case hn => exact Nat.le_of_ble_eq_true rfl
  case F => k_asm
  case N => k_asm
  case hC => assumption
  case hx => exact rfl
  case hk => exact rfl
  case hsr => exact fun h F N => srcIn_nil
  case a1 => k_ne
  case a2 => k_ne
  case a3 => k_ne
  case a4 => k_all
  case a5 => k_all
  case a6 => k_all
  case hlen => exact rfl
  case hP => exact rng_at (by decide)
  case el =>
    intro k t h tk oC' oI' vs c E' hm F1 N1 hC1
    have hk0 : 0 ≤ k ∧ k < 8 := (by decide : ∀ k ∈ ([1, 0] : List Int), 0 ≤ k ∧ k < 8) k hm
    k_steps
    all_goals exact endI_ rfl (by k_asm) (by k_asm)
  case fin =>
    intro h tk oC' oN vs c F1 N1 hC1 hv
    (try dsimp only)
    k_steps
    all_goals (
      refine' fin_ (s := s) (small := []) hret ?H ?F' ?F ?N ?S ?R
      case H => k_asm
      case F' => k_asm
      case F => k_asm
      case N => k_asm
      case S => repeat' (first | exact Sub.refl | refine' Sub.keep ?_ | refine' Sub.skip ?_ | exact Sub.nil)
      case R => exact ⟨⟨_, _, rfl, by rename KBw.bInts _ = _ => hb; exact hb.trans (by simp [be2, be4, be6, fdv, fmv, bitAnd_m8])⟩, rfl⟩)
set_option maxHeartbeats 8000000 in
theorem c_num1 (w : World) (n : Int) (t u : Tok) (h0 : 0 ≤ n) (h1 : n < 256) : Tell w 243 [.int n t, .int 1 u] 5 100 [] (RetV (IsB ([n % 256])) []) := by
  unfold Tell
  intro mean mg mb dp un gd cn cs a ccd cl outer A₀ base h₀ L m s Q E B F X N T hk hd hu hret
  refine wpAny_call ?_
  k_dflt cell_enter
  k_steps
  refine Dbg.mk ?_
  refine letML ?_
  intro sM
  refine' mints_L ?hh ?S ?hn ?F ?N ?hC ?hx ?hk ?hsr ?a1 ?a2 ?a3 ?a4 ?a5 ?a6 (fun k => Builtin.bitAnd (n.fdiv (2 ^ (8 * k).toNat)) 255) [0] ?hlen ?hP ?el ?fin
  case hh => exact rfl
  case S => assumption
  case hn => exact Nat.le_of_ble_eq_true rfl
  case F => k_asm
  case N => k_asm
  case hC => assumption
  case hx => exact rfl
  case hk => exact rfl
  case hsr => exact fun h F N => srcIn_nil
  case a1 => k_ne
  case a2 => k_ne
  case a3 => k_ne
  case a4 => k_all
  case a5 => k_all
  case a6 => k_all
  case hlen => exact rfl
  case hP => exact rng_at (by decide)
  case el =>
    intro k t h tk oC' oI' vs c E' hm F1 N1 hC1
    have hk0 : 0 ≤ k ∧ k < 8 := (by decide : ∀ k ∈ ([0] : List Int), 0 ≤ k ∧ k < 8) k hm
    k_steps
    all_goals exact endI_ rfl (by k_asm) (by k_asm)
  case fin =>
    intro h tk oC' oN vs c F1 N1 hC1 hv
    (try dsimp only)
    k_steps
    all_goals (
      refine' fin_ (s := s) (small := []) hret ?H ?F' ?F ?N ?S ?R
      case H => k_asm
      case F' => k_asm
      case F => k_asm
      case N => k_asm
      case S => repeat' (first | exact Sub.refl | refine' Sub.keep ?_ | refine' Sub.skip ?_ | exact Sub.nil)
      case R => exact ⟨⟨_, _, rfl, by rename KBw.bInts _ = _ => hb; exact hb.trans (by simp [be2, be4, be6, fdv, fmv, bitAnd_m8])⟩, rfl⟩)
set_option maxHeartbeats 8000000 in
theorem c_num4 (w : World) (n : Int) (t u : Tok) (h0 : 0 ≤ n) (h1 : n < 4294967296) : Tell w 243 [.int n t, .int 4 u] 5 100 [] (RetV (IsB (be4 n)) []) := by
  unfold Tell
  intro mean mg mb dp un gd cn cs a ccd cl outer A₀ base h₀ L m s Q E B F X N T hk hd hu hret
  refine wpAny_call ?_
  k_dflt cell_enter
  k_steps
  refine Dbg.mk ?_
  refine letML ?_
  intro sM
  refine' mints_L ?hh ?S ?hn ?F ?N ?hC ?hx ?hk ?hsr ?a1 ?a2 ?a3 ?a4 ?a5 ?a6 (fun k => Builtin.bitAnd (n.fdiv (2 ^ (8 * k).toNat)) 255) [3, 2, 1, 0] ?hlen ?hP ?el ?fin
  case hh => exact rfl
  case S => assumption
  case hn => exact Nat.le_of_ble_eq_true rfl
  case F => k_asm
  case N => k_asm
  case hC => assumption
  case hx => exact rfl
  case hk => exact rfl
  case hsr => exact fun h F N => srcIn_nil
  case a1 => k_ne
  case a2 => k_ne
  case a3 => k_ne
  case a4 => k_all
  case a5 => k_all
  case a6 => k_all
  case hlen => exact rfl
  case hP => exact rng_at (by decide)
  case el =>
    intro k t h tk oC' oI' vs c E' hm F1 N1 hC1
    have hk0 : 0 ≤ k ∧ k < 8 := (by decide : ∀ k ∈ ([3, 2, 1, 0] : List Int), 0 ≤ k ∧ k < 8) k hm
    k_steps
    all_goals exact endI_ rfl (by k_asm) (by k_asm)
  case fin =>
    intro h tk oC' oN vs c F1 N1 hC1 hv
    (try dsimp only)
    k_steps
    all_goals (
      refine' fin_ (s := s) (small := []) hret ?H ?F' ?F ?N ?S ?R
      case H => k_asm
      case F' => k_asm
      case F => k_asm
      case N => k_asm
      case S => repeat' (first | exact Sub.refl | refine' Sub.keep ?_ | refine' Sub.skip ?_ | exact Sub.nil)
      case R => exact ⟨⟨_, _, rfl, by rename KBw.bInts _ = _ => hb; exact hb.trans (by simp [be2, be4, be6, fdv, fmv, bitAnd_m8])⟩, rfl⟩)
set_option maxHeartbeats 8000000 in
theorem c_num6 (w : World) (n : Int) (t u : Tok) (h0 : 0 ≤ n) (h1 : n < 281474976710656) : Tell w 243 [.int n t, .int 6 u] 5 100 [] (RetV (IsB (be6 n)) []) := by
  unfold Tell
  intro mean mg mb dp un gd cn cs a ccd cl outer A₀ base h₀ L m s Q E B F X N T hk hd hu hret
  refine wpAny_call ?_
  k_dflt cell_enter
  k_steps
  refine Dbg.mk ?_
  refine letML ?_
  intro sM
  refine' mints_L ?hh ?S ?hn ?F ?N ?hC ?hx ?hk ?hsr ?a1 ?a2 ?a3 ?a4 ?a5 ?a6 (fun k => Builtin.bitAnd (n.fdiv (2 ^ (8 * k).toNat)) 255) [5, 4, 3, 2, 1, 0] ?hlen ?hP ?el ?fin
  case hh => exact rfl
  case S => assumption
  case hn => exact Nat.le_of_ble_eq_true rfl
  case F => k_asm
  case N => k_asm
  case hC => assumption
  case hx => exact rfl
  case hk => exact rfl
  case hsr => exact fun h F N => srcIn_nil
  case a1 => k_ne
  case a2 => k_ne
  case a3 => k_ne
  case a4 => k_all
  case a5 => k_all
  case a6 => k_all
  case hlen => exact rfl
  case hP => exact rng_at (by decide)
  case el =>
    intro k t h tk oC' oI' vs c E' hm F1 N1 hC1
    have hk0 : 0 ≤ k ∧ k < 8 := (by decide : ∀ k ∈ ([5, 4, 3, 2, 1, 0] : List Int), 0 ≤ k ∧ k < 8) k hm
    k_steps
    all_goals exact endI_ rfl (by k_asm) (by k_asm)
  case fin =>
    intro h tk oC' oN vs c F1 N1 hC1 hv
    (try dsimp only)
    k_steps
    all_goals (
      refine' fin_ (s := s) (small := []) hret ?H ?F' ?F ?N ?S ?R
      case H => k_asm
      case F' => k_asm
      case F => k_asm
      case N => k_asm
      case S => repeat' (first | exact Sub.refl | refine' Sub.keep ?_ | refine' Sub.skip ?_ | exact Sub.nil)
      case R => exact ⟨⟨_, _, rfl, by rename KBw.bInts _ = _ => hb; exact hb.trans (by simp [be2, be4, be6, fdv, fmv, bitAnd_m8])⟩, rfl⟩)
end
theorem lines_p16bridge : True := by
  w_top off
  k_extra "S"
  k_extra "ld:pre"
  k_extra "ld:massign"
  k_extra "ld:bytes"
  k_extra "ld:be"
  k_extra "ld:num"
  trivial
section
set_option maxHeartbeats 8000000 in
theorem c_bridge (w : World) (a0 b0 : Int) (n : Nat) (t u : Tok) (q : Addr) (h0 : 0 ≤ a0) (h1 : a0 < 65536) (h2 : 0 ≤ b0) (h3 : b0 < 281474976710656) : Tell w 257 [.ref q] 15 300 [(q, { cls := .type "tuple", data := .seq #[.int a0 t, .int b0 u] n })] (RetV (IsB (be2 a0 ++ be6 b0)) [(q, { cls := .type "tuple", data := .seq #[.int a0 t, .int b0 u] n })]) := by
  unfold Tell
  intro mean mg mb dp un gd cn cs a ccd cl outer A₀ base h₀ L m s Q E B F X N T hk hd hu hret
  refine wpAny_call ?_
  k_dflt cell_enter
  k_steps
  all_goals (
    refine' fin_ (small := [(q, { cls := .type "tuple", data := .seq #[.int a0 t, .int b0 u] n })]) hret ?H ?F' ?F ?N ?S ?R
    case H => k_asm
    case F' => k_asm
    case F => k_asm
    case N => k_asm
    case S => repeat' (first | exact Sub.refl | refine' Sub.keep ?_ | refine' Sub.skip ?_ | exact Sub.nil)
    case R => exact ⟨⟨_, _, rfl, by assumption⟩, rfl⟩)
end
theorem lines_p16lbridge : True := by
  w_top off
  k_extra "S"
  k_extra "ld:pre"
  k_extra "ld:massign"
  k_extra "ld:bytes"
  k_extra "ld:be"
  k_extra "ld:four"
  k_extra "ld:o_lbridge"
  trivial
section
set_option maxHeartbeats 8000000 in
theorem c_lbridge (w : World) (a0 b0 : Int) (n : Nat) (t u : Tok) (q : Addr) (h0 : 0 ≤ a0) (h1 : a0 < 65536) (h2 : 0 ≤ b0) (h3 : b0 < 281474976710656) : Tell w 407 [.ref q] 8 200 [(q, { cls := .type "tuple", data := .seq #[.int a0 t, .int b0 u] n })] (RetV (IsB (be2 a0 ++ be6 b0)) [(q, { cls := .type "tuple", data := .seq #[.int a0 t, .int b0 u] n })]) := by
  unfold Tell
  intro mean mg mb dp un gd cn cs a ccd cl outer A₀ base h₀ L m s Q E B F X N T hk hd hu hret
  refine wpAny_call ?_
  k_dflt cell_enter
  k_steps
  refine Dbg.mk ?_
  refine letML ?_
  intro sM
  refine' mints_L ?hh ?S ?hn ?F ?N ?hC ?hx ?hk ?hsr ?a1 ?a2 ?a3 ?a4 ?a5 ?a6 (fun k => (b0.fdiv (256 ^ k.toNat)).fmod 256) [5, 4, 3, 2, 1, 0] ?hlen ?hP ?el ?fin
  case hh => exact rfl
  case S => assumption
  case hn => exact Nat.le_of_ble_eq_true rfl
  case F => k_asm
  case N => k_asm
  case hC => assumption
  case hx => exact rfl
  case hk => exact rfl
  case hsr => exact fun h F N => srcIn_news N (by k_mem)
  case a1 => k_ne
  case a2 => k_ne
  case a3 => k_ne
  case a4 => k_all
  case a5 => k_all
  case a6 => k_all
  case hlen => exact rfl
  case hP => exact fun i v _ h => ints_at9 (by repeat' constructor) i v h
  case el =>
    intro k t h tk oC' oI' vs c E' hm F1 N1 hC1
    have hk0 : 0 ≤ k ∧ k < 8 := (by decide : ∀ k ∈ ([5, 4, 3, 2, 1, 0] : List Int), 0 ≤ k ∧ k < 8) k hm
    k_steps
    all_goals exact endI_ rfl (by k_asm) (by k_asm)
  case fin =>
    intro h tk oC' oN vs c F1 N1 hC1 hv
    (try dsimp only)
    k_steps
    all_goals (
      refine' fin_ (s := s) (small := [(q, { cls := .type "tuple", data := .seq #[.int a0 t, .int b0 u] n })]) hret ?H ?F' ?F ?N ?S ?R
      case H => k_asm
      case F' => k_asm
      case F => k_asm
      case N => k_asm
      case S => repeat' (first | exact Sub.refl | refine' Sub.keep ?_ | refine' Sub.skip ?_ | exact Sub.nil)
      case R => exact ⟨⟨_, _, rfl, by rename KBw.bInts _ = _ => hb; exact hb.trans (by simp [be2, be4, be6, fdv, fmv, bitAnd_m8]; try omega)⟩, rfl⟩)
end
theorem lines_p16onum : True := by
  w_top off
  k_extra "S"
  k_extra "ld:pre"
  k_extra "ld:massign"
  k_extra "ld:bytes"
  k_extra "ld:be"
  k_extra "ld:bits"
  trivial
section
set_option maxHeartbeats 8000000 in
theorem c_onum2 (w : World) (x0 x1 : Int) (b : Array UInt8) (t : Tok) (hb : KBw.bInts b = [x0, x1]) : Tell w 250 [.bytes b t] 5 100 [] (RetV (IsI (ob2 x0 x1)) []) := by
  unfold Tell
  intro mean mg mb dp un gd cn cs a ccd cl outer A₀ base h₀ L m s Q E B F X N T hk hd hu hret
  have ho := octs_of hb
  simp only [Octs, and_true] at ho
  have p0 := ho.1
  have p1 := ho.2
  clear ho
  refine wpAny_call ?_
  k_dflt cell_enter
  k_steps
  all_goals (
    refine' fin_ (small := []) hret ?H ?F' ?F ?N ?S ?R
    case H => k_asm
    case F' => k_asm
    case F => k_asm
    case N => k_asm
    case S => repeat' (first | exact Sub.refl | refine' Sub.keep ?_ | refine' Sub.skip ?_ | exact Sub.nil)
    case R => exact ⟨⟨_, congrArg (Value.int · _) (by unfold ob2; rw [Int.zero_mul, Int.zero_add])⟩, rfl⟩)
set_option maxHeartbeats 8000000 in
theorem c_onum4 (w : World) (x0 x1 x2 x3 : Int) (b : Array UInt8) (t : Tok) (hb : KBw.bInts b = [x0, x1, x2, x3]) : Tell w 250 [.bytes b t] 5 100 [] (RetV (IsI (ob4 x0 x1 x2 x3)) []) := by
  unfold Tell
  intro mean mg mb dp un gd cn cs a ccd cl outer A₀ base h₀ L m s Q E B F X N T hk hd hu hret
  have ho := octs_of hb
  simp only [Octs, and_true] at ho
  have p0 := ho.1
  have p1 := ho.2.1
  have p2 := ho.2.2.1
  have p3 := ho.2.2.2
  clear ho
  refine wpAny_call ?_
  k_dflt cell_enter
  k_steps
  all_goals (
    refine' fin_ (small := []) hret ?H ?F' ?F ?N ?S ?R
    case H => k_asm
    case F' => k_asm
    case F => k_asm
    case N => k_asm
    case S => repeat' (first | exact Sub.refl | refine' Sub.keep ?_ | refine' Sub.skip ?_ | exact Sub.nil)
    case R => exact ⟨⟨_, congrArg (Value.int · _) (by unfold ob4; rw [Int.zero_mul, Int.zero_add])⟩, rfl⟩)
set_option maxHeartbeats 8000000 in
theorem c_onum6 (w : World) (x0 x1 x2 x3 x4 x5 : Int) (b : Array UInt8) (t : Tok) (hb : KBw.bInts b = [x0, x1, x2, x3, x4, x5]) : Tell w 250 [.bytes b t] 5 100 [] (RetV (IsI (ob6 x0 x1 x2 x3 x4 x5)) []) := by
  unfold Tell
  intro mean mg mb dp un gd cn cs a ccd cl outer A₀ base h₀ L m s Q E B F X N T hk hd hu hret
  have ho := octs_of hb
  simp only [Octs, and_true] at ho
  have p0 := ho.1
  have p1 := ho.2.1
  have p2 := ho.2.2.1
  have p3 := ho.2.2.2.1
  have p4 := ho.2.2.2.2.1
  have p5 := ho.2.2.2.2.2
  clear ho
  refine wpAny_call ?_
  k_dflt cell_enter
  k_steps
  all_goals (
    refine' fin_ (small := []) hret ?H ?F' ?F ?N ?S ?R
    case H => k_asm
    case F' => k_asm
    case F => k_asm
    case N => k_asm
    case S => repeat' (first | exact Sub.refl | refine' Sub.keep ?_ | refine' Sub.skip ?_ | exact Sub.nil)
    case R => exact ⟨⟨_, congrArg (Value.int · _) (by unfold ob6; rw [Int.zero_mul, Int.zero_add])⟩, rfl⟩)
end
theorem lines_p16put16 : True := by
  w_top off
  k_extra "S"
  k_extra "ld:pre"
  k_extra "ld:massign"
  k_extra "ld:bytes"
  k_extra "ld:be"
  trivial
section
set_option maxHeartbeats 8000000 in
theorem c_put16 (w : World) (n : Int) (t : Tok) (h0 : 0 ≤ n) (h1 : n < 65536) : Tell w 152 [.int n t] 8 200 [] (RetV (IsB (be2 n)) []) := by
  unfold Tell
  intro mean mg mb dp un gd cn cs a ccd cl outer A₀ base h₀ L m s Q E B F X N T hk hd hu hret
  refine wpAny_call ?_
  k_dflt cell_enter
  k_steps
  all_goals (
    refine' fin_ (small := []) hret ?H ?F' ?F ?N ?S ?R
    case H => k_asm
    case F' => k_asm
    case F => k_asm
    case N => k_asm
    case S => repeat' (first | exact Sub.refl | refine' Sub.keep ?_ | refine' Sub.skip ?_ | exact Sub.nil)
    case R => exact ⟨⟨_, _, rfl, by rename KBw.bInts _ = _ => hb; exact hb.trans (by simp [be2, be4, be6, fdv, fmv, bitAnd_m8])⟩, rfl⟩)
end
theorem lines_p17rbridge : True := by
  w_top off
  k_extra "S"
  k_extra "ld:pre"
  k_extra "ld:massign"
  k_extra "ld:bytes"
  k_extra "ld:be"
  k_extra "ld:bits"
  k_extra "ld:onum"
  trivial
section
inductive Ret_rbridge (x0 x1 x2 x3 x4 x5 x6 x7 : Int) (v : Value) (new : List (Addr × Obj)) : Prop
  | mk : ∀ (q : Addr) (n : Nat) (t1 t2 : Tok), (v = .ref q) → (new = [(q, ({ cls := .type "tuple", data := .seq #[.int (ob2 x0 x1) t1, .int (ob6 x2 x3 x4 x5 x6 x7) t2] n } : Obj))]) → (Aps q ([] ++ [])) → Ret_rbridge x0 x1 x2 x3 x4 x5 x6 x7 v new
set_option maxHeartbeats 8000000 in
theorem c_rbridge (w : World) (x0 x1 x2 x3 x4 x5 x6 x7 : Int) (b : Array UInt8) (t : Tok) (hb : KBw.bInts b = [x0, x1, x2, x3, x4, x5, x6, x7]) : TellN w (.ref 264) [.bytes b t] 12 300 [] (fun v news' => ∃ new, Ret_rbridge x0 x1 x2 x3 x4 x5 x6 x7 v new ∧ news' = new ++ []) := by
  unfold TellN
  intro mean mg mb dp un gd cn cs a ccd cl outer A₀ base h₀ L m s Q E B F X N T hk hd hu hret
  have ho := octs_of hb
  simp only [Octs, and_true] at ho
  refine wpAny_call ?_
  k_dflt cell_enter
  k_steps
  all_goals (
    refine' finN (small := [(_, _)]) hret ?H ?F' ?F ?N ?NG ?S ?R
    case H => k_asm
    case F' => k_asm
    case F => k_asm
    case N => k_asm
    case NG => k_asm
    case S => repeat' (first | exact Sub.refl | refine' Sub.keep ?_ | refine' Sub.skip ?_ | exact Sub.nil)
    case R => (exact ⟨_, ⟨_, _, _, _, rfl, rfl, Aps.n⟩, rfl⟩))
theorem use_rbridge {w : World} {full : List (Addr × Obj)} (x0 x1 x2 x3 x4 x5 x6 x7 : Int) (b : Array UInt8) (t : Tok) (hb : KBw.bInts b = [x0, x1, x2, x3, x4, x5, x6, x7]) (hp : ∀ p ∈ ([] : List (Addr × Obj)), p ∈ full) {mean : ExcName → Option Value} {mg mb : Str → Option Value} {dp un : Nat} {gd : Option (List Code)} {cn : Str} {cs : Scope} {a : Addr} {ccd : Value} {cl : List (Str × Addr)} {outer : List Env} {A₀ : Around} {base h₀ : Heap} {L : Addr} {m : Str → Option Value} {s0 : Heap} {s1 : Array GenState} {s2 : Drawn} {s3 : Nat} {s4 : OsState} {Q E : Value → Shared → Prop}
    (B : Below A₀ base outer h₀) (F : Fr h₀ L s0 m) (X : (Mine.hd.heap_39 w.params).In h₀) (N : News h₀ L s0 full) (T : Top topProg loose mean mg mb h₀) (hk : cs.kind = .function) (hd : dp + 12 < recursionLimit) (hu : un + 300 < cLine)
    (h : ∀ (q : Addr) (n : Nat) (t1 t2 : Tok)  (h' : Heap) (tk' : Nat), Aps q ([] ++ full.map (·.1)) → let ob0 : Obj := { cls := .type "tuple", data := .seq #[.int (ob2 x0 x1) t1, .int (ob6 x2 x3 x4 x5 x6 x7) t2] n }; Fr h₀ L h' m → News h₀ L h' ((q, ob0) :: full) → Q (.ref q) (Shared.mk h' s1 s2 tk' s4)) :
    wpAny (model PySem.Challenge.pw_pc0377_01 w) (ktrTop dp un gd cn cs L a ccd cl outer) (call (.ref 264) [.bytes b t]) Q E (Shared.mk s0 s1 s2 s3 s4) := by
  refine (c_rbridge w x0 x1 x2 x3 x4 x5 x6 x7 b t hb).read hp B F X N T hk hd hu fun v h' tk' new hP hA F' N' => ?_
  obtain ⟨q, n, t1, t2, rfl, rfl, g0⟩ := hP
  exact h q n t1 t2  h' tk'  (g0.join (part := []) rfl (hA _ (.head _)))  F' N'
end
theorem lines_p18role : True := by
  w_top off
  k_extra "S"
  k_extra "ld:pre"
  k_extra "ld:massign"
  k_extra "ld:bytes"
  k_extra "ld:be"
  k_extra "ld:bits"
  k_extra "ld:item"
  trivial
section
noncomputable def roleL : List Str := [Str.ofString "master", Str.ofString "alternate", Str.ofString "root", Str.ofString "designated"]
section
variable {prog : Program} {w : World} {A : Around} {E : Value → Shared → Prop} {s : Shared} {value slice : PySem.Expr} {u t : Tok} {Q : Value → Shared → Prop} {i x : Int} {K : Frag} {h₀ : Heap} {L a : Addr} {m : Str → Option Value} {vs : List Value} {n : Nat}
/- a role at a place that is not written -/
theorem item_role (F : Fr h₀ L s.heap m) (X : K.In h₀) (hl : K.lookup a = some ⟨.type "tuple", none, .seq vs.toArray n, #[]⟩) (hw : StrsAre vs roleL) (h0 : 0 ≤ i) (h1 : i < 4)
    (h : ∀ t', Q (.str (roleL.getD i.toNat Str.empty) t') s)
    (hs : subscripted slice false (.ref a) (.int i u) = operate [.ref a, .int i u] (getItem (.ref a) (.int i u)) := by with_unfolding_all rfl) :
    wpAny (model prog w) A (subscriptTail value slice (.ref a) (.int i u)) Q E s := by
  have hlt : i.toNat < roleL.length := by show i.toNat < 4; lia
  obtain ⟨t', e⟩ := hw.get i.toNat (roleL.getD i.toNat Str.empty) (by rw [List.getD_eq_getElem?_getD, List.getElem?_eq_getElem hlt]; rfl)
  have ht : IsTup s.heap a vs.toArray := isTup_base F X hl
  have hn : i < ((vs.toArray.size : Nat) : Int) := by rw [List.size_toArray, hw.length]; exact h1
  exact tail_any ht.typeIs slot_tuple_getitem.lookup (getItem_tuple ht (by lia) (by lia) (seqIndex_of h0 hn) (x := .str _ t') (by simpa using e) (h t')) hs
theorem bitAnd_240 (h0 : 0 ≤ x) (h1 : x < 256) : Builtin.bitAnd x 240 = x / 16 * 16 := by
  have key : ∀ n : Fin 256, Builtin.bitAnd ((n.val : Nat) : Int) 240 = ((n.val : Nat) : Int) / 16 * 16 := by decide +kernel
  have := key ⟨x.toNat, by lia⟩
  have e : ((x.toNat : Nat) : Int) = x := Int.toNat_of_nonneg h0
  simp only [e] at this
  exact this
theorem and240 (hx : 0 ≤ x ∧ x < 256) (h : Q (.int (x / 16 * 16) s.toks) { s with toks := s.toks + 1 }) : wpAny (model prog w) A (binaryOp .BitAnd (.int x t) (.int 240 u)) Q E s :=
  and_int (by rw [bitAnd_240 hx.1 hx.2]; exact h)
theorem bitAnd_4095 (h0 : 0 ≤ x) : Builtin.bitAnd x 4095 = x % 4096 := by
  obtain ⟨x, rfl⟩ := Int.eq_ofNat_of_zero_le h0
  show ((x &&& (2 ^ 12 - 1) : Nat) : Int) = ((x % 4096 : Nat) : Int)
  rw [Nat.and_two_pow_sub_one_eq_mod]
theorem and4095 (hx : 0 ≤ x) (h : Q (.int (x % 4096) s.toks) { s with toks := s.toks + 1 }) : wpAny (model prog w) A (binaryOp .BitAnd (.int x t) (.int 4095 u)) Q E s :=
  and_int (by rw [bitAnd_4095 hx]; exact h)
theorem nab {y : Int} (h0 : 0 ≤ y) (h1 : y < 256) : y.natAbs < 2 ^ 64 := by
  obtain ⟨n, rfl⟩ := Int.eq_ofNat_of_zero_le h0
  exact Nat.lt_trans (Int.ofNat_lt.mp h1) (by decide)
theorem shl8m (h0 : 0 ≤ x ∧ x < 256) (h : Q (.int (x / 16 * 4096) s.toks) { s with toks := s.toks + 1 }) : wpAny (model prog w) A (binaryOp .LShift (.int (x / 16 * 16) t) (.int 8 u)) Q E s :=
  have e : x / 16 * 16 * 256 = x / 16 * 4096 := Int.mul_assoc _ 16 256
  lshift_int_small (by decide) (by decide) (nab (Int.mul_nonneg (Int.ediv_nonneg h0.1 (by decide)) (by decide)) (Int.mul_lt_mul_of_pos_right (b := 16) (Int.ediv_lt_of_lt_mul (by decide : (0:Int) < 16) (h0.2 : x < 16 * 16)) (by decide : (0:Int) < 16))) (by
    rw [show (2 : Int) ^ Int.toNat 8 = 256 from by decide, e]; exact h)
end
theorem ob2_lo {a b : Int} (ha : 0 ≤ a ∧ a < 256) (hb : 0 ≤ b ∧ b < 256) : 0 ≤ ob2 a b := by unfold ob2; lia
theorem tuple_index (l : Addr) (items : Array Value) (n : Nat) (dd : Option Addr) (sl : Array (Option Value)) (x : Value) (e : Value → Bool) (he : ∀ y, y ∈ items → MeetsSeq.EqGives y x (e y)) (j : Nat) (hj : j < items.size)
    (hit : e items[j] = true) (hno : ∀ m (hm : m < items.size), m < j → e items[m] = false) :
    Meets (Builtin.«tuple.index» ⟨[.ref l, x], []⟩)
      (fun _ R s => s.heap.get? l = some { cls := .type "tuple", dict := dd, data := .seq items n, slots := sl } ∧ R (.ok (.ret (.int j s.toks))) { s with toks := s.toks + 1 }) := by
  intro prog w A R s h
  obtain ⟨hp, g, d, tk, os⟩ := s; obtain ⟨hl, h⟩ := h
  unfold Builtin.«tuple.index»
  simp only [Std.Legacy.Range.forIn_eq_forIn_range', Std.Legacy.Range.size, Nat.add_sub_cancel, Nat.div_one]
  have hl' : hp.get? l = _ := hl
  repeat (first | (with_reducible refine wpAny_loadPart' hl ?_) | walk_at "wpstep")
  show wpAny _ _ (forIn (List.range' 0 (min items.size items.size - 0)) (none, ()) _) _ _ _
  refine wpAny_mono (wpAny_forIn_list _ (fun r b s' => s' = (⟨hp, g, d, tk, os⟩ : Shared) ∧ b = (none, ()) ∧ ∃ i, i ≤ j ∧ r = List.range' i (items.size - i)) (fun b s' => b = (some (PySem.Fin.done (.ret (Value.int (j : Int) tk))), ()) ∧ s' = (⟨hp, g, d, tk + 1, os⟩ : Shared)) (fun i rest b s' hI => ?_) (fun b s' hI => ?_) (List.range' 0 (min items.size items.size - 0)) _ ⟨rfl, rfl, 0, Nat.zero_le _, by rw [Nat.min_self]⟩) (fun b s' hb => ?_) (fun _ _ x => x)
  · obtain ⟨rfl, rfl, k, hk, hr⟩ := hI
    have hkz : items.size - k = items.size - (k + 1) + 1 := (Nat.sub_add_cancel (Nat.sub_pos_of_lt (Nat.lt_of_le_of_lt hk hj))).symm
    rw [hkz, List.range'_succ] at hr
    obtain ⟨rfl, rfl⟩ := List.cons.inj hr
    have hlt : i < items.size := by lia
    rw [Array.getElem?_eq_getElem hlt]
    dsimp only
    refine wpAny_bind (he _ (Array.getElem_mem hlt) prog w _ _ _ _ ?_)
    by_cases hij : i = j
    · subst hij
      rw [hit]
      repeat walk_at "wpstep"
      exact ⟨rfl, rfl⟩
    · rw [hno i hlt (by lia)]
      repeat walk_at "wpstep"
      exact ⟨rfl, rfl, i + 1, by lia, rfl⟩
  · obtain ⟨_, _, k, hk, hr⟩ := hI
    have : items.size - k = 0 := by
      have := congrArg List.length hr
      simpa using this.symm
    lia
  · obtain ⟨rfl, rfl⟩ := hb
    exact wpAny_pure h
section
variable {prog : Program} {w : World} {A : Around} {E : Value → Shared → Prop} {s : Shared} {Q : Value → Shared → Prop} {p : Int} {K : Frag} {h₀ : Heap} {L a : Addr} {m : Str → Option Value} {vs : List Value} {n : Nat} {t : Tok}
theorem tup_method {its : Array Value} {name : Str} {id : String} {pl : Sem Bool} {Q : Value × List Value → Shared → Prop} (F : Fr h₀ L s.heap m) (X : K.In h₀) (hl : K.lookup a = some ⟨.type "tuple", none, .seq its n, #[]⟩) (slot : Slot "tuple" name id) (hty : typeOf (.builtin id) = pure (.type "method_descriptor"))
    (h : Q (.builtin id, [.ref a]) s) : wpAny (model prog w) A (getMethod (.ref a) name pl) Q E s :=
  have g := F.keep _ _ (X _ _ hl)
  getMethod_builtin ⟨_, g, rfl⟩ PySem.F.plainAttrs_tuple slot hty (fun b e => by cases e; exact ⟨_, g, rfl⟩) h
noncomputable def roleIs (x : Str) (v : Value) : Bool := match v with
  | .str z _ => z.cps.toList == x.cps.toList
  | _ => false
theorem roles_ne : ∀ i j : _root_.Fin 4, (((roleL.getD i.val Str.empty).cps.toList == (roleL.getD j.val Str.empty).cps.toList) = decide (i.val = j.val)) := by decide +kernel
theorem index_role (F : Fr h₀ L s.heap m) (X : K.In h₀) (hl : K.lookup a = some ⟨.type "tuple", none, .seq vs.toArray n, #[]⟩) (hw : StrsAre vs roleL) (h0 : 0 ≤ p) (h1 : p < 4)
    (h : Q (.int p s.toks) { s with toks := s.toks + 1 }) : wpAny (model prog w) A (call (.builtin "tuple.index") [.ref a, .str (roleL.getD p.toNat Str.empty) t]) Q E s := by
  have g := F.keep _ _ (X _ _ hl)
  have hlen : vs.length = 4 := hw.length
  have hsz : vs.toArray.size = 4 := by rw [List.size_toArray]; exact hlen
  have at_ : ∀ i (hi : i < vs.toArray.size), roleIs (roleL.getD p.toNat Str.empty) vs.toArray[i] = decide (i = p.toNat) := fun i hi => by
    obtain ⟨t', e⟩ := hw.get i (roleL.getD i Str.empty) (by rw [List.getD_eq_getElem?_getD, List.getElem?_eq_getElem (show i < roleL.length by show i < 4; lia)]; rfl)
    have e2 : vs.toArray[i] = .str (roleL.getD i Str.empty) t' := by
      have := Array.getElem?_eq_getElem hi
      rw [List.getElem?_toArray, e] at this
      exact (Option.some.inj this).symm
    rw [e2]
    exact roles_ne ⟨i, by lia⟩ ⟨p.toNat, by lia⟩
  refine call_meets PySem.F.slot_tuple_index ⟨_, g, rfl⟩ PySem.F.entry_tuple_index (PySem.F.args_tuple_index_2 _ _)
    (tuple_index a vs.toArray n none #[] _ (roleIs (roleL.getD p.toNat Str.empty)) (fun y hy => ?_) p.toNat (by lia) (by rw [at_ _ (by lia)]; simp) (fun i hi hlt => by rw [at_ i hi]; exact decide_eq_false (by lia))) ⟨g, ?_⟩
  · obtain ⟨i, hi, rfl⟩ := Array.mem_iff_getElem.mp hy
    obtain ⟨t', e⟩ := hw.get i (roleL.getD i Str.empty) (by rw [List.getD_eq_getElem?_getD, List.getElem?_eq_getElem (show i < roleL.length by show i < 4; lia)]; rfl)
    have e2 : vs.toArray[i] = .str (roleL.getD i Str.empty) t' := by
      have := Array.getElem?_eq_getElem hi
      rw [List.getElem?_toArray, e] at this
      exact (Option.some.inj this).symm
    rw [e2]
    exact SeqRoads2.EqGives.str _ _ _ _
  · have e : ((p.toNat : Nat) : Int) = p := Int.toNat_of_nonneg h0
    rw [e]
    exact h
end
theorem shr8 {prog : Program} {w : World} {A : Around} {E : Value → Shared → Prop} {s : Shared} {Q : Value → Shared → Prop} {x : Int} {t u : Tok} (h : Q (.int (x / 256) s.toks) { s with toks := s.toks + 1 }) : wpAny (model prog w) A (binaryOp .RShift (.int x t) (.int 8 u)) Q E s :=
  rshift_int (by decide) (by rw [show (2 : Int) ^ Int.toNat 8 = 256 from by decide, Int.fdiv_eq_ediv_of_nonneg _ (by decide)]; exact h)
theorem powK {prog : Program} {w : World} {A : Around} {E : Value → Shared → Prop} {s : Shared} {Q : Value → Shared → Prop} {a n r : Int} {t u : Tok} (hn : 0 ≤ n) (hn2 : n ≤ 1000000) (ha : a.natAbs < 2 ^ 64) (hr : a ^ n.toNat = r) (h : Q (.int r s.toks) { s with toks := s.toks + 1 }) : wpAny (model prog w) A (binaryOp .Pow (.int a t) (.int n u)) Q E s :=
  pow_int_small hn hn2 ha (by rw [hr]; exact h)
theorem item_roleL {prog : Program} {w : World} {A : Around} {E : Value → Shared → Prop} {s : Shared} {value slice : PySem.Expr} {u : Tok} {Q : Value → Shared → Prop} {i : Int} {h₀ : Heap} {L a : Addr} {news : List (Addr × Obj)} {vs : List Value} {n : Nat}
    (N : News h₀ L s.heap news) (hm : (a, listOf vs.toArray n) ∈ news) (hw : StrsAre vs roleL) (h0 : 0 ≤ i) (h1 : i < 4) (h : ∀ t', Q (.str (roleL.getD i.toNat Str.empty) t') s)
    (hs : subscripted slice false (.ref a) (.int i u) = operate [.ref a, .int i u] (getItem (.ref a) (.int i u)) := by with_unfolding_all rfl) :
    wpAny (model prog w) A (subscriptTail value slice (.ref a) (.int i u)) Q E s :=
  KTb.item_list (ws := roleL) ⟨_, N.get hm, rfl, _, rfl⟩ hw h0 h1 (by lia) (fun t' _ => h t') hs
end
theorem lines_p20rowd : True := by
  w_top off
  k_extra "S"
  k_extra "ld:pre"
  k_extra "ld:massign"
  k_extra "ld:bytes"
  k_extra "ld:be"
  k_extra "ld:bits"
  k_extra "ld:role"
  trivial
section
noncomputable abbrev ent (w : World) (x : String) (t : Tok) (v : Value) : DictEntry := ⟨PyData.keyHash w.params (Str.ofString x), .str (Str.ofString x) t, v⟩
noncomputable abbrev tup2 (a b : Value) (n : Nat) : Obj := { cls := .type "tuple", data := .seq #[a, b] n }
noncomputable abbrev rowEs (w : World) (inst : Int) (q : Addr) (cost own port hops : Int) (role : Str) (f : Addr) (τ : Nat → Tok) : List DictEntry :=
  [ent w "instance" (τ 0) (.int inst (τ 1)), ent w "regional" (τ 2) (.ref q), ent w "cost" (τ 3) (.int cost (τ 4)), ent w "bridge_priority" (τ 5) (.int own (τ 6)), ent w "port_priority" (τ 7) (.int port (τ 8)),
   ent w "hops" (τ 9) (.int hops (τ 10)), ent w "role" (τ 11) (.str role (τ 12)), ent w "flags" (τ 13) (.ref f)]
noncomputable def tk14 (a b c d e f g h i j k l m n : Tok) : Nat → Tok
  | 0 => a | 1 => b | 2 => c | 3 => d | 4 => e | 5 => f | 6 => g | 7 => h | 8 => i | 9 => j | 10 => k | 11 => l | 12 => m | _ => n
noncomputable def flagsL (f1 f2 f3 f4 f5 : Bool) : List (Str × Value) := [(Str.ofString "change", .bool f1), (Str.ofString "proposal", .bool f2), (Str.ofString "learning", .bool f3), (Str.ofString "forwarding", .bool f4), (Str.ofString "agreement", .bool f5)]
/- a row of a tail as drawn -/
structure RowD where
  (inst nib mac cost own port hops place : Int)
  (f1 f2 f3 f4 f5 : Bool)
structure RowOk (D : RowD) : Prop where
  inst : 0 ≤ D.inst ∧ D.inst < 4096
  nib : 0 ≤ D.nib ∧ D.nib < 16
  mac : 0 ≤ D.mac ∧ D.mac < 281474976710656
  cost : 0 ≤ D.cost ∧ D.cost < 4294967296
  own : 0 ≤ D.own ∧ D.own < 16
  port : 0 ≤ D.port ∧ D.port < 16
  hops : 0 ≤ D.hops ∧ D.hops < 256
  place : 0 ≤ D.place ∧ D.place < 4
noncomputable def b2 (f : Bool) (k : Int) : Int := match f with | true => k | false => 0
noncomputable def rowBits (D : RowD) : Int := 4 * D.place + (b2 D.f1 1 + b2 D.f2 2 + b2 D.f3 16 + b2 D.f4 32 + b2 D.f5 64)
noncomputable def regP (D : RowD) : Int := 4096 * D.nib + D.inst
noncomputable def rowOcts (D : RowD) : List Int := [rowBits D] ++ (be2 (regP D) ++ be6 D.mac) ++ be4 D.cost ++ [16 * D.own, 16 * D.port, D.hops]
theorem bits_tab : ∀ p : Fin 4, ∀ f1 f2 f3 f4 f5 : Bool,
    let x : Int := 4 * ((p.val : Nat) : Int) + (b2 f1 1 + b2 f2 2 + b2 f3 16 + b2 f4 32 + b2 f5 64)
    (Builtin.bitAnd x 1 != 0) = f1 ∧ (Builtin.bitAnd x 2 != 0) = f2 ∧ (Builtin.bitAnd x 16 != 0) = f3 ∧ (Builtin.bitAnd x 32 != 0) = f4 ∧ (Builtin.bitAnd x 64 != 0) = f5 ∧ Builtin.bitAnd (x.fdiv (2 ^ Int.toNat 2)) 3 = ((p.val : Nat) : Int) ∧ 0 ≤ x ∧ x < 128 := by
  decide +kernel
theorem bits_D {D : RowD} (ok : RowOk D) : (Builtin.bitAnd (rowBits D) 1 != 0) = D.f1 ∧ (Builtin.bitAnd (rowBits D) 2 != 0) = D.f2 ∧ (Builtin.bitAnd (rowBits D) 16 != 0) = D.f3 ∧ (Builtin.bitAnd (rowBits D) 32 != 0) = D.f4 ∧ (Builtin.bitAnd (rowBits D) 64 != 0) = D.f5 ∧ Builtin.bitAnd ((rowBits D).fdiv (2 ^ Int.toNat 2)) 3 = D.place ∧ 0 ≤ rowBits D ∧ rowBits D < 128 := by
  have hp := ok.place
  have key := bits_tab ⟨D.place.toNat, by lia⟩ D.f1 D.f2 D.f3 D.f4 D.f5
  have e : ((D.place.toNat : Nat) : Int) = D.place := Int.toNat_of_nonneg hp.1
  simp only [e] at key
  exact key
theorem TellN.weaken {w : World} {f : Value} {vs : List Value} {d u : Nat} {news : List (Addr × Obj)} {R R' : Value → List (Addr × Obj) → Prop} (C : TellN w f vs d u news R) (h : ∀ v n, R v n → R' v n) : TellN w f vs d u news R' := by
  unfold TellN at C ⊢
  intro mean mg mb dp un gd cn cs a ccd cl outer A₀ base h₀ L m s Q E B F X N T hk hd hu hret
  exact C _ _ _ _ _ _ _ _ _ _ _ _ _ _ _ _ _ _ _ _ B F X N T hk hd hu fun v h' tk' news' r => hret v h' tk' news' (h _ _ r)
theorem regP_in {D : RowD} (ok : RowOk D) : 0 ≤ regP D ∧ regP D < 65536 := by
  obtain ⟨hi, hn, _⟩ := ok
  unfold regP
  lia
theorem b2_in (f : Bool) {k : Int} (h : 0 ≤ k) : 0 ≤ b2 f k ∧ b2 f k ≤ k := by cases f <;> simp [b2] <;> lia
theorem bits_sum (f1 f2 f3 f4 f5 : Bool) : 0 ≤ b2 f1 1 + b2 f2 2 + b2 f3 16 + b2 f4 32 + b2 f5 64 ∧ b2 f1 1 + b2 f2 2 + b2 f3 16 + b2 f4 32 + b2 f5 64 ≤ 115 :=
  have a := b2_in f1 (k := 1) (by decide); have b := b2_in f2 (k := 2) (by decide); have c := b2_in f3 (k := 16) (by decide); have d := b2_in f4 (k := 32) (by decide); have e := b2_in f5 (k := 64) (by decide)
  ⟨Int.add_nonneg (Int.add_nonneg (Int.add_nonneg (Int.add_nonneg a.1 b.1) c.1) d.1) e.1, Int.add_le_add (Int.add_le_add (Int.add_le_add (Int.add_le_add a.2 b.2) c.2) d.2) e.2⟩
theorem bits_mod {p S : Int} (hp : 0 ≤ p ∧ p < 4) (hS : 0 ≤ S ∧ S ≤ 115) : (4 * p + S) % 256 = 4 * p + S := Int.emod_eq_of_lt (by lia) (by lia)
theorem own_mod {o : Int} (h : 0 ≤ o ∧ o < 16) : 16 * o % 256 = 16 * o := Int.emod_eq_of_lt (by lia) (by lia)
theorem own_div {o : Int} : 4096 * o / 256 = 16 * o := by rw [show (4096 : Int) * o = 16 * o * 256 by rw [Int.mul_comm (16 * o), ← Int.mul_assoc]; rfl]; exact Int.mul_ediv_cancel _ (by decide)
theorem rowOcts_eq {D : RowD} (ok : RowOk D) : [(4 * D.place + (b2 D.f1 1 + b2 D.f2 2 + b2 D.f3 16 + b2 D.f4 32 + b2 D.f5 64)) % 256] ++ (be2 (regP D) ++ be6 D.mac) ++ be4 D.cost ++ [4096 * D.own / 256 % 256] ++ [16 * D.port % 256] ++ [D.hops % 256] = rowOcts D := by
  obtain ⟨_, _, _, _, ho, hp, hh, hpl⟩ := ok
  have e1 : (4 * D.place + (b2 D.f1 1 + b2 D.f2 2 + b2 D.f3 16 + b2 D.f4 32 + b2 D.f5 64)) % 256 = rowBits D := bits_mod hpl (bits_sum ..)
  have e2 : 4096 * D.own / 256 % 256 = 16 * D.own := by rw [own_div, own_mod ho]
  have e3 : 16 * D.port % 256 = 16 * D.port := own_mod hp
  have e4 : D.hops % 256 = D.hops := Int.emod_eq_of_lt hh.1 hh.2
  rw [e1, e2, e3, e4]
  unfold rowOcts
  simp only [List.append_assoc, List.cons_append, List.nil_append]
theorem rowOcts_eq2 (D : RowD) : rowOcts D = [4 * D.place + (b2 D.f1 1 + b2 D.f2 2 + b2 D.f3 16 + b2 D.f4 32 + b2 D.f5 64)] ++ (be2 (regP D) ++ be6 D.mac) ++ be4 D.cost ++ [(4096 * D.own).fdiv 256, 16 * D.port, D.hops] := by
  have e2 : (4096 * D.own).fdiv 256 = 16 * D.own := by rw [fdv (by decide), own_div]
  rw [e2]
  unfold rowOcts rowBits
  simp only [List.append_assoc, List.cons_append, List.nil_append]
end
theorem lines_p20rrbad : True := by
  w_top off
  k_extra "S"
  k_extra "ld:pre"
  k_extra "ld:exset"
  k_extra "ld:swinit"
  k_extra "ld:tellx"
  trivial
section

end
theorem lines_p20cflags : True := by
  w_top off
  k_extra "S"
  k_extra "ld:pre"
  k_extra "ld:massign"
  k_extra "ld:bytes"
  k_extra "ld:be"
  k_extra "ld:bits"
  k_extra "ld:role"
  trivial
section
noncomputable def flagNames : List (Str × Int) := [(Str.ofString "change", 1), (Str.ofString "proposal", 2), (Str.ofString "learning", 16), (Str.ofString "forwarding", 32), (Str.ofString "agreement", 64)]
/- the flags so far -/
noncomputable def flagsUp (bs : List Bool) : List (Str × Value) := (flagNames.zip bs).map fun p => (p.1.1, .bool p.2)
noncomputable def bitsUp (bs : List Bool) : List Int := (flagNames.zip bs).map fun p => b2 p.2 p.1.2
theorem flagsUp_len (bs : List Bool) : (flagsUp bs).length ≤ 1000 := by
  unfold flagsUp
  rw [List.length_map, List.length_zip]
  exact Nat.le_trans (Nat.min_le_left _ _) (by decide)
theorem flagsUp_step {bs : List Bool} {i : Nat} {x : Str} {k : Int} (h : bs.length = i) (e : flagNames[i]? = some (x, k)) (b : Bool) : stored (flagsUp bs) x (.bool b) = flagsUp (bs ++ [b]) := by
  match bs, h with
  | [], h => subst h; cases e; kernel_rfl
  | [b0], h => subst h; cases e; kernel_rfl
  | [b0, b1], h => subst h; cases e; kernel_rfl
  | [b0, b1, b2], h => subst h; cases e; kernel_rfl
  | [b0, b1, b2, b3], h => subst h; cases e; kernel_rfl
  | b0 :: b1 :: b2 :: b3 :: b4 :: bs, h => subst h; cases e
theorem flags5 {bs : List Bool} (h : bs.length = 5) : ∃ f1 f2 f3 f4 f5, bs = [f1, f2, f3, f4, f5] :=
  (len_s h).elim fun a k => k.elim fun t k => (len_s k.2).elim fun b l => l.elim fun u l => (len_s l.2).elim fun c m => m.elim fun v m => (len_s m.2).elim fun d n => n.elim fun x n => (len_s n.2).elim fun e o => o.elim fun z o =>
    ⟨a, b, c, d, e, k.1.trans (congrArg _ (l.1.trans (congrArg _ (m.1.trans (congrArg _ (n.1.trans (congrArg _ (o.1.trans (congrArg _ (List.eq_nil_of_length_eq_zero o.2))))))))))⟩
theorem flagsUp_at {f1 f2 f3 f4 f5 : Bool} {i : Nat} {x : Str} {k : Int} (e : flagNames[i]? = some (x, k)) : ∃ b, [f1, f2, f3, f4, f5][i]? = some b ∧ valueAt (flagsUp [f1, f2, f3, f4, f5]) x = some (.bool b) := by
  match i, e with
  | 0, e => cases e; exact ⟨_, rfl, by kernel_rfl⟩
  | 1, e => cases e; exact ⟨_, rfl, by kernel_rfl⟩
  | 2, e => cases e; exact ⟨_, rfl, by kernel_rfl⟩
  | 3, e => cases e; exact ⟨_, rfl, by kernel_rfl⟩
  | 4, e => cases e; exact ⟨_, rfl, by kernel_rfl⟩
  | n + 5, e => cases e
/- the names' tuples -/
theorem names_at {R : List (Addr × Obj)} {a0 a1 a2 a3 a4 : Addr} {t0 t1 t2 t3 t4 u0 u1 u2 u3 u4 : Tok}
    (m0 : (a0, tup2 (.str (Str.ofString "change") t0) (.int 1 u0) 0) ∈ R) (m1 : (a1, tup2 (.str (Str.ofString "proposal") t1) (.int 2 u1) 0) ∈ R) (m2 : (a2, tup2 (.str (Str.ofString "learning") t2) (.int 16 u2) 0) ∈ R) (m3 : (a3, tup2 (.str (Str.ofString "forwarding") t3) (.int 32 u3) 0) ∈ R) (m4 : (a4, tup2 (.str (Str.ofString "agreement") t4) (.int 64 u4) 0) ∈ R) :
    ∀ (i : Nat) (v : Value), (#[Value.ref a0, .ref a1, .ref a2, .ref a3, .ref a4])[i]? = some v → ∃ a x t k u, v = .ref a ∧ (a, tup2 (.str x t) (.int k u) 0) ∈ R ∧ flagNames[i]? = some (x, k) ∧ 0 ≤ k ∧ k ≤ 64 := fun i v e => by
  match i, e with
  | 0, e => cases e; exact ⟨_, _, _, _, _, rfl, m0, rfl, by decide, by decide⟩
  | 1, e => cases e; exact ⟨_, _, _, _, _, rfl, m1, rfl, by decide, by decide⟩
  | 2, e => cases e; exact ⟨_, _, _, _, _, rfl, m2, rfl, by decide, by decide⟩
  | 3, e => cases e; exact ⟨_, _, _, _, _, rfl, m3, rfl, by decide, by decide⟩
  | 4, e => cases e; exact ⟨_, _, _, _, _, rfl, m4, rfl, by decide, by decide⟩
  | n + 5, e => cases e
/- FLAG_BITS -/
theorem names_base (w : World) : ∀ (i : Nat) (v : Value), (#[Value.ref 327, .ref 328, .ref 329, .ref 330, .ref 331])[i]? = some v →
    ∃ a x t k u n d sl, v = .ref a ∧ (Mine.hd.heap_39 w.params).lookup a = some ⟨.type "tuple", d, .seq #[.str x t, .int k u] n, sl⟩ ∧ flagNames[i]? = some (x, k) ∧ 0 ≤ k ∧ k ≤ 64 := fun i v e => by
  match i, e with
  | 0, e => cases e; exact ⟨_, _, _, _, _, _, _, _, rfl, by k_is, rfl, by decide, by decide⟩
  | 1, e => cases e; exact ⟨_, _, _, _, _, _, _, _, rfl, by k_is, rfl, by decide, by decide⟩
  | 2, e => cases e; exact ⟨_, _, _, _, _, _, _, _, rfl, by k_is, rfl, by decide, by decide⟩
  | 3, e => cases e; exact ⟨_, _, _, _, _, _, _, _, rfl, by k_is, rfl, by decide, by decide⟩
  | 4, e => cases e; exact ⟨_, _, _, _, _, _, _, _, rfl, by k_is, rfl, by decide, by decide⟩
  | n + 5, e => cases e
end
theorem lines_p20dtrow : True := by
  w_top off
  k_extra "S"
  k_extra "ld:pre"
  k_extra "ld:massign"
  k_extra "ld:bytes"
  k_extra "ld:be"
  k_extra "ld:bits"
  k_extra "ld:item"
  k_extra "ld:fold"
  k_extra "ld:cls"
  k_extra "ld:role"
  trivial
section
inductive Ret_trow (w : World) (v0 v1 v2 v3 v4 v5 v6 v7 : Value) (v : Value) (new : List (Addr × Obj)) : Prop
  | mk : ∀ (x d : Addr) (k0 k1 k2 k3 k4 k5 k6 k7 : Tok), (v = .ref x) → (new = [(x, (instObj 296 d : Obj)), (d, (dictOf [ent w "instance" k0 v0, ent w "regional" k1 v1, ent w "cost" k2 v2, ent w "bridge_priority" k3 v3, ent w "port_priority" k4 v4, ent w "hops" k5 v5, ent w "role" k6 v6, ent w "flags" k7 v7] 8 : Obj))]) → (Aps x ([d] ++ [])) → (Aps d ([] ++ [])) → Ret_trow w v0 v1 v2 v3 v4 v5 v6 v7 v new
set_option maxHeartbeats 8000000 in
theorem c_trow (w : World) (v0 v1 v2 v3 v4 v5 v6 v7 : Value) : TellN w (.ref 296) [v0, v1, v2, v3, v4, v5, v6, v7] 10 300 [] (fun v news' => ∃ new, Ret_trow w v0 v1 v2 v3 v4 v5 v6 v7 v new ∧ news' = new ++ []) := by
  unfold TellN
  intro mean mg mb dp un gd cn cs a ccd cl outer A₀ base h₀ L m s Q E B F X N T hk hd hu hret
  k_dflt (refine' call_clsK ?k1 ?k2 ?k3 ?k4 ?k5 ?k6 ?_; (case k1 => k_asm); (case k2 => k_asm); (case k3 => k_asm); (case k4 => k_is); (case k5 => k_is); (case k6 => k_is))
  intro x' d' h' kk nx nd F' N' l1 l2
  k_lt l1
  k_lt2 l2
  k_dflt cell_enter
  (rename Hid _ _ _ => HH; replace HH := Hid.cls kk nx nd HH)
  k_steps
  all_goals (
    refine' finM (small := [(_, instObj _ _), (_, dictOf _ _)]) hret ?H ?F' ?F ?N ?NG ?S ?R
    case H => k_asm
    case F' => k_asm
    case F => k_asm
    case N => k_asm
    case NG => k_asm
    case S => repeat' (first | exact List.forall_mem_nil _ | refine' List.forall_mem_cons.mpr ⟨?_, ?_⟩ | (with_reducible first | exact mm0 | exact mm1 | exact mm2 | exact mm3 | exact mm4 | exact mm5 | exact mm6 | exact mm7 | exact mm8 | exact mm9 | exact mm10 | exact mm11) | exact List.Mem.head _ | refine' List.Mem.tail _ ?_)
    case R => (exact ⟨_, ⟨_, _, _, _, _, _, _, _, _, _, rfl, rfl, (Aps.c (by k_ne) Aps.n), Aps.n⟩, rfl⟩))
theorem use_trow {w : World} {full : List (Addr × Obj)} (v0 v1 v2 v3 v4 v5 v6 v7 : Value) (hp : ∀ p ∈ ([] : List (Addr × Obj)), p ∈ full) {mean : ExcName → Option Value} {mg mb : Str → Option Value} {dp un : Nat} {gd : Option (List Code)} {cn : Str} {cs : Scope} {a : Addr} {ccd : Value} {cl : List (Str × Addr)} {outer : List Env} {A₀ : Around} {base h₀ : Heap} {L : Addr} {m : Str → Option Value} {s0 : Heap} {s1 : Array GenState} {s2 : Drawn} {s3 : Nat} {s4 : OsState} {Q E : Value → Shared → Prop}
    (B : Below A₀ base outer h₀) (F : Fr h₀ L s0 m) (X : (Mine.hd.heap_39 w.params).In h₀) (N : News h₀ L s0 full) (T : Top topProg loose mean mg mb h₀) (hk : cs.kind = .function) (hd : dp + 10 < recursionLimit) (hu : un + 300 < cLine)
    (h : ∀ (x d : Addr) (k0 k1 k2 k3 k4 k5 k6 k7 : Tok)  (h' : Heap) (tk' : Nat), Aps x ([d] ++ full.map (·.1)) → Aps d ([] ++ full.map (·.1)) → let ob1 : Obj := dictOf [ent w "instance" k0 v0, ent w "regional" k1 v1, ent w "cost" k2 v2, ent w "bridge_priority" k3 v3, ent w "port_priority" k4 v4, ent w "hops" k5 v5, ent w "role" k6 v6, ent w "flags" k7 v7] 8; Fr h₀ L h' m → News h₀ L h' ((x, (instObj 296 d : Obj)) :: (d, ob1) :: full) → Q (.ref x) (Shared.mk h' s1 s2 tk' s4)) :
    wpAny (model PySem.Challenge.pw_pc0377_01 w) (ktrTop dp un gd cn cs L a ccd cl outer) (call (.ref 296) [v0, v1, v2, v3, v4, v5, v6, v7]) Q E (Shared.mk s0 s1 s2 s3 s4) := by
  refine (c_trow w v0 v1 v2 v3 v4 v5 v6 v7).read hp B F X N T hk hd hu fun v h' tk' new hP hA F' N' => ?_
  obtain ⟨x, d, k0, k1, k2, k3, k4, k5, k6, k7, rfl, rfl, g0, g1⟩ := hP
  exact h x d k0 k1 k2 k3 k4 k5 k6 k7  h' tk'  (g0.join (part := []) rfl (hA _ (.head _))) (g1.join (part := []) rfl (hA _ (.tail _ (.head _))))  F' N'
end
theorem lines_p20ettail : True := by
  w_top off
  k_extra "S"
  k_extra "ld:pre"
  k_extra "ld:massign"
  k_extra "ld:bytes"
  k_extra "ld:be"
  k_extra "ld:bits"
  k_extra "ld:item"
  k_extra "ld:fold"
  k_extra "ld:cls"
  k_extra "ld:role"
  trivial
section
inductive Ret_ttail (w : World) (v0 v1 v2 v3 v4 : Value) (v : Value) (new : List (Addr × Obj)) : Prop
  | mk : ∀ (x d : Addr) (k0 k1 k2 k3 k4 : Tok), (v = .ref x) → (new = [(x, (instObj 322 d : Obj)), (d, (dictOf [ent w "region" k0 v0, ent w "cost" k1 v1, ent w "bridge" k2 v2, ent w "hops" k3 v3, ent w "rows" k4 v4] 5 : Obj))]) → (Aps x ([d] ++ [])) → (Aps d ([] ++ [])) → Ret_ttail w v0 v1 v2 v3 v4 v new
set_option maxHeartbeats 8000000 in
theorem c_ttail (w : World) (v0 v1 v2 v3 v4 : Value) : TellN w (.ref 322) [v0, v1, v2, v3, v4] 10 300 [] (fun v news' => ∃ new, Ret_ttail w v0 v1 v2 v3 v4 v new ∧ news' = new ++ []) := by
  unfold TellN
  intro mean mg mb dp un gd cn cs a ccd cl outer A₀ base h₀ L m s Q E B F X N T hk hd hu hret
  k_dflt (refine' call_clsK ?k1 ?k2 ?k3 ?k4 ?k5 ?k6 ?_; (case k1 => k_asm); (case k2 => k_asm); (case k3 => k_asm); (case k4 => k_is); (case k5 => k_is); (case k6 => k_is))
  intro x' d' h' kk nx nd F' N' l1 l2
  k_lt l1
  k_lt2 l2
  k_dflt cell_enter
  (rename Hid _ _ _ => HH; replace HH := Hid.cls kk nx nd HH)
  k_steps
  all_goals (
    refine' finM (small := [(_, instObj _ _), (_, dictOf _ _)]) hret ?H ?F' ?F ?N ?NG ?S ?R
    case H => k_asm
    case F' => k_asm
    case F => k_asm
    case N => k_asm
    case NG => k_asm
    case S => repeat' (first | exact List.forall_mem_nil _ | refine' List.forall_mem_cons.mpr ⟨?_, ?_⟩ | (with_reducible first | exact mm0 | exact mm1 | exact mm2 | exact mm3 | exact mm4 | exact mm5 | exact mm6 | exact mm7 | exact mm8 | exact mm9 | exact mm10 | exact mm11) | exact List.Mem.head _ | refine' List.Mem.tail _ ?_)
    case R => (exact ⟨_, ⟨_, _, _, _, _, _, _, rfl, rfl, (Aps.c (by k_ne) Aps.n), Aps.n⟩, rfl⟩))
theorem use_ttail {w : World} {full : List (Addr × Obj)} (v0 v1 v2 v3 v4 : Value) (hp : ∀ p ∈ ([] : List (Addr × Obj)), p ∈ full) {mean : ExcName → Option Value} {mg mb : Str → Option Value} {dp un : Nat} {gd : Option (List Code)} {cn : Str} {cs : Scope} {a : Addr} {ccd : Value} {cl : List (Str × Addr)} {outer : List Env} {A₀ : Around} {base h₀ : Heap} {L : Addr} {m : Str → Option Value} {s0 : Heap} {s1 : Array GenState} {s2 : Drawn} {s3 : Nat} {s4 : OsState} {Q E : Value → Shared → Prop}
    (B : Below A₀ base outer h₀) (F : Fr h₀ L s0 m) (X : (Mine.hd.heap_39 w.params).In h₀) (N : News h₀ L s0 full) (T : Top topProg loose mean mg mb h₀) (hk : cs.kind = .function) (hd : dp + 10 < recursionLimit) (hu : un + 300 < cLine)
    (h : ∀ (x d : Addr) (k0 k1 k2 k3 k4 : Tok)  (h' : Heap) (tk' : Nat), Aps x ([d] ++ full.map (·.1)) → Aps d ([] ++ full.map (·.1)) → let ob1 : Obj := dictOf [ent w "region" k0 v0, ent w "cost" k1 v1, ent w "bridge" k2 v2, ent w "hops" k3 v3, ent w "rows" k4 v4] 5; Fr h₀ L h' m → News h₀ L h' ((x, (instObj 322 d : Obj)) :: (d, ob1) :: full) → Q (.ref x) (Shared.mk h' s1 s2 tk' s4)) :
    wpAny (model PySem.Challenge.pw_pc0377_01 w) (ktrTop dp un gd cn cs L a ccd cl outer) (call (.ref 322) [v0, v1, v2, v3, v4]) Q E (Shared.mk s0 s1 s2 s3 s4) := by
  refine (c_ttail w v0 v1 v2 v3 v4).read hp B F X N T hk hd hu fun v h' tk' new hP hA F' N' => ?_
  obtain ⟨x, d, k0, k1, k2, k3, k4, rfl, rfl, g0, g1⟩ := hP
  exact h x d k0 k1 k2 k3 k4  h' tk'  (g0.join (part := []) rfl (hA _ (.head _))) (g1.join (part := []) rfl (hA _ (.tail _ (.head _))))  F' N'
end
theorem lines_p21rrow : True := by
  w_top off
  k_extra "S"
  k_extra "ld:pre"
  k_extra "ld:massign"
  k_extra "ld:bytes"
  k_extra "ld:be"
  k_extra "ld:bits"
  k_extra "ld:item"
  k_extra "ld:fold"
  k_extra "ld:cls"
  k_extra "ld:onum"
  k_extra "ld:rbridge"
  k_extra "ld:role"
  k_extra "ld:trow"
  k_extra "ld:o_rrow"
  trivial
section
/- the flags read so far -/
noncomputable def JRow (w : World) (x0 : Int) (R : List (Addr × Obj)) (i : Nat) (o : Obj) (T : List (Addr × Obj)) : Prop :=
  T = R ∧ o.IsDictOf (PySem.strKind PySem.Challenge.pw_pc0377_01 w) (flagsUp ((flagNames.take i).map fun p => Builtin.bitAnd x0 p.2 != 0))
theorem JRow.step {w : World} {x0 : Int} {R T : List (Addr × Obj)} {i : Nat} {o o' : Obj} {x : Str} {k : Int} (h : JRow w x0 R i o T) (hi : i < 5) (e : flagNames[i]? = some (x, k))
    (hd : o'.IsDictOf (PySem.strKind PySem.Challenge.pw_pc0377_01 w) (stored (flagsUp ((flagNames.take i).map fun p => Builtin.bitAnd x0 p.2 != 0)) x (.bool (Builtin.bitAnd x0 k != 0)))) : JRow w x0 R (i + 1) o' T := by
  refine ⟨h.1, ?_⟩
  rw [flagsUp_step (i := i) (by rw [List.length_map, List.length_take]; show min i 5 = i; lia) e] at hd
  rw [List.take_add_one, e, List.map_append]
  exact hd
inductive Ret_rrow0 (w : World) (x0 x1 x2 x3 x4 x5 x6 x7 x8 x9 x10 x11 x12 x13 x14 x15 : Int) (v : Value) (new : List (Addr × Obj)) : Prop
  | mk : ∀ (x d q f : Addr) (τ : Nat → Tok) (t1 t2 : Tok) (n : Nat) (fl : Obj), (v = .ref x) → (new = [(x, (instObj 296 d : Obj)), (d, (dictOf (rowEs w (ob2 x1 x2 % 4096) q (ob4 x9 x10 x11 x12) (x13 / 16 * 4096) (x14 / 16 * 16) (x15) (roleL.getD (Builtin.bitAnd (x0.fdiv (2 ^ Int.toNat 2)) 3).toNat Str.empty) f τ) 8 : Obj)), (q, (tup2 (.int (ob2 x1 x2) t1) (.int (ob6 x3 x4 x5 x6 x7 x8) t2) n : Obj)), (f, (fl : Obj))]) → (Aps x ([d, q, f] ++ [])) → (Aps d ([q, f] ++ [])) → (Aps q ([f] ++ [])) → (Aps f ([] ++ [])) → (fl.IsDictOf (PySem.strKind PySem.Challenge.pw_pc0377_01 w) (flagsL (Builtin.bitAnd x0 1 != 0) (Builtin.bitAnd x0 2 != 0) (Builtin.bitAnd x0 16 != 0) (Builtin.bitAnd x0 32 != 0) (Builtin.bitAnd x0 64 != 0))) → ((f == sysModules) = false) → Ret_rrow0 w x0 x1 x2 x3 x4 x5 x6 x7 x8 x9 x10 x11 x12 x13 x14 x15 v new
set_option maxHeartbeats 8000000 in
theorem c_rrow0 (w : World) (x0 x1 x2 x3 x4 x5 x6 x7 x8 x9 x10 x11 x12 x13 x14 x15 : Int) (b : Array UInt8) (t : Tok) (hb : KBw.bInts b = [x0, x1, x2, x3, x4, x5, x6, x7, x8, x9, x10, x11, x12, x13, x14, x15]) : TellN w (.ref 347) [.bytes b t] 20 400 [] (fun v news' => ∃ new, Ret_rrow0 w x0 x1 x2 x3 x4 x5 x6 x7 x8 x9 x10 x11 x12 x13 x14 x15 v new ∧ news' = new ++ []) := by
  unfold TellN
  intro mean mg mb dp un gd cn cs a ccd cl outer A₀ base h₀ L m s Q E B F X N T hk hd hu hret
  have ho := octs_of hb
  simp only [Octs, and_true] at ho
  refine wpAny_call ?_
  k_dflt cell_enter
  k_steps
  refine Dbg.mk ?_
  have hall := names_base w
  refine letML ?_
  intro sM
  refine' mind_D ?hh ?S ?F N' ?hC ?a2 ?a3 (JRow w x0 _) ⟨rfl, ?s1⟩ ?hJ ?turn ?fin
  case hh => exact rfl
  case S => assumption
  case F => k_asm
  case hC => assumption
  case s1 => assumption
  case a2 => k_ne
  case a3 => k_ne
  case hJ =>
    rintro i o T ⟨rfl, _⟩
    exact ⟨fun h F N => srcIn_base F (by k_asm) (by k_is), by k_all⟩
  case turn =>
    intro i v o T h tk oC' oI' mC9 E' hi hv hj S1 F1 N1 hC1
    obtain ⟨a9, x9, t9, k, u9, n9, d9, sl9, rfl, hm9, hx, hk0, hk1⟩ := hall i v hv
    have hj' := hj
    obtain ⟨rfl, hd1⟩ := hj
    k_steps
    all_goals exact ⟨_, _, _, _, _, _, rfl, by k_asm, by k_asm, by assumption, hj'.step hi hx (by assumption)⟩
  case fin =>
    intro h tk oC' mC9 o T F' N' hC hj
    obtain ⟨rfl, hd1⟩ := hj
    have hd2 : o.IsDictOf (PySem.strKind PySem.Challenge.pw_pc0377_01 w) (flagsL (Builtin.bitAnd x0 1 != 0) (Builtin.bitAnd x0 2 != 0) (Builtin.bitAnd x0 16 != 0) (Builtin.bitAnd x0 32 != 0) (Builtin.bitAnd x0 64 != 0)) := hd1
    clear hd1
    (try dsimp only)
    k_steps
    all_goals (
      refine' finN (s := s) (small := [(_, instObj _ _), (_, dictOf _ _), (_, tup2 (.int (ob2 x1 x2) _) _ _), (_, _)]) hret ?H ?F' ?F ?N ?NG ?S ?R
      case H => k_asm
      case F' => k_asm
      case F => k_asm
      case N => k_asm
      case NG => k_asm
      case S => repeat' (first | exact Sub.refl | refine' Sub.keep ?_ | refine' Sub.skip ?_ | exact Sub.nil)
      case R => ((rename Obj.IsDictOf _ _ _ => hfl); exact ⟨_, ⟨_, _, _, _, tk14 _ _ _ _ _ _ _ _ _ _ _ _ _ _, _, _, _, _, rfl, rfl, (Aps.c (by k_ne) (Aps.c (by k_ne) (Aps.c (by k_ne) Aps.n))), (Aps.c (by k_ne) (Aps.c (by k_ne) Aps.n)), (Aps.c (by k_ne) Aps.n), Aps.n, by exact hfl, by assumption⟩, rfl⟩))
inductive Ret_rrow (w : World) (D : RowD) (v : Value) (new : List (Addr × Obj)) : Prop
  | mk : ∀ (x d q f : Addr) (τ : Nat → Tok) (t1 t2 : Tok) (n : Nat) (fl : Obj), (v = .ref x) → (new = [(x, (instObj 296 d : Obj)), (d, (dictOf (rowEs w (D.inst) q (D.cost) (4096 * D.own) (16 * D.port) (D.hops) (roleL.getD D.place.toNat Str.empty) f τ) 8 : Obj)), (q, (tup2 (.int (regP D) t1) (.int (D.mac) t2) n : Obj)), (f, (fl : Obj))]) → (Aps x ([d, q, f] ++ [])) → (Aps d ([q, f] ++ [])) → (Aps q ([f] ++ [])) → (Aps f ([] ++ [])) → (fl.IsDictOf (PySem.strKind PySem.Challenge.pw_pc0377_01 w) (flagsL D.f1 D.f2 D.f3 D.f4 D.f5)) → ((f == sysModules) = false) → Ret_rrow w D v new
set_option maxHeartbeats 8000000 in
theorem c_rrow (w : World) (D : RowD) (ok : RowOk D) (b : Array UInt8) (t : Tok) (hb : KBw.bInts b = rowOcts D) : TellN w (.ref 347) [.bytes b t] 20 400 [] (fun v news' => ∃ new, Ret_rrow w D v new ∧ news' = new ++ []) := by
  have hb' : KBw.bInts b = [rowBits D, regP D / 256 % 256, regP D % 256, D.mac / 1099511627776 % 256, D.mac / 4294967296 % 256, D.mac / 16777216 % 256, D.mac / 65536 % 256, D.mac / 256 % 256, D.mac % 256, D.cost / 16777216 % 256, D.cost / 65536 % 256, D.cost / 256 % 256, D.cost % 256, 16 * D.own, 16 * D.port, D.hops] := hb
  refine (c_rrow0 w _ _ _ _ _ _ _ _ _ _ _ _ _ _ _ _ b t hb').weaken fun v n hR => ?_
  obtain ⟨e1, e2, e3, e4, e5, e6, e7, e8⟩ := bits_D ok
  obtain ⟨hi, hn, hm, hc, ho, hp, hh, _⟩ := ok
  have r0 : 0 ≤ regP D := by unfold regP; lia
  have r1 : regP D < 65536 := by unfold regP; lia
  have r2 : regP D % 4096 = D.inst := by unfold regP; lia
  have o1 : 16 * D.own / 16 * 4096 = 4096 * D.own := by lia
  have o2 : 16 * D.port / 16 * 16 = 16 * D.port := by lia
  obtain ⟨new, ⟨x, d, q, f, τ, t1, t2, n', fl, a1, a2, g0, g1, g2, g3, f0, f1⟩, a3⟩ := hR
  rw [e6, ob2_be r0 r1, r2, ob4_be hc.1 hc.2, ob6_be hm.1 hm.2, o1, o2] at a2
  rw [e1, e2, e3, e4, e5] at f0
  exact ⟨new, ⟨x, d, q, f, τ, t1, t2, n', fl, a1, a2, g0, g1, g2, g3, f0, f1⟩, a3⟩
theorem use_rrow {w : World} {full : List (Addr × Obj)} (D : RowD) (ok : RowOk D) (b : Array UInt8) (t : Tok) (hb : KBw.bInts b = rowOcts D) (hp : ∀ p ∈ ([] : List (Addr × Obj)), p ∈ full) {mean : ExcName → Option Value} {mg mb : Str → Option Value} {dp un : Nat} {gd : Option (List Code)} {cn : Str} {cs : Scope} {a : Addr} {ccd : Value} {cl : List (Str × Addr)} {outer : List Env} {A₀ : Around} {base h₀ : Heap} {L : Addr} {m : Str → Option Value} {s0 : Heap} {s1 : Array GenState} {s2 : Drawn} {s3 : Nat} {s4 : OsState} {Q E : Value → Shared → Prop}
    (B : Below A₀ base outer h₀) (F : Fr h₀ L s0 m) (X : (Mine.hd.heap_39 w.params).In h₀) (N : News h₀ L s0 full) (T : Top topProg loose mean mg mb h₀) (hk : cs.kind = .function) (hd : dp + 20 < recursionLimit) (hu : un + 400 < cLine)
    (h : ∀ (x d q f : Addr) (τ : Nat → Tok) (t1 t2 : Tok) (n : Nat) (fl : Obj)  (h' : Heap) (tk' : Nat), Aps x ([d, q, f] ++ full.map (·.1)) → Aps d ([q, f] ++ full.map (·.1)) → Aps q ([f] ++ full.map (·.1)) → Aps f ([] ++ full.map (·.1)) → fl.IsDictOf (PySem.strKind PySem.Challenge.pw_pc0377_01 w) (flagsL D.f1 D.f2 D.f3 D.f4 D.f5) → (f == sysModules) = false → let ob1 : Obj := dictOf (rowEs w (D.inst) q (D.cost) (4096 * D.own) (16 * D.port) (D.hops) (roleL.getD D.place.toNat Str.empty) f τ) 8; let ob2 : Obj := tup2 (.int (regP D) t1) (.int (D.mac) t2) n; Fr h₀ L h' m → News h₀ L h' ((x, (instObj 296 d : Obj)) :: (d, ob1) :: (q, ob2) :: (f, (fl : Obj)) :: full) → Q (.ref x) (Shared.mk h' s1 s2 tk' s4)) :
    wpAny (model PySem.Challenge.pw_pc0377_01 w) (ktrTop dp un gd cn cs L a ccd cl outer) (call (.ref 347) [.bytes b t]) Q E (Shared.mk s0 s1 s2 s3 s4) := by
  refine (c_rrow w D ok b t hb).read hp B F X N T hk hd hu fun v h' tk' new hP hA F' N' => ?_
  obtain ⟨x, d, q, f, τ, t1, t2, n, fl, rfl, rfl, g0, g1, g2, g3, f0, f1⟩ := hP
  exact h x d q f τ t1 t2 n fl  h' tk'  (g0.join (part := []) rfl (hA _ (.head _))) (g1.join (part := []) rfl (hA _ (.tail _ (.head _)))) (g2.join (part := []) rfl (hA _ (.tail _ (.tail _ (.head _))))) (g3.join (part := []) rfl (hA _ (.tail _ (.tail _ (.tail _ (.head _)))))) f0 f1 F' N'
end
theorem lines_p21bsum : True := by
  w_top off
  k_extra "S"
  k_extra "ld:pre"
  k_extra "ld:massign"
  k_extra "ld:bytes"
  k_extra "ld:be"
  k_extra "ld:bits"
  k_extra "ld:role"
  trivial
section
/- a made list of small ints whose sum is known -/
inductive SumIs (o : Obj) (k : Nat) (S : Int) : Prop
  | mk : ∀ (vs : List Value) (n : Nat) (ns : List Int), (o = listOf vs.toArray n) → (IntsAre vs ns) → (vs.length ≤ k) → (ns.sum = S) → SumIs o k S
theorem SumIs.nil {n : Nat} : SumIs (listOf ([] : List Value).toArray n) 0 0 := ⟨[], n, [], rfl, .nil, Nat.le_refl _, rfl⟩
theorem intsAre_snoc {vs : List Value} {ns : List Int} (h : IntsAre vs ns) (k : Int) (t : Tok) : IntsAre (vs ++ [Value.int k t]) (ns ++ [k]) := by
  induction h with
  | nil => exact IntsAre.cons k t .nil
  | cons n u h ih => exact IntsAre.cons n u ih
section
open PyProof.Rows.LCg
variable {prog : Program} {w : World} {A : Around} {E : Value → Shared → Prop} {s : Shared} {h₀ : Heap} {L I C D : Addr} {m mC : Str → Option Value} {news : List (Addr × Obj)} {cenv : Env} {env : Env} {g : Obj → List (Addr × Obj)} {oC oD : Obj} {k : Nat} {S : Int}
theorem sum_is {l : Addr} {Q : Value → Shared → Prop} (hh : A.handled = none) (F : Fr h₀ L s.heap m) (N : News h₀ L s.heap news) (hm : (l, oD) ∈ news) (hS : SumIs oD k S)
    (h : ∀ h' tk t', Fr h₀ L h' m → News h₀ L h' news → Q (.int S t') { s with heap := h', toks := tk }) : wpAny (model prog w) A (call (.builtin "sum") [.ref l]) Q E s := by
  obtain ⟨vs, n, ns, rfl, hi, hlen, rfl⟩ := hS
  exact sumK hh F N ⟨_, N.get hm, rfl, _, rfl⟩ hi h
end
end
theorem lines_p21cbits2 : True := by
  w_top off
  k_extra "S"
  k_extra "ld:pre"
  k_extra "ld:massign"
  k_extra "ld:bytes"
  k_extra "ld:be"
  k_extra "ld:bits"
  k_extra "ld:role"
  k_extra "ld:sum"
  trivial
section
inductive JB (fs : List Bool) (R : List (Addr × Obj)) (i : Nat) (vs : List Value) (T : List (Addr × Obj)) : Prop
  | mk : (T = R) → ∀ ns, (IntsAre vs ns) → (vs.length ≤ i) → (ns.sum = ((bitsUp fs).take i).sum) → JB fs R i vs T
theorem bitsUp_at {fs : List Bool} {i : Nat} {x : Str} {k : Int} {b : Bool} (hx : flagNames[i]? = some (x, k)) (hb : fs[i]? = some b) : ((bitsUp fs).take (i + 1)).sum = ((bitsUp fs).take i).sum + b2 b k := by
  have e : (bitsUp fs)[i]? = some (b2 b k) := by
    unfold bitsUp
    rw [List.getElem?_map, (List.getElem?_zip_eq_some (z := ((x, k), b))).mpr ⟨hx, hb⟩]
    rfl
  rw [List.take_add_one, e, List.sum_append]
  simp
theorem JB.put {fs : List Bool} {R T : List (Addr × Obj)} {i : Nat} {vs : List Value} {x : Str} {k : Int} {b : Bool} (h : JB fs R i vs T) (hx : flagNames[i]? = some (x, k)) (hb : fs[i]? = some b) (e : b = true) (t : Tok) : JB fs R (i + 1) (vs ++ [Value.int k t]) T := by
  obtain ⟨rfl, ns, hi, hl, hs⟩ := h
  subst e
  exact ⟨rfl, ns ++ [k], intsAre_snoc hi k t, by rw [List.length_append]; exact Nat.succ_le_succ hl, by rw [bitsUp_at hx hb, List.sum_append, hs]; show _ + (k + 0) = _ + k; lia⟩
theorem JB.out {fs : List Bool} {R T : List (Addr × Obj)} {i : Nat} {vs : List Value} {x : Str} {k : Int} {b : Bool} (h : JB fs R i vs T) (hx : flagNames[i]? = some (x, k)) (hb : fs[i]? = some b) (e : b = false) : JB fs R (i + 1) vs T := by
  obtain ⟨rfl, ns, hi, hl, hs⟩ := h
  subst e
  exact ⟨rfl, ns, hi, Nat.le_succ_of_le hl, by rw [bitsUp_at hx hb, hs]; show _ = _ + 0; lia⟩
theorem JB.sum {g1 g2 g3 g4 g5 : Bool} {R T : List (Addr × Obj)} {vs : List Value} (h : JB [g1, g2, g3, g4, g5] R 5 vs T) (n : Nat) : SumIs (listOf vs.toArray n) 5 (b2 g1 1 + b2 g2 2 + b2 g3 16 + b2 g4 32 + b2 g5 64) := by
  obtain ⟨_, ns, hi, hl, hs⟩ := h
  refine ⟨vs, n, ns, rfl, hi, hl, ?_⟩
  rw [hs]
  show b2 g1 1 + (b2 g2 2 + (b2 g3 16 + (b2 g4 32 + (b2 g5 64 + 0)))) = _
  lia
theorem ite_two {b : Bool} {P Q : Prop} (h1 : b = true → P) (h2 : b = false → Q) : if b = true then P else Q := by
  cases b with
  | true => rw [if_pos rfl]; exact h1 rfl
  | false => rw [if_neg (by decide)]; exact h2 rfl
theorem memM {p : Addr × Obj} {R : List (Addr × Obj)} (h : p ∈ R) : List.Mem p R := h
end
theorem lines_p22rocts : True := by
  w_top off
  k_extra "S"
  k_extra "ld:pre"
  k_extra "ld:massign"
  k_extra "ld:bytes"
  k_extra "ld:be"
  k_extra "ld:bits"
  k_extra "ld:item"
  k_extra "ld:fold"
  k_extra "ld:num"
  k_extra "ld:bridge"
  k_extra "ld:role"
  k_extra "ld:sum"
  k_extra "ld:o_rocts"
  trivial
section
theorem letT {h₀ h : Heap} {L : Addr} {t : List (Addr × Obj)} {P : Prop} (N : News h₀ L h t) (k : let R := t; News h₀ L h R → P) : P := k N
inductive Ret_rocts (D : RowD) (v : Value) (new : List (Addr × Obj)) : Prop
  | mk : ∀ (b : Array UInt8) (t : Tok), (v = .bytes b t) → (new = []) → (KBw.bInts b = rowOcts D) → Ret_rocts D v new
set_option maxHeartbeats 8000000 in
theorem c_rocts (w : World) (D : RowD) (ok : RowOk D) (x d q f : Addr) (τ : Nat → Tok) (t1 t2 : Tok) (n : Nat) (fl : Obj) (hfl : fl.IsDictOf (PySem.strKind PySem.Challenge.pw_pc0377_01 w) (flagsL D.f1 D.f2 D.f3 D.f4 D.f5)) (hm : (f == sysModules) = false) : TellN w (.ref 337) [.ref x] 30 600 [(x, (instObj 296 d : Obj)), (d, (dictOf (rowEs w D.inst q D.cost (4096 * D.own) (16 * D.port) D.hops (roleL.getD D.place.toNat Str.empty) f τ) 8 : Obj)), (q, (tup2 (.int (regP D) t1) (.int D.mac t2) n : Obj)), (f, (fl : Obj))] (fun v news' => ∃ new, Ret_rocts D v new ∧ news' = new ++ [(x, (instObj 296 d : Obj)), (d, (dictOf (rowEs w D.inst q D.cost (4096 * D.own) (16 * D.port) D.hops (roleL.getD D.place.toNat Str.empty) f τ) 8 : Obj)), (q, (tup2 (.int (regP D) t1) (.int D.mac t2) n : Obj)), (f, (fl : Obj))]) := by
  unfold TellN
  intro mean mg mb dp un gd cn cs a ccd cl outer A₀ base h₀ L m s Q E B F X N T hk hd hu hret
  refine letT N ?_
  clear N
  intro RB N
  have ok' := ok
  have hr := regP_in ok
  obtain ⟨hi, hn, hmm, hc, ho, hp, hh, hpl⟩ := ok
  have hbS := bits_sum D.f1 D.f2 D.f3 D.f4 D.f5
  refine wpAny_call ?_
  k_dflt cell_enter
  k_steps
  refine Dbg.mk ?_
  have hall := names_base w
  refine letML ?_
  intro sM
  refine' mind_T ?hh ?S ?hn ?F N' ?hC ?a1 ?a2 ?a3 (JB [D.f1, D.f2, D.f3, D.f4, D.f5] _) ⟨rfl, [], IntsAre.nil, Nat.le_refl _, rfl⟩ ?hJ ?turn ?fin
  case hh => exact rfl
  case S => assumption
  case hn => exact Nat.le_of_ble_eq_true rfl
  case F => k_asm
  case hC => assumption
  case a1 => k_ne
  case a2 => k_ne
  case a3 => k_ne
  case hJ =>
    rintro i vs T ⟨rfl, _⟩
    exact ⟨fun h F N => srcIn_base F (by k_asm) (by k_is), by k_all, by k_all, by k_all⟩
  case turn =>
    intro i v vs T k9 h tk oC' oI' mC9 E' hi hv hj hl S1 F1 N1 hC1
    obtain ⟨a9, x9, t9, k, u9, n9, d9, sl9, rfl, hm9, hx, hk0, hk1⟩ := hall i v hv
    obtain ⟨b9, hb9, hv9⟩ := flagsUp_at (f1 := D.f1) (f2 := D.f2) (f3 := D.f3) (f4 := D.f4) (f5 := D.f5) hx
    have hv8 : valueAt (flagsL D.f1 D.f2 D.f3 D.f4 D.f5) x9 = some (.bool b9) := hv9
    have hj' := hj
    obtain ⟨rfl, _⟩ := hj
    k_steps
    · exact ⟨_, _, _, _, _, rfl, by k_asm, by k_asm, by assumption, hj'.put hx hb9 (by assumption) _⟩
    · exact ⟨_, _, _, _, _, rfl, by k_asm, by k_asm, by assumption, hj'.out hx hb9 (by assumption)⟩
  case fin =>
    intro h tk oC' mC9 vs k9 T F' N' hC hj hl
    have hsm := hj.sum k9
    obtain ⟨rfl, _⟩ := hj
    (try dsimp only)
    k_steps
    all_goals (
      refine' finN (s := s) (small := [(x, (instObj 296 d : Obj)), (d, (dictOf (rowEs w D.inst q D.cost (4096 * D.own) (16 * D.port) D.hops (roleL.getD D.place.toNat Str.empty) f τ) 8 : Obj)), (q, (tup2 (.int (regP D) t1) (.int D.mac t2) n : Obj)), (f, (fl : Obj))]) hret ?H ?F' ?F ?N ?NG ?S ?R
      case H => k_asm
      case F' => k_asm
      case F => k_asm
      case N => k_asm
      case NG => k_asm
      case S => repeat' (first | exact Sub.refl | refine' Sub.keep ?_ | refine' Sub.skip ?_ | exact Sub.nil)
      case R => (exact ⟨_, ⟨_, _, rfl, rfl, by (rename KBw.bInts _ = _ => hbb); exact hbb.trans (rowOcts_eq ok')⟩, rfl⟩))
theorem use_rocts {w : World} {full : List (Addr × Obj)} (D : RowD) (ok : RowOk D) (x d q f : Addr) (τ : Nat → Tok) (t1 t2 : Tok) (n : Nat) (fl : Obj) (hfl : fl.IsDictOf (PySem.strKind PySem.Challenge.pw_pc0377_01 w) (flagsL D.f1 D.f2 D.f3 D.f4 D.f5)) (hm : (f == sysModules) = false) (hp : ∀ p ∈ ([(x, (instObj 296 d : Obj)), (d, (dictOf (rowEs w D.inst q D.cost (4096 * D.own) (16 * D.port) D.hops (roleL.getD D.place.toNat Str.empty) f τ) 8 : Obj)), (q, (tup2 (.int (regP D) t1) (.int D.mac t2) n : Obj)), (f, (fl : Obj))] : List (Addr × Obj)), p ∈ full) {mean : ExcName → Option Value} {mg mb : Str → Option Value} {dp un : Nat} {gd : Option (List Code)} {cn : Str} {cs : Scope} {a : Addr} {ccd : Value} {cl : List (Str × Addr)} {outer : List Env} {A₀ : Around} {base h₀ : Heap} {L : Addr} {m : Str → Option Value} {s0 : Heap} {s1 : Array GenState} {s2 : Drawn} {s3 : Nat} {s4 : OsState} {Q E : Value → Shared → Prop}
    (B : Below A₀ base outer h₀) (F : Fr h₀ L s0 m) (X : (Mine.hd.heap_39 w.params).In h₀) (N : News h₀ L s0 full) (T : Top topProg loose mean mg mb h₀) (hk : cs.kind = .function) (hd : dp + 30 < recursionLimit) (hu : un + 600 < cLine)
    (h : ∀ (b : Array UInt8) (t : Tok)  (h' : Heap) (tk' : Nat), KBw.bInts b = rowOcts D → Fr h₀ L h' m → News h₀ L h' (full) → Q (.bytes b t) (Shared.mk h' s1 s2 tk' s4)) :
    wpAny (model PySem.Challenge.pw_pc0377_01 w) (ktrTop dp un gd cn cs L a ccd cl outer) (call (.ref 337) [.ref x]) Q E (Shared.mk s0 s1 s2 s3 s4) := by
  refine (c_rocts w D ok x d q f τ t1 t2 n fl hfl hm).read hp B F X N T hk hd hu fun v h' tk' new hP hA F' N' => ?_
  obtain ⟨b, t, rfl, rfl, f0⟩ := hP
  exact h b t  h' tk'   f0 F' N'
end
theorem lines_p23lrow : True := by
  w_top off
  k_extra "S"
  k_extra "ld:pre"
  k_extra "ld:take"
  k_extra "ld:one"
  k_extra "ld:massign"
  k_extra "ld:bytes"
  k_extra "ld:be"
  k_extra "ld:bits"
  k_extra "ld:item"
  k_extra "ld:fold"
  k_extra "ld:cls"
  k_extra "ld:four"
  k_extra "ld:lbridge"
  k_extra "ld:role"
  k_extra "ld:trow"
  k_extra "ld:sum"
  k_extra "ld:o_lrow"
  trivial
section
theorem eq_any {prog : Program} {w : World} {A : Around} {E : Value → Shared → Prop} {s : Shared} {Q : Value → Shared → Prop} {x y : Int} {t u : Tok} (h : ∀ b : Bool, Q (.bool b) s) : wpAny (model prog w) A (compareOp .Eq (.int x t) (.int y u)) Q E s := eq_int (h _)
theorem swapF {s l c d i k : Addr × Obj} {R : List (Addr × Obj)} : ∀ p ∈ c :: d :: i :: k :: s :: l :: R, p ∈ s :: l :: c :: d :: i :: k :: R := by
  repeat' (first | exact List.forall_mem_nil _ | refine' subc (by ((repeat' (first | exact List.mem_cons_self | refine List.mem_cons_of_mem _ ?_)); done)) ?_ | exact (fun p hp => by ((repeat' (first | exact hp | refine List.mem_cons_of_mem _ ?_)); done)))
inductive JF (w : World) (src l c : Addr) (oF : Obj) (R : List (Addr × Obj)) (i : Nat) (o : Obj) (T : List (Addr × Obj)) : Prop
  | mk : ∀ (bs : List Bool) (p1 p2 : Obj), (bs.length = i) → (SrcObj l p1 p2) → (o.IsDictOf (PySem.strKind PySem.Challenge.pw_pc0377_01 w) (flagsUp bs)) → (T = (c, oF) :: (src, p1) :: (l, p2) :: R) → JF w src l c oF R i o T
inductive Ret_lrow (w : World) (src l : Addr) (inst : Int) (v : Value) (new : List (Addr × Obj)) : Prop
  | mk : ∀ (p x d q f : Addr) (D : RowD) (τ : Nat → Tok) (t1 t2 tb : Tok) (b : Array UInt8) (n k : Nat) (fl : Obj), (v = .ref p) → (new = [(p, (tup2 (.ref x) (.bytes b tb) k : Obj)), (x, (instObj 296 d : Obj)), (d, (dictOf (rowEs w D.inst q D.cost (4096 * D.own) (16 * D.port) D.hops (roleL.getD D.place.toNat Str.empty) f τ) 8 : Obj)), (q, (tup2 (.int (regP D) t1) (.int D.mac t2) n : Obj)), (f, (fl : Obj))]) → (Aps p ([x, d, q, f] ++ [src, l])) → (Aps x ([d, q, f] ++ [src, l])) → (Aps d ([q, f] ++ [src, l])) → (Aps q ([f] ++ [src, l])) → (Aps f ([] ++ [src, l])) → (D.inst = inst) → (fl.IsDictOf (PySem.strKind PySem.Challenge.pw_pc0377_01 w) (flagsL D.f1 D.f2 D.f3 D.f4 D.f5)) → (RowOk D) → (KBw.bInts b = rowOcts D) → ((f == sysModules) = false) → Ret_lrow w src l inst v new
set_option maxHeartbeats 8000000 in
theorem c_lrow (w : World) (src l : Addr) (o1 o2 : Obj) (hS : SrcObj l o1 o2) (hlt : @LT.lt Nat _ l src)(inst : Int) (t : Tok) (hi : 0 ≤ inst ∧ inst < 4096) : TellN w (.ref 412) [.ref src, .int inst t] 30 800 [(src, (o1 : Obj)), (l, (o2 : Obj))] (fun v news' => ∃ new o1' o2', Ret_lrow w src l inst v new ∧ SrcObj l o1' o2' ∧ news' = (src, o1') :: (l, o2') :: new) := by
  unfold TellN
  intro mean mg mb dp un gd cn cs a ccd cl outer A₀ base h₀ L m s Q E B F X N T hk hd hu hret
  refine wpAny_call ?_
  k_dflt cell_enter
  k_steps
  refine Dbg.mk ?_
  refine' foldP (ps := [(C', _), (D', _), (I', _), (L' + 1 + 1, _), (src, _), (l, _)]) (as := [C', D', I', L' + 1 + 1, src, l]) ?zN ?zP ?zE ?zO ?_
  case zN => exact N'
  case zP => repeat' (first | exact Picks.nil | refine' Picks.cons ?_ ?_ | exact Pick.head | refine' Pick.tail ?_)
  case zE => repeat' (first | refine' Pre.cons ?_ | exact Pre.nil)
  case zO => repeat' (first | exact Offs.n | refine' Offs.c (by k_all) ?_)
  have e1 : Aps C' [D', I', L' + 1 + 1, src, l] := Aps.c (by k_ne) (Aps.c (by k_ne) (Aps.c (by k_ne) (Aps.c (by k_ne) (Aps.c (by k_ne) Aps.n))))
  have e2 : Aps D' [I', L' + 1 + 1, src, l] := Aps.c (by k_ne) (Aps.c (by k_ne) (Aps.c (by k_ne) (Aps.c (by k_ne) Aps.n)))
  have e3 : Aps I' [L' + 1 + 1, src, l] := Aps.c (by k_ne) (Aps.c (by k_ne) (Aps.c (by k_ne) Aps.n))
  have hz : @LT.lt Nat _ src L' ∧ @LT.lt Nat _ l L' := by assumption
  have e4 : Aps (L' + 1 + 1) [src, l] := Aps.c (Nat.ne_of_lt (Nat.lt_succ_of_lt (Nat.lt_succ_of_lt hz.1))) (Aps.c (Nat.ne_of_lt (Nat.lt_succ_of_lt (Nat.lt_succ_of_lt hz.2))) Aps.n)
  trace "a"
  clear N'
  intro R9 mL m4 m3 m2 m1 m0 mC
  refine Fin9.mk ?_
  intro s9 f1 f2 f3 f4 f5 f6
  refine Fin9.mk ?_
  intro N'
  simp only [List.cons_append, List.nil_append] at N'
  have hall := names_at m0 m1 m2 m3 m4
  refine letML ?_
  intro sM
  refine' mind_D ?hh ?S ?F N' ?hC ?a2 ?a3 (JF w src l (L' + 1 + 1) _ R9) ⟨[], _, _, rfl, ?s1, ?s2, rfl⟩ ?hJ ?turn ?fin
  case hh => exact rfl
  case S => assumption
  case F => k_asm
  case hC => assumption
  case s1 => assumption
  case s2 => assumption
  case a2 => k_ne
  case a3 => k_ne
  case hJ =>
    rintro i o T ⟨bs, p1, p2, hbl, hS1, hd1, rfl⟩
    exact ⟨fun h F N => srcIn_news N (.tail _ (.tail _ (.tail _ mL))), by k_all⟩
  case turn =>
    intro i v o T h tk oC' oI' mC9 E' hi hv hj S1 F1 N1 hC1
    obtain ⟨bs, p1, p2, hbl, hS1, hd1, rfl⟩ := hj
    obtain ⟨a, x, t9, k, u9, rfl, hm, hx, hk0, hk1⟩ := hall i v hv
    k_steps
    all_goals exact ⟨_, _, _, _, _, _, rfl, by k_asm, News.sub (by k_asm) swapF, by assumption, ⟨bs ++ [_], _, _, by rw [List.length_append, hbl]; rfl, by assumption, by rw [← flagsUp_step hbl hx]; assumption, rfl⟩⟩
  case fin =>
    intro h tk oC' mC9 o T F' N' hC hj
    obtain ⟨bs, p1, p2, hbl, hS1, hd1, rfl⟩ := hj
    obtain ⟨g1, g2, g3, g4, g5, rfl⟩ := flags5 hbl
    have hd2 : o.IsDictOf (PySem.strKind PySem.Challenge.pw_pc0377_01 w) (flagsL g1 g2 g3 g4 g5) := hd1
    clear hd1
    (try dsimp only)
    k_steps
    refine Dbg.mk ?_
    refine' foldP (ps := [(C', _), (D', _), (I', _)]) (as := [C', D', I']) ?zN ?zP ?zE ?zO ?_
    case zN => exact N'
    case zP => repeat' (first | exact Picks.nil | refine' Picks.cons ?_ ?_ | exact Pick.head | refine' Pick.tail ?_)
    case zE => repeat' (first | refine' Pre.cons ?_ | exact Pre.nil)
    case zO => repeat' (first | exact Offs.n | refine' Offs.c (by k_all) ?_)
    have e5 : Aps C' [D', I'] := Aps.c (by k_ne) (Aps.c (by k_ne) Aps.n)
    have e6 : Aps D' [I'] := Aps.c (by k_ne) Aps.n
    clear N'
    intro R8
    repeat' (intro m9)
    refine Fin9.mk ?_
    intro s9 f1 f2 f3
    refine Fin9.mk ?_
    intro N'
    simp only [List.cons_append, List.nil_append] at N'
    refine letML ?_
    intro sM
    refine' mind_T ?hh ?S ?hn ?F N' ?hC ?a1 ?a2 ?a3 (JB [g1, g2, g3, g4, g5] R8) ⟨rfl, [], IntsAre.nil, Nat.le_refl _, rfl⟩ ?hJ ?turn ?fin
    case hh => exact rfl
    case S => assumption
    case hn => exact Nat.le_of_ble_eq_true rfl
    case F => k_asm
    case hC => assumption
    case a1 => k_ne
    case a2 => k_ne
    case a3 => k_ne
    case hJ =>
      rintro i vs T ⟨rfl, _⟩
      exact ⟨fun h F N => srcIn_news N (by k_mem), by k_all, by k_all, by k_all⟩
    case turn =>
      intro i v vs T k9 h tk oC' oI' mC9 E' hi hv hj hl S1 F1 N1 hC1
      obtain ⟨a, x, t9, k, u9, rfl, hm, hx, hk0, hk1⟩ := hall i v hv
      obtain ⟨b9, hb9, hv9⟩ := flagsUp_at (f1 := g1) (f2 := g2) (f3 := g3) (f4 := g4) (f5 := g5) hx
      have hv8 : valueAt (flagsL g1 g2 g3 g4 g5) x = some (.bool b9) := hv9
      have hj' := hj
      obtain ⟨rfl, _⟩ := hj
      k_steps
      · exact ⟨_, _, _, _, _, rfl, by k_asm, by k_asm, by assumption, hj'.put hx hb9 (by assumption) _⟩
      · exact ⟨_, _, _, _, _, rfl, by k_asm, by k_asm, by assumption, hj'.out hx hb9 (by assumption)⟩
    case fin =>
      intro h tk oC' mC9 vs k9 T F' N' hC hj hl
      have hsm := hj.sum k9
      obtain ⟨rfl, _⟩ := hj
      have wS := bits_sum g1 g2 g3 g4 g5
      (try dsimp only)
      k_steps
      all_goals (
        (rename Obj.IsDictOf _ _ _ => hod); refine' finM (s := s) (small := [(src, _), (l, _), (_, tup2 (.ref _) (.bytes _ _) _), (_, instObj _ _), (_, dictOf _ _), (_, tup2 (.int (4096 * _ + inst) _) (.int _ _) _), (_, objOf hod)]) hret ?H ?F' ?F ?N ?NG ?S ?R
        case H => k_asm
        case F' => k_asm
        case F => k_asm
        case N => k_asm
        case NG => k_asm
        case S => repeat' (first | exact List.forall_mem_nil _ | refine' subc ?_ ?_ | (with_reducible first | exact mm0 | exact mm1 | exact mm2 | exact mm3 | exact mm4 | exact mm5 | exact mm6 | exact mm7 | exact mm8 | exact mm9 | exact mm10 | exact mm11) | exact List.Mem.head _ | with_reducible exact memM (by assumption) | refine' List.Mem.tail _ ?_)
        case R => (exact ⟨_, _, _, ⟨_, _, _, _, _, ⟨inst, _, _, _, _, _, _, _, _, _, _, _, _⟩, tk14 _ _ _ _ _ _ _ _ _ _ _ _ _ _, _, _, _, _, _, _, _, rfl, rfl, (Aps.c (by k_ne) (Aps.c (by k_ne) (Aps.c (by k_ne) (Aps.c (by k_ne) (Aps.c (by k_ne) (Aps.c (by k_ne) Aps.n)))))), (Aps.c (by k_ne) (Aps.c (by k_ne) (Aps.c (by k_ne) (Aps.c (by k_ne) (Aps.c (by k_ne) Aps.n))))), (Aps.c (by k_ne) (Aps.c (by k_ne) (Aps.c (by k_ne) (Aps.c (by k_ne) Aps.n)))), (Aps.c (by k_ne) (Aps.c (by k_ne) (Aps.c (by k_ne) Aps.n))), (Aps.c (by k_ne) (Aps.c (by k_ne) Aps.n)), rfl, by exact hod, by exact ⟨hi, ⟨by assumption, by assumption⟩, by first | assumption | (constructor <;> lia), by first | assumption | (constructor <;> lia), ⟨by assumption, by assumption⟩, ⟨by assumption, by assumption⟩, ⟨by assumption, by assumption⟩, ⟨by assumption, by assumption⟩⟩, by (rename KBw.bInts _ = _ => hbb); rw [rowOcts_eq2]; exact hbb, by assumption⟩, by assumption, rfl⟩))

theorem use_lrow {w : World} {full : List (Addr × Obj)} (src l : Addr) (o1 o2 : Obj) (hS : SrcObj l o1 o2) (hlt : @LT.lt Nat _ l src)(inst : Int) (t : Tok) (hi : 0 ≤ inst ∧ inst < 4096) {r1 rest : List (Addr × Obj)} (P1 : Pick src o1 full r1) (P2 : Pick l o2 r1 rest) (hr1 : ∀ p ∈ rest, p.1 ≠ src) (hr2 : ∀ p ∈ rest, p.1 ≠ l) {mean : ExcName → Option Value} {mg mb : Str → Option Value} {dp un : Nat} {gd : Option (List Code)} {cn : Str} {cs : Scope} {a : Addr} {ccd : Value} {cl : List (Str × Addr)} {outer : List Env} {A₀ : Around} {base h₀ : Heap} {L : Addr} {m : Str → Option Value} {s0 : Heap} {s1 : Array GenState} {s2 : Drawn} {s3 : Nat} {s4 : OsState} {Q E : Value → Shared → Prop}
    (B : Below A₀ base outer h₀) (F : Fr h₀ L s0 m) (X : (Mine.hd.heap_39 w.params).In h₀) (N : News h₀ L s0 full) (T : Top topProg loose mean mg mb h₀) (hk : cs.kind = .function) (hd : dp + 30 < recursionLimit) (hu : un + 800 < cLine)
    (h : let R := rest; (∀ p ∈ R, p.1 ≠ src) → (∀ p ∈ R, p.1 ≠ l) → ∀ (p x d q f : Addr) (D : RowD) (τ : Nat → Tok) (t1 t2 tb : Tok) (b : Array UInt8) (n k : Nat) (fl : Obj) (o1' o2' : Obj) (h' : Heap) (tk' : Nat), SrcObj l o1' o2' → Aps p ([x, d, q, f] ++ full.map (·.1)) → Aps x ([d, q, f] ++ full.map (·.1)) → Aps d ([q, f] ++ full.map (·.1)) → Aps q ([f] ++ full.map (·.1)) → Aps f ([] ++ full.map (·.1)) → D.inst = inst → fl.IsDictOf (PySem.strKind PySem.Challenge.pw_pc0377_01 w) (flagsL D.f1 D.f2 D.f3 D.f4 D.f5) → RowOk D → KBw.bInts b = rowOcts D → (f == sysModules) = false → let ob2 : Obj := tup2 (.ref x) (.bytes b tb) k; let ob4 : Obj := dictOf (rowEs w D.inst q D.cost (4096 * D.own) (16 * D.port) D.hops (roleL.getD D.place.toNat Str.empty) f τ) 8; let ob5 : Obj := tup2 (.int (regP D) t1) (.int D.mac t2) n; Fr h₀ L h' m → News h₀ L h' ((src, o1') :: (l, o2') :: (p, ob2) :: (x, (instObj 296 d : Obj)) :: (d, ob4) :: (q, ob5) :: (f, (fl : Obj)) :: R) → Q (.ref p) (Shared.mk h' s1 s2 tk' s4)) :
    wpAny (model PySem.Challenge.pw_pc0377_01 w) (ktrTop dp un gd cn cs L a ccd cl outer) (call (.ref 412) [.ref src, .int inst t]) Q E (Shared.mk s0 s1 s2 s3 s4) := by
  refine TellN.draw P1 P2 hr1 hr2 (c_lrow w src l o1 o2 hS hlt inst t hi) B F X N T hk hd hu fun v h' tk' new o1' o2' hP hS' hA F' N' => ?_
  obtain ⟨p, x, d, q, f, D, τ, t1, t2, tb, b, n, k, fl, rfl, rfl, g0, g1, g2, g3, g4, f0, f1, f2, f3, f4⟩ := hP
  exact h hr1 hr2 p x d q f D τ t1 t2 tb b n k fl o1' o2' h' tk' hS' (g0.join2 (hA _ (.head _))) (g1.join2 (hA _ (.tail _ (.head _)))) (g2.join2 (hA _ (.tail _ (.tail _ (.head _))))) (g3.join2 (hA _ (.tail _ (.tail _ (.tail _ (.head _)))))) (g4.join2 (hA _ (.tail _ (.tail _ (.tail _ (.tail _ (.head _))))))) f0 f1 f2 f3 f4 F' N'
end
theorem lines_p28sett : True := by
  w_top off
  k_extra "S"
  k_extra "ld:pre"
  trivial
section
section
open SetTable
/- the rising lists of n places below 8 -/
noncomputable def risers : Nat → Nat → List (List Nat)
  | _, 0 => [[]]
  | 0, _ + 1 => []
  | b + 1, n + 1 => (risers b (n + 1)) ++ (risers b n).map (· ++ [b])
noncomputable def upto (n : Nat) : List (List Nat) := risers 8 n
theorem up_put : ∀ n < 4, ∀ p ∈ upto n, ∀ j < 8, j ∈ p ∨ (insertAt p.toArray (below p.toArray j) j).toList ∈ upto (n + 1) := by decide +kernel
theorem up_at : ∀ n < 5, ∀ p ∈ upto n, ∀ j < 8, (p.toArray[below p.toArray j]? == some j) = decide (j ∈ p) := by decide +kernel
theorem up_below : ∀ n < 5, ∀ p ∈ upto n, ∀ j < 8, below p.toArray j ≤ n := by decide +kernel
theorem up_len : ∀ n < 5, ∀ p ∈ upto n, p.length = n := by decide +kernel
theorem up_first : ∀ n < 5, ∀ p ∈ upto n, below p.toArray 0 = 0 := by decide +kernel
theorem up_next : ∀ n < 5, ∀ p ∈ upto n, ∀ i < n, below p.toArray (p.getD i 0 + 1) = i + 1 := by decide +kernel
/- the slots that a search meets once its hash is used up -/
noncomputable def leapN : Nat → Nat → Nat
  | 0, i => i
  | m + 1, i => leapN m ((i * 5 + 1) % 8)
theorem up_free : ∀ n < 4, ∀ p ∈ upto n, ∀ i < 8, ∃ m < 8, leapN m i ∉ p := by decide +kernel
/- a table of n places, as sets of few ints have it -/
structure Tab8 (t : SetTable) (n : Nat) : Prop where
  mask : t.mask = 7
  dum : t.dummies = #[]
  pl : t.place.toList ∈ upto n
theorem Tab8.slot {t : SetTable} {n j : Nat} (T : Tab8 t n) (hn : n < 5) (hj : j < 8) : t.slot j = if j ∈ t.place.toList then .live (below t.place j) else .empty := by
  have e := up_at n hn _ T.pl j hj
  rw [Array.toArray_toList] at e
  have hd : has t.dummies j = false := by rw [T.dum]; rfl
  unfold SetTable.slot
  dsimp only
  rw [e, hd]
  simp
theorem go_live {t : SetTable} {n : Nat} (T : Tab8 t n) (hn : n < 4) (h : Int) {f : Nat} {i q : Nat} (hi : i < 8) (hm : i ∈ t.place.toList) :
    probe.go t (fun _ => h + 1) h (f + 1) ⟨i, 0, i, q, none⟩ = probe.go t (fun _ => h + 1) h f ⟨(i * 5 + 1 + q / 32) % 8, 0, (i * 5 + 1 + q / 32) % 8, q / 32, none⟩ := by
  have e := T.slot (j := i) (by lia) hi
  rw [if_pos hm] at e
  show (match t.slot i with | .empty => _ | .dummy => _ | .live k => _) = _
  rw [e]
  dsimp only
  have hne : ((h + 1 : Int) == h) = false := by simp; lia
  rw [hne]
  have hrun : runEnd 7 ((i * 5 + 1 + q / 32) % 8) = (i * 5 + 1 + q / 32) % 8 := by
    unfold runEnd
    rw [if_neg (by lia)]
  simp only [Bool.false_eq_true, if_false, advance, Nat.lt_irrefl, gt_iff_lt, leap, T.mask, Nat.reduceAdd, hrun, Nat.sub_self]
theorem go_empty {t : SetTable} {n : Nat} (T : Tab8 t n) (hn : n < 4) (h : Int) {f : Nat} {i q : Nat} (hi : i < 8) (hm : i ∉ t.place.toList) :
    probe.go t (fun _ => h + 1) h (f + 1) ⟨i, 0, i, q, none⟩ = some (.empty i none) := by
  have e := T.slot (j := i) (by lia) hi
  rw [if_neg hm] at e
  show (match t.slot i with | .empty => _ | .dummy => _ | .live k => _) = _
  rw [e]
theorem go_zero {t : SetTable} {n : Nat} (T : Tab8 t n) (hn : n < 4) (h : Int) : ∀ (m f i : Nat), i < 8 → leapN m i ∉ t.place.toList → m < f → ∃ j, probe.go t (fun _ => h + 1) h f ⟨i, 0, i, 0, none⟩ = some (.empty j none) ∧ j < 8 ∧ j ∉ t.place.toList
  | m, 0, i, hi, hl, hf => by lia
  | m, f + 1, i, hi, hl, hf => by
    by_cases hm : i ∈ t.place.toList
    · rw [go_live T hn h hi hm]
      cases m with
      | zero => exact absurd hm hl
      | succ m =>
        have : (i * 5 + 1 + 0 / 32) % 8 = (i * 5 + 1) % 8 := by simp
        rw [this]
        exact go_zero T hn h m f _ (Nat.mod_lt _ (by decide)) hl (by lia)
    · exact ⟨i, go_empty T hn h hi hm, hi, hm⟩
theorem go_any {t : SetTable} {n : Nat} (T : Tab8 t n) (hn : n < 4) (h : Int) : ∀ (k f i q : Nat), i < 8 → q < 32 ^ k → 8 + k ≤ f → ∃ j, probe.go t (fun _ => h + 1) h f ⟨i, 0, i, q, none⟩ = some (.empty j none) ∧ j < 8 ∧ j ∉ t.place.toList
  | 0, f, i, q, hi, hq, hf => by
    have : q = 0 := by simpa using hq
    subst this
    obtain ⟨m, hm, hl⟩ := up_free n hn _ T.pl i hi
    exact go_zero T hn h m f i hi hl (by lia)
  | k + 1, 0, i, q, hi, hq, hf => by lia
  | k + 1, f + 1, i, q, hi, hq, hf => by
    by_cases hm : i ∈ t.place.toList
    · rw [go_live T hn h hi hm]
      exact go_any T hn h k f _ _ (Nat.mod_lt _ (by decide)) (by rw [Nat.pow_succ] at hq; exact Nat.div_lt_of_lt_mul (by rw [Nat.mul_comm]; exact hq)) (by lia)
    · exact ⟨i, go_empty T hn h hi hm, hi, hm⟩
theorem Tab8.free {t : SetTable} {n : Nat} (T : Tab8 t n) (hn : n < 4) (h : Int) : ∃ j, t.freeSlot h = some (j, false) ∧ j < 8 ∧ j ∉ t.place.toList := by
  have hb : bits h < 32 ^ 13 := by
    have : bits h < 2 ^ 64 := by unfold bits; have := Int.emod_nonneg h (show (2 ^ 64 : Int) ≠ 0 by decide); have := Int.emod_lt_of_pos h (show (0 : Int) < 2 ^ 64 by decide); lia
    exact Nat.lt_of_lt_of_le this (by decide)
  have hr : ∀ i < 8, runEnd 7 i = i := fun i hi => by unfold runEnd; rw [if_neg (by lia)]
  have hi : bits h % 8 < 8 := Nat.mod_lt _ (by decide)
  obtain ⟨j, e, r⟩ := go_any T hn h 13 220 (bits h % 8) (bits h) hi hb (by decide)
  refine ⟨j, ?_, r⟩
  have es : t.probeStart h = ⟨bits h % 8, 0, bits h % 8, bits h, none⟩ := by
    unfold probeStart
    simp only [T.mask, Nat.reduceAdd, hr _ hi, Nat.sub_self]
  have ef : t.probe (fun _ => h + 1) h (t.probeStart h) = some (.empty j none) := by
    rw [es]
    show probe.go t (fun _ => h + 1) h (10 * turns t.mask) _ = _
    rw [show 10 * turns t.mask = 220 by rw [T.mask]; rfl]
    exact e
  unfold SetTable.freeSlot
  rw [ef]
  rfl
theorem Tab8.size {t : SetTable} {n : Nat} (T : Tab8 t n) (hn : n < 5) : t.place.size = n := by rw [← Array.length_toList]; exact up_len n hn _ T.pl
theorem Tab8.fits {t : SetTable} {n : Nat} (T : Tab8 t n) (hn : n < 5) : t.fits n = true := by
  unfold SetTable.fits SetTable.fill
  rw [T.size hn, T.dum, T.mask]
  simp; lia
/- a fresh element finds its place -/
theorem Tab8.lay {t : SetTable} {n : Nat} (T : Tab8 t n) (hn : n < 4) (es : Array (Int × Value)) (hes : es.size = n) (h : Int) (x : Value) :
    ∃ t' p, layNew t es h x = (insertAt es p (h, x), t', false, false) ∧ p ≤ n ∧ Tab8 t' (n + 1) ∧ t'.plain = t.plain ∧ t'.led = t.led ∧ t'.tooFull = false := by
  obtain ⟨j, e, hj, hm⟩ := T.free hn h
  have hp := (up_put n hn _ T.pl j hj).resolve_left hm
  have hb := up_below n (by lia) _ T.pl j hj
  rw [Array.toArray_toList] at hp hb
  have T' : Tab8 (t.put j).1 (n + 1) := ⟨T.mask, by
    show (if has t.dummies j then _ else t.dummies) = #[]
    rw [T.dum]; rfl, hp⟩
  have hsz : (insertAt es (below t.place j) (h, x)).size = n + 1 := by unfold insertAt; simp; lia
  refine ⟨(t.put j).1, below t.place j, ?_, hb, T', rfl, rfl, ?_⟩
  · unfold layNew
    rw [e]
    show (insertAt es (below t.place j) (h, x), (t.put j).1.orStandIn (insertAt es (below t.place j) (h, x)).size, false, !(t.put j).1.fits (insertAt es (below t.place j) (h, x)).size) = _
    have hf := T'.fits (by lia)
    unfold SetTable.orStandIn
    rw [hsz, hf]
    rfl
  · unfold SetTable.tooFull SetTable.fill
    rw [T'.size (by lia), T'.dum, T'.mask]
    simp; lia
theorem insert_perm {α : Type} (es : Array α) (p : Nat) (x : α) : (insertAt es p x).toList.Perm (x :: es.toList) := by
  unfold insertAt
  have e : es.toList = (es.extract 0 p).toList ++ (es.extract p es.size).toList := by
    have e9 : List.take (es.size - p) (List.drop p es.toList) = List.drop p es.toList := List.take_of_length_le (by simp)
    simp [Array.toList_extract, e9]
  rw [Array.toList_append, Array.toList_push, e]
  simpa using List.perm_middle (l₁ := (es.extract 0 p).toList) (l₂ := (es.extract p es.size).toList) (a := x)
end
end
theorem lines_p28bsetadd : True := by
  w_top off
  k_extra "S"
  k_extra "ld:pre"
  trivial
section
section
variable {prog : Program} {w : World} {A : Around} {E : Value → Shared → Prop} {s : Shared} {R : Result → Shared → Prop} {I S a : Addr} {fp wr : List Addr} {n : Nat} {P : Nat → Value → Prop} {St : Nat → Heap → Prop} {o : Obj} {ns : List Int}
noncomputable def keyI (e : Int × Value) : Int := match e.2 with | .int n _ => n | _ => 0
noncomputable def AllI (prog : Program) (w : World) (l : List (Int × Value)) : Prop := ∀ e ∈ l, ∃ n t, e = ((intKind prog w).hash n, .int n t)
/- a set of few ints; ns: as its table has them -/
inductive SetI (prog : Program) (w : World) (o : Obj) (ns : List Int) : Prop
  | mk : ∀ es ep t, (o = { cls := .type "set", dict := none, data := .set es ep t }) → (AllI prog w es.toList) → (es.toList.map keyI = ns) → (Tab8 t ns.length) → (t.plain = true) → (t.led = !w.params.followText "set-order") → SetI prog w o ns
theorem AllI.elems {l : List (Int × Value)} (h : AllI prog w l) : ElemsOf (intKind prog w) l := fun e he => by
  obtain ⟨n, t, rfl⟩ := h e he
  exact ⟨⟨n, intKind_is _ _ _ _, rfl⟩, rfl⟩
theorem AllI.is {e : Int × Value} {l : List (Int × Value)} (h : AllI prog w l) (he : e ∈ l) (k : Int) : (intKind prog w).is k e.2 = true ↔ keyI e = k := by
  obtain ⟨n, t, rfl⟩ := h e he
  constructor
  · intro hk; exact (intKind prog w).inj _ _ _ (intKind_is _ _ _ _) hk
  · intro hk; cases hk; exact intKind_is _ _ _ _
theorem setI_add {k : Int} {t : Tok} {Q : Bool → Shared → Prop} (ho : s.heap.get? a = some o) (hI : SetI prog w o ns) (hn : ns.length < 4)
    (h : ∀ b h' o' ns', Heap.SameBut a s.heap h' → h'.get? a = some o' → SetI prog w o' ns' → (∀ j, j ∈ ns' ↔ j ∈ ns ∨ j = k) → (ns.Nodup → ns'.Nodup) → ns'.length ≤ ns.length + 1 → Q b { s with heap := h' }) :
    wpAny (model prog w) A (setAddHashed a (.int k t) ((intKind prog w).hash k)) Q E s := by
  obtain ⟨es, ep, tb, rfl, hall, hns, T, hpl, hled⟩ := hI
  have hsz : es.size = ns.length := by rw [← hns, List.length_map, Array.length_toList]
  have hel := hall.elems
  have hf : tb.fits es.size = true := by rw [hsz]; exact T.fits (by lia)
  have hb : es.size < scanBound := by rw [hsz]; exact Nat.lt_trans hn (by decide)
  unfold setAddHashed setAddHashedIn
  refine wpAny_holding (wpAny_bind (wpAny_setState_of ho rfl hf ?_))
  dsimp only
  rw [byScan_of rfl hb hel]
  simp only [↓reduceIte]
  unfold setAddByScan
  refine wpAny_bind ?_
  refine wpAny_bind (wpAny_rule ?_)
  refine wpAny_bind (wpAny_setScan_of (intKind_is _ _ _ _) ho rfl hf hel ?_)
  cases hr : List.findIdx? (fun e => (intKind prog w).is k e.2) es.toList with
  | some j =>
    dsimp only
    obtain ⟨hj, hpj, _⟩ := List.findIdx?_eq_some_iff_getElem.mp hr
    have hm : es.toList[j] ∈ es.toList := List.getElem_mem hj
    have hk : keyI es.toList[j] = k := (hall.is hm k).mp hpj
    have hkn : k ∈ ns := by rw [← hns, ← hk]; exact List.mem_map_of_mem hm
    refine wpAny_pure (wpAny_pure ?_)
    have e : s = { s with heap := s.heap } := by cases s; rfl
    rw [e]
    exact h _ _ _ ns (Heap.SameBut.refl a s.heap) ho ⟨es, ep, tb, rfl, hall, hns, T, hpl, hled⟩ (fun j => ⟨.inl, fun h => h.elim id fun e => e ▸ hkn⟩) id (Nat.le_succ _)
  | none =>
    dsimp only
    have hkn : k ∉ ns := fun hm => by
      rw [← hns] at hm
      obtain ⟨e, he, hk⟩ := List.mem_map.mp hm
      have := List.findIdx?_eq_none_iff.mp hr e he
      rw [(hall.is he k).mpr hk] at this; cases this
    obtain ⟨t', p, hL, hp, T', hpl', hled', hfull⟩ := T.lay hn es hsz ((intKind prog w).hash k) (.int k t)
    rw [hL]
    dsimp only
    refine wpAny_bind (wpAny_pure ?_)
    rw [if_pos (hpl'.trans hpl)]
    refine wpAny_bind ?_
    rw [hashByValue_scannable 8 rfl]
    refine wpAny_pure ?_
    have hperm := insert_perm es p ((intKind prog w).hash k, Value.int k t)
    have hall' : AllI prog w (SetTable.insertAt es p ((intKind prog w).hash k, Value.int k t)).toList := fun e he => by
      rcases List.mem_cons.mp (hperm.mem_iff.mp he) with rfl | he
      · exact ⟨k, t, rfl⟩
      · exact hall e he
    have hpn : ((SetTable.insertAt es p ((intKind prog w).hash k, Value.int k t)).toList.map keyI).Perm (k :: ns) := by
      have := hperm.map keyI
      rwa [mapc, hns] at this
    have hlen := hpn.length_eq
    rw [List.length_cons] at hlen
    have hz : (SetTable.insertAt es p ((intKind prog w).hash k, Value.int k t)).size ≤ sizeLine := by
      rw [← Array.length_toList, ← List.length_map (f := keyI), hlen, sizeLine_eq]; lia
    simp only [plainKind, ↓reduceIte, if_true]
    refine wpAny_bind (wpAny_storeSet_of ho rfl ?_ hz)
    rw [hfull]
    simp only [Bool.and_false, Bool.not_false, Bool.false_eq_true, if_false]
    refine wpAny_pure (wpAny_pure ?_)
    have hg : (s.heap.update a (Obj.putSet (SetTable.insertAt es p ((intKind prog w).hash k, Value.int k t)) t')).get? a = some { cls := .type "set", dict := none, data := .set (SetTable.insertAt es p ((intKind prog w).hash k, Value.int k t)) (ep + 1) t' } := by
      have := Heap.get?_update_self (Obj.putSet (SetTable.insertAt es p ((intKind prog w).hash k, Value.int k t)) t') ho (by rw [putSet_of _ t' rfl]; rfl)
      rw [putSet_of _ t' rfl] at this; exact this
    refine h _ _ _ _ (Heap.SameBut.update _ a _) hg ⟨_, _, t', rfl, hall', rfl, by rw [hlen]; exact T', hpl'.trans hpl, hled'.trans hled⟩ (fun j => ?_) (fun hnd => ?_) (Nat.le_of_eq hlen)
    · rw [hpn.mem_iff, List.mem_cons]; exact ⟨fun h => h.symm, fun h => h.symm⟩
    · exact hpn.nodup_iff.mpr (List.nodup_cons.mpr ⟨hkn, hnd⟩)
/- the loop that fills a set from an iterator of ints -/
theorem setI_loop (W : Walks prog w A.in1 I fp wr n P St) (hSf : S ∉ fp) (val : Nat → Int) (hval : ∀ i v, P i v → ∃ t, v = .int (val i) t) (hn : n ≤ 4) :
    ∀ (d i : Nat) (s : Shared) (o : Obj) (ns : List Int), n - i = d → i ≤ n → St i s.heap → s.heap.get? S = some o → SetI prog w o ns → ns.length ≤ i → ns.Nodup → (∀ k, k ∈ ns ↔ ∃ j, j < i ∧ val j = k) →
      (∀ h' tk o' ns', (∀ b o, b ≠ S → b ∉ wr → s.heap.get? b = some o → h'.get? b = some o) → h'.get? S = some o' → SetI prog w o' ns' → ns'.Nodup → (∀ k, k ∈ ns' ↔ ∃ j, j < n ∧ val j = k) → ns'.length ≤ n → R (.ok (.ret .none)) { s with heap := h', toks := tk }) →
      codeAny (model prog w) A (.builtin "set.update.loop" ⟨[.ref S, .ref I], []⟩) R s := by
  have hSw : S ∉ wr := fun h => hSf (W.sub _ h)
  intro d
  induction d with
  | zero =>
    intro i s o ns hd hi hst ho hI hl hnd hmem hR
    have hin : i = n := Nat.le_antisymm hi (Nat.le_of_sub_eq_zero hd)
    subst hin
    refine codeAny_builtin F.entry_set_update_loop ?_
    rw [Around.under_plainId F.plain_set_update_loop _]
    show wpAny _ A.in1 (pyNext (.ref I) >>= _) _ _ s
    refine wpAny_bind (W.done s _ _ hst fun h' tk keep => ?_)
    exact wpAny_pure (hR h' tk o ns (fun b o _ hw e => keep b o hw e) (keep _ _ hSw ho) hI hnd hmem hl)
  | succ d ih =>
    intro i s o ns hd hi hst ho hI hl hnd hmem hR
    have hlt : i < n := Nat.lt_of_sub_eq_succ hd
    refine codeAny_builtin F.entry_set_update_loop ?_
    rw [Around.under_plainId F.plain_set_update_loop _]
    show wpAny _ A.in1 (pyNext (.ref I) >>= _) _ _ s
    refine wpAny_bind (W.item i s _ _ hlt hst fun v h1 tk hP hst' keep => ?_)
    obtain ⟨t, rfl⟩ := hval i v hP
    show wpAny _ A.in1 (holding [Value.int (val i) t] (setAdd S (.int (val i) t)) >>= _) _ _ _
    refine wpAny_bind (wpAny_holding ?_)
    unfold setAdd
    refine wpAny_holding ?_
    refine wpAny_bind ((intKind prog w).pyHash (k := val i) (intKind_is _ _ _ _) ?_)
    refine setI_add (s := { s with heap := h1, toks := tk + 1 }) (keep _ _ hSw ho) hI (by lia) fun b h2 o2 ns2 sb ho2 hI2 hm2 hnd2 hl2 => ?_
    refine wpAny_pure ⟨plainId_quiet F.plain_set_update_loop _, ih (i + 1) _ o2 ns2 (congrArg Nat.pred hd) hlt (W.frame _ _ _ hst' fun b hb o e => ?_) ho2 hI2 (by lia) (hnd2 hnd) (fun k => ?_) fun h' tk' o' ns' keep' => ?_⟩
    · exact (sb.2 b (fun h : b = S => hSf (by rw [← h]; exact hb))).trans e
    · rw [hm2, hmem]
      constructor
      · rintro (⟨j, hj, e⟩ | rfl)
        · exact ⟨j, by lia, e⟩
        · exact ⟨i, by lia, rfl⟩
      · rintro ⟨j, hj, e⟩
        rcases Nat.lt_or_ge j i with h | h
        · exact .inl ⟨j, h, e⟩
        · have : j = i := by lia
          subst this; exact .inr e.symm
    · exact hR h' tk' o' ns' fun b o hb hw e => keep' b o hb hw ((sb.2 b hb).trans (keep b o hw e))
end
end
theorem lines_p28csetcall : True := by
  w_top off
  k_extra "S"
  k_extra "ld:pre"
  trivial
section
section
open PySem.F
variable {prog : Program} {w : World} {A : Around} {E : Value → Shared → Prop} {s : Shared} {h₀ : Heap} {L l : Addr} {m : Str → Option Value} {news : List (Addr × Obj)} {items : Array Value} {ns : List Int} {Q : Value → Shared → Prop}
noncomputable abbrev set0 (w : World) : Obj := { cls := .type "set", dict := none, data := .set #[] 0 (.fresh 0 0 (!w.params.followText "set-order")) }
theorem setI_new (a : Value) {Q₁ : Value → Shared → Prop} (h : Q₁ (.ref s.heap.objs.size) { s with heap := s.heap.push (set0 w) }) :
    codeAny (model prog w) A (.call (.builtin "set.__new__") ⟨[.type "set", a], []⟩) (wants Q₁ E) s := by
  refine codeAny_of_tree ?_
  show wpAny _ A.in1 (do checkBuiltinCall "set.__new__" ⟨[.type "set", a], []⟩; again (.builtin "set.__new__" ⟨[.type "set", a], []⟩)) _ _ s
  refine wpAny_bind (wpAny_of_eq (PySem.F.newCall_set_1 a) (wpAny_pure ⟨plainId_quiet F.plain_set_new _, codeAny_builtin F.entry_set_new ?_⟩))
  rw [Around.under_plainId F.plain_set_new _]
  unfold Builtin.«set.__new__» Builtin.Frozenset.newClass
  have hsub := sub_set_self
  obtain ⟨hp, g, d, tk, os⟩ := s
  dsimp only
  repeat walk_at "wpstep"
  refine wpAny_askSetting (wpAny_pure ?_)
  dsimp only
  simp only [newObj]
  refine wpAny_bind (wpAny_alloc (wpAny_pure ?_))
  exact wpAny_pure h
theorem setI_empty : SetI prog w (set0 w) [] := ⟨#[], 0, _, rfl, (fun e he => by simp at he), rfl, ⟨rfl, rfl, List.Mem.head _⟩, rfl, rfl⟩
set_option maxHeartbeats 8000000 in
theorem setI_call (hh : A.handled = none) (hl : s.heap.IsList l items) (hi : IntsAre items.toList ns) (hn : items.size ≤ 4)
    (h : ∀ (h' : Heap) (tk : Nat) (o : Obj) (ms : List Int), h'.get? s.heap.objs.size = some o → SetI prog w o ms → ms.Nodup → (∀ k, k ∈ ms ↔ k ∈ ns) → ms.length ≤ 4 →
      (∀ b o, b < s.heap.objs.size → s.heap.get? b = some o → h'.get? b = some o) → Q (.ref s.heap.objs.size) { s with heap := h', toks := tk }) :
    wpAny (model prog w) A (call (.type "set") [.ref l]) Q E s := by
  obtain ⟨c, tl, hmro⟩ := F.called_set.mro
  have hmade := F.called_set.made
  have hsub := F.called_set.sub
  refine wpAny_call (codeAny_of_tree ?_)
  show wpAny _ _ (callAny (.type "set") _) _ _ _
  refine wpAny_pure ⟨Code.quiet_builtin _ (by decide +kernel), codeAny_builtin F.entry_type_call ?_⟩
  rw [Around.under_plain (weight_type_call_type "set" [.ref l] []) rfl]
  have h1 := F.called_set.notType
  have h2 := F.called_set.canCreate
  have hct := F.typeCall_set_1 (.ref l)
  repeat (any_goals (first | assumption | walk_at "wpstep"))
  refine codeAny_mono (setI_new (.ref l) (E := E) (Q₁ := fun obj s₁ => obj = .ref s.heap.objs.size ∧ s₁ = { s with heap := s.heap.push (set0 w) }) ⟨rfl, rfl⟩) fun r s₁ hr => ?_
  rcases r with e | (obj | _ | _ | _) <;> first | exact hr | exact hr.elim | skip
  obtain ⟨rfl, rfl⟩ := hr
  have hS : (s.heap.push (set0 w)).get? s.heap.objs.size = some (set0 w) := Heap.get?_push_size _ rfl
  have hT : Shared.TypeIs { s with heap := s.heap.push (set0 w) } (.ref s.heap.objs.size) "set" := ⟨_, hS, rfl⟩
  have hli := F.called_set.init.lookup
  have hbi := F.called_set.init.bind (.ref s.heap.objs.size)
  repeat (any_goals (first | assumption | walk_at "wpstep"))
  refine codeAny_mono (codeAny_call_builtin (R := wants (fun r s₂ => r = .none ∧ ∃ h' tk o ms, s₂ = { s with heap := h', toks := tk } ∧
      h'.get? s.heap.objs.size = some o ∧ SetI prog w o ms ∧ ms.Nodup ∧ (∀ k, k ∈ ms ↔ k ∈ ns) ∧ ms.length ≤ 4 ∧
      (∀ b o, b < s.heap.objs.size → s.heap.get? b = some o → h'.get? b = some o)) E) F.called_set.init.plain F.entry_set_init (check_set_init_1 hT ?_)) fun r₂ s₂ hr₂ => ?_
  · obtain ⟨⟨ocls, odict, odata, oslots⟩, hol, hcl, nl, hdl⟩ := hl
    simp only at hcl hdl
    subst hcl; subst hdl
    have hol' : (s.heap.push (set0 w)).get? l = some { cls := .type "list", dict := odict, data := .seq items nl, slots := oslots } := Heap.get?_push_of_some _ hol
    have hsls := F.sub_list_set
    have hslf := F.sub_list_frozenset
    have hne : (Value.type "list" == Value.type "dict") = false := by decide
    have hl1 : (s.heap.push (set0 w)).IsList l items := ⟨_, hol', rfl, nl, rfl⟩
    unfold Builtin.«set.__init__» noKeywords Builtin.Frozenset.updateFrom
    generalize hPI : pyIter = PI
    repeat walk_at "wpstep"
    subst hPI
    refine wpAny_pyIter_list hl1 ?_
    refine wpAny_bind (wpAny_runValue ?_)
    have hlS : l < s.heap.objs.size := Heap.lt_size hol
    have hh3 : A.in1.in1.in1.handled = none := by simp [hh]
    have hneI : l ≠ (s.heap.push (set0 w)).objs.size := by
      rw [Heap.size_push]; exact Nat.ne_of_lt (Nat.lt_succ_of_lt hlS)
    have hSf : s.heap.objs.size ∉ [(s.heap.push (set0 w)).objs.size, l] := by
      rw [Heap.size_push]; simp only [List.mem_cons, List.not_mem_nil, or_false, not_or]
      exact ⟨Nat.ne_of_lt (Nat.lt_succ_self _), Nat.ne_of_gt hlS⟩
    have hlen : ns.length = items.size := by rw [← hi.length, Array.length_toList]
    have hval : ∀ (i : Nat) (v : Value), items[i]? = some v → ∃ t, v = .int ((fun i => ns.getD i 0) i) t := fun i v hv =>
      IntsAre.int_at hi i v (by rw [Array.getElem?_toList]; exact hv)
    refine setI_loop (Walks.list hh3 _ l hneI items) hSf (fun i => ns.getD i 0) hval hn (items.size - 0) 0 _ _ [] rfl (Nat.zero_le _)
      ⟨⟨_, Heap.get?_push_size _ rfl, rfl, rfl⟩, hl1.push _⟩ (Heap.get?_push_of_some _ hS) setI_empty (Nat.le_refl _) List.nodup_nil (fun k => by simp) fun h' tk o' ms keep ho' hI hnd hmem hle => ?_
    show wpAny _ _ _ _ _ _
    refine wpAny_pure ?_
    show wpAny _ _ (ret Value.none) _ _ _
    refine wpAny_pure ⟨rfl, h', tk, o', ms, rfl, ho', hI, hnd, fun k => ?_, Nat.le_trans hle hn, fun b o hb e => ?_⟩
    · rw [hmem]
      constructor
      · rintro ⟨j, hj, e⟩
        have hj' : j < ns.length := by lia
        rw [← e]
        show ns.getD j 0 ∈ ns
        rw [List.getD_eq_getElem?_getD, List.getElem?_eq_getElem hj']
        exact List.getElem_mem hj'
      · intro hk
        obtain ⟨j, hj, e⟩ := List.mem_iff_getElem.mp hk
        exact ⟨j, by lia, by show ns.getD j 0 = k; rw [List.getD_eq_getElem?_getD, List.getElem?_eq_getElem hj, ← e]; rfl⟩
    · have hb1 : b ≠ s.heap.objs.size := Nat.ne_of_lt hb
      have hb2 : b ≠ (s.heap.push (set0 w)).objs.size := by
        rw [Heap.size_push]; exact Nat.ne_of_lt (Nat.lt_succ_of_lt hb)
      exact keep b o hb1 (by rw [List.mem_singleton]; exact hb2) (Heap.get?_push_of_some _ (Heap.get?_push_of_some _ e))
  · rcases r₂ with e | (v | _ | _ | _) <;> first | exact hr₂ | exact hr₂.elim | skip
    obtain ⟨rfl, h', tk, o', ms, rfl, ho', hI, hnd, hmem, hle, hk'⟩ := hr₂
    repeat (any_goals (first | assumption | walk_at "wpstep"))
    exact h _ _ _ _ ho' hI hnd hmem hle hk'
/- set(list of few ints) -/
theorem setI_N (F : Fr h₀ L s.heap m) (N : News h₀ L s.heap news) (hh : A.handled = none) {vs : List Value} (hl : s.heap.IsList l vs.toArray) (hi : IntsAre vs ns) (hn : ns.length ≤ 4)
    (h : ∀ S h' tk o ms, Fr h₀ L h' m → News h₀ L h' ((S, o) :: news) → (∀ p ∈ news, p.1 < S) → SetI prog w o ms → ms.Nodup → (∀ k, k ∈ ms ↔ k ∈ ns) → ms.length ≤ 4 → Q (.ref S) { s with heap := h', toks := tk }) :
    wpAny (model prog w) A (call (.type "set") [.ref l]) Q E s := by
  refine setI_call hh hl (by simpa using hi) (by have := hi.length; simp; lia) fun h' tk o ms ho hI hnd hmem hle hk => ?_
  obtain ⟨oL, _, _, hL, _⟩ := F.ns
  have hLlt : L < s.heap.objs.size := Heap.lt_size hL
  refine h _ h' tk o ms ⟨F.ns.at' fun o' e => hk L o' hLlt e, fun b o' e => hk b o' (Heap.lt_size (F.keep b o' e)) (F.keep b o' e), F.above⟩ (fun p hp => ?_) (fun p hp => Heap.lt_size (N p hp).1) hI hnd hmem hle
  rcases List.mem_cons.mp hp with rfl | hp
  · refine ⟨ho, Nat.ne_of_gt hLlt, ?_⟩
    cases hq : h₀.get? s.heap.objs.size with
    | none => rfl
    | some o' => exact absurd (Heap.lt_size (F.keep _ _ hq)) (Nat.lt_irrefl _)
  · exact ⟨hk _ _ (Heap.lt_size (N p hp).1) (N p hp).1, (N p hp).2.1, (N p hp).2.2⟩
end
end
theorem lines_p28dsetiter : True := by
  w_top off
  k_extra "S"
  k_extra "ld:pre"
  trivial
section
theorem erase_perm {α : Type} (l : List α) (n : Nat) (h : n < l.length) : (l[n] :: l.eraseIdx n).Perm l := by
  rw [List.eraseIdx_eq_take_drop_succ]
  refine List.perm_middle.symm.trans ?_
  rw [← List.drop_eq_getElem_cons h, List.take_append_drop]
theorem pick_go {α : Type} (next : Nat → Nat) : ∀ (f k : Nat) (left : List α) (out : Array α), left.length = f → (pickOrder.go next f k left out).toList.Perm (out.toList ++ left)
  | 0, k, left, out, h => by
    have : left = [] := List.length_eq_zero_iff.mp h
    subst this
    show out.toList.Perm _
    rw [List.append_nil]
  | f + 1, k, left, out, h => by
    have hl : next k % left.length < left.length := Nat.mod_lt _ (by lia)
    show (match left[next k % left.length]? with | some x => pickOrder.go next f (k + 1) (left.eraseIdx (next k % left.length)) (out.push x) | none => out).toList.Perm _
    rw [List.getElem?_eq_getElem hl]
    refine (pick_go next f (k + 1) _ _ (by rw [List.length_eraseIdx_of_lt hl, h]; rfl)).trans ?_
    rw [Array.toList_push, List.append_assoc]
    exact List.Perm.append_left _ (erase_perm _ _ hl)
theorem pick_perm {α : Type} (next : Nat → Nat) (xs : Array α) : (pickOrder next xs).toList.Perm xs.toList := by
  have := pick_go next xs.size 0 xs.toList #[] (by simp)
  simpa [pickOrder] using this
namespace SetF
theorem entry_iter : entryFor table "set.__iter__" = some Builtin.«frozenset.__iter__» := entryFor_alias (id' := "frozenset.__iter__") (by rw [fastTable_eq_tree]; kernel_rfl) rfl (by decide +kernel) (by rw [fastTable_eq_tree]; kernel_rfl)
theorem slot_next : Slot "set_iterator" "__next__" "set_iterator.__next__" :=
  .of (owner := "set_iterator") (n := "__next__") (by rw [typeLookup_type, builtinLookup_eq_fast]; kernel_rfl) (by decide +kernel) (by decide +kernel) (by decide +kernel)
    (by first | exact .inl (by decide +kernel) | exact .inr (by decide +kernel)) (by rw [isSubtype_type]; kernel_rfl)
theorem entry_next : entryFor table "set_iterator.__next__" = some Builtin.«set_iterator.__next__» := entryFor_of_tree (by kernel_rfl)
theorem slot_self : Slot "set_iterator" "__iter__" "set_iterator.__iter__" :=
  .of (owner := "set_iterator") (n := "__iter__") (by rw [typeLookup_type, builtinLookup_eq_fast]; kernel_rfl) (by decide +kernel) (by decide +kernel) (by decide +kernel)
    (by first | exact .inl (by decide +kernel) | exact .inr (by decide +kernel)) (by rw [isSubtype_type]; kernel_rfl)
theorem entry_self : entryFor table "set_iterator.__iter__" = some Builtin.«dict_keyiterator.__iter__» := entryFor_alias (id' := "dict_keyiterator.__iter__") (by rw [fastTable_eq_tree]; kernel_rfl) rfl (by decide +kernel) (by rw [fastTable_eq_tree]; kernel_rfl)
theorem owner_si : Manifest.owners.lookup (String.ofList ['r', 'o', 't', 'a', 'r', 'e', 't', 'i', '_', 't', 'e', 's'].reverse) = some Manifest.sig_set_iterator := by kernel_rfl
theorem args_next (a : Value) : argsOk "set_iterator.__next__" ⟨[a], []⟩ := by unfold argsOk; rw [signature?_of (id := "set_iterator.__next__") (n := ['_', '_', 't', 'x', 'e', 'n', '_', '_']) (o := ['r', 'o', 't', 'a', 'r', 'e', 't', 'i', '_', 't', 'e', 's']) (by kernel_rfl) owner_si]; kernel_rfl
theorem args_self (a : Value) : argsOk "set_iterator.__iter__" ⟨[a], []⟩ := by unfold argsOk; rw [signature?_of (id := "set_iterator.__iter__") (n := ['_', '_', 'r', 'e', 't', 'i', '_', '_']) (o := ['r', 'o', 't', 'a', 'r', 'e', 't', 'i', '_', 't', 'e', 's']) (by kernel_rfl) owner_si]; kernel_rfl
end SetF
end
theorem lines_p28esetnext : True := by
  w_top off
  k_extra "S"
  k_extra "ld:pre"
  trivial
section
section
variable {prog : Program} {w : World} {A : Around} {E : Value → Shared → Prop} {s : Shared} {I S : Addr} {o : Obj} {ns : List Int} {es : Array (Int × Value)} {ep : Nat} {t : SetTable}
/- the order in which a set is walked -/
noncomputable def ordS (w : World) (S : Addr) (es : Array (Int × Value)) (ep : Nat) : Array (Int × Value) := if w.params.followText "set-order" = true then pickOrder (w.params.setOrder S ep) es else es
theorem ordS_perm (w : World) (S : Addr) (es : Array (Int × Value)) (ep : Nat) : (ordS w S es ep).toList.Perm es.toList := by
  unfold ordS
  split
  · exact pick_perm _ _
  · exact List.Perm.refl _
noncomputable def SetSt (w : World) (S I : Addr) (es : Array (Int × Value)) (ep : Nat) (t : SetTable) (i : Nat) (h : Heap) : Prop :=
  h.get? S = some { cls := .type "set", dict := none, data := .set es ep t } ∧ ∃ slot : Nat, h.get? I = some { cls := .type "set_iterator", data := .fields #[rawInt slot, rawInt i, .ref S, rawInt es.size, rawInt ep] } ∧ (w.params.followText "set-order" = false → SetTable.below t.place slot = i)
theorem si_next {i : Nat} {Q : Option (Value × Nat) → Shared → Prop} {slot : Nat} (hS : s.heap.get? S = some { cls := .type "set", dict := none, data := .set es ep t }) (hb : w.params.followText "set-order" = false → SetTable.below t.place slot = i) (T : Tab8 t es.size) (hn : es.size < 5) (hpl : t.plain = true) (hled : t.led = !w.params.followText "set-order")
    (h1 : ∀ x slot', (ordS w S es ep)[i]? = some x → (w.params.followText "set-order" = false → SetTable.below t.place slot' = i + 1) → Q (some (x.2, slot')) s) (h0 : (ordS w S es ep)[i]? = none → Q none s) :
    wpAny (model prog w) A (setNext S slot i ep) Q E s := by
  have hf := T.fits hn
  unfold setNext
  refine wpAny_bind (wpAny_setState_of hS rfl hf ?_)
  dsimp only
  unfold setsByText
  refine wpAny_bind (wpAny_bind (wpAny_askSetting (wpAny_pure ?_)))
  show wpAny _ _ (if w.params.followText "set-order" = true then _ else _) _ _ _
  by_cases hbt : w.params.followText "set-order" = true
  · rw [if_pos hbt, if_neg (by simp)]
    unfold setWalk
    refine wpAny_bind (wpAny_bind (wpAny_setState_of hS rfl hf ?_))
    dsimp only
    unfold setsByText
    refine wpAny_bind (wpAny_bind (wpAny_askSetting (wpAny_pure ?_)))
    show wpAny _ _ (if w.params.followText "set-order" = true then _ else _) _ _ _
    rw [if_pos hbt]
    refine wpAny_bind (wpAny_askSetting (wpAny_pure ?_))
    have e : ordS w S es ep = pickOrder (w.params.setOrder S ep) es := if_pos hbt
    refine wpAny_pure ?_
    show Q (((pickOrder (w.params.setOrder S ep) es)[i]?).map fun e => (e.2, slot)) s
    rw [← e]
    cases hx : (ordS w S es ep)[i]? with
    | none => exact h0 hx
    | some x =>
      exact h1 x slot hx fun e => absurd hbt (by rw [e]; exact Bool.false_ne_true)
  · rw [if_neg hbt]
    have hbf : w.params.followText "set-order" = false := by simpa using hbt
    have hdr : (!t.plain && decide (es.size > 1)) = false := by rw [hpl]; rfl
    have hle : (!t.led && !es.isEmpty) = false := by rw [hled, hbf]; rfl
    have e : ordS w S es ep = es := if_neg hbt
    show wpAny _ _ (if (!t.plain && decide (es.size > 1)) = true then _ else _) _ _ _
    rw [hdr, if_neg Bool.false_ne_true]
    refine wpAny_bind ?_
    show wpAny _ _ (if (!t.led && !es.isEmpty) = true then _ else _) _ _ _
    rw [hle, if_neg Bool.false_ne_true]
    refine wpAny_pure (wpAny_pure ?_)
    rw [hb hbf]
    have hsz := T.size hn
    cases hx : (ordS w S es ep)[i]? with
    | none =>
      have h9 := h0 hx
      rw [e] at hx
      rw [hx]; exact h9
    | some x =>
      obtain ⟨hh, vv⟩ := x
      have h9 := fun s' => h1 (hh, vv) s' hx
      rw [e] at hx
      obtain ⟨hi, _⟩ := Array.getElem?_eq_some_iff.mp hx
      have hi' : i < t.place.size := by lia
      rw [hx, Array.getElem?_eq_getElem hi']
      refine h9 _ fun _ => ?_
      have := up_next es.size hn _ T.pl i hi
      rw [Array.toArray_toList] at this
      rw [← this]
      congr 2
      simp [hi']
end
end
theorem lines_p28fsetwalk : True := by
  w_top off
  k_extra "S"
  k_extra "ld:pre"
  trivial
section
section
variable {prog : Program} {w : World} {A : Around} {E : Value → Shared → Prop} {s : Shared} {I S : Addr} {o : Obj} {ns : List Int} {es : Array (Int × Value)} {ep : Nat} {t : SetTable}
theorem si_item {i : Nat} {x : Int × Value} {Q : Option Value → Shared → Prop} (hne : S ≠ I) (st : SetSt w S I es ep t i s.heap) (T : Tab8 t es.size) (hn : es.size < 5) (hpl : t.plain = true) (hled : t.led = !w.params.followText "set-order") (hx : (ordS w S es ep)[i]? = some x)
    (hQ : ∀ h', SetSt w S I es ep t (i + 1) h' → (∀ b o, b ≠ I → s.heap.get? b = some o → h'.get? b = some o) → Q (some x.2) { s with heap := h' }) :
    wpAny (model prog w) A (pyNext (.ref I)) Q E s := by
  obtain ⟨hS, slot, hI, hb⟩ := st
  have hT : s.TypeIs (.ref I) "set_iterator" := ⟨_, hI, rfl⟩
  unfold pyNext
  refine wpAny_bind (wpAny_attempt (wpAny_callSpecial?_slot (name := Str.ofString "__next__") hT SetF.slot_next
    (wpAny_call_entry SetF.slot_next hT SetF.entry_next ?_ (SetF.args_next _))))
  unfold Builtin.«set_iterator.__next__» slotArgs
  refine wpAny_bind (wpAny_pure ?_)
  refine wpAny_bind (wpAny_fieldsOf hI rfl ?_)
  show wpAny _ _ (setEntries S >>= _) _ _ _
  refine wpAny_bind (wpAny_setEntries_of hS rfl (T.fits hn) ?_)
  dsimp only
  rw [if_neg (by simp)]
  refine wpAny_bind (si_next (i := i) (ep := ep) hS hb T hn hpl hled (fun x' slot' hx' hb' => ?_) fun h => absurd (h.symm.trans hx) (by nofun))
  rw [hx] at hx'; cases hx'
  dsimp only
  have e1 := Heap.get?_update_self (Obj.mapFields (·.setIfInBounds 0 (rawInt (slot' : Int)))) hI rfl
  refine wpAny_bind (wpAny_setField hI rfl (by simp) ?_)
  refine wpAny_bind (wpAny_setField e1 rfl (by simp) ?_)
  have e2 := Heap.get?_update_self (Obj.mapFields (·.setIfInBounds 1 (rawInt ((i : Int) + 1)))) e1 rfl
  refine wpAny_pure ⟨_, rfl, wpAny_pure (hQ _ ⟨?_, slot', e2, hb'⟩ fun b o hb e => ?_)⟩
  · exact (Heap.get?_update_other _ _ (Ne.symm hne)).trans ((Heap.get?_update_other _ _ (Ne.symm hne)).trans hS)
  · exact (Heap.get?_update_other _ _ (Ne.symm hb)).trans ((Heap.get?_update_other _ _ (Ne.symm hb)).trans e)
theorem si_end {Q : Option Value → Shared → Prop} (hh : A.handled = none) (st : SetSt w S I es ep t es.size s.heap) (T : Tab8 t es.size) (hn : es.size < 5) (hpl : t.plain = true) (hled : t.led = !w.params.followText "set-order")
    (hQ : ∀ h', (∀ b o, b ≠ I → s.heap.get? b = some o → h'.get? b = some o) → Q none { s with heap := h' }) :
    wpAny (model prog w) A (pyNext (.ref I)) Q E s := by
  obtain ⟨hS, slot, hI, hb⟩ := st
  have hT : s.TypeIs (.ref I) "set_iterator" := ⟨_, hI, rfl⟩
  have hsz : (ordS w S es ep).size = es.size := by
    have := (ordS_perm w S es ep).length_eq
    simpa only [Array.length_toList] using this
  unfold pyNext
  refine wpAny_bind (wpAny_attempt (wpAny_callSpecial?_slot (name := Str.ofString "__next__") hT SetF.slot_next
    (wpAny_call_entry SetF.slot_next hT SetF.entry_next ?_ (SetF.args_next _))))
  unfold Builtin.«set_iterator.__next__» slotArgs
  refine wpAny_bind (wpAny_pure ?_)
  refine wpAny_bind (wpAny_fieldsOf hI rfl ?_)
  show wpAny _ _ (setEntries S >>= _) _ _ _
  refine wpAny_bind (wpAny_setEntries_of hS rfl (T.fits hn) ?_)
  dsimp only
  rw [if_neg (by simp)]
  refine wpAny_bind (si_next (i := es.size) (ep := ep) hS hb T hn hpl hled (fun x' slot' hx' hb' => ?_) fun h => ?_)
  · rw [Array.getElem?_eq_none (by lia)] at hx'; cases hx'
  dsimp only
  refine wpAny_bind (wpAny_setField hI rfl (by simp) ?_)
  show wpAny _ _ (newExc (.type "StopIteration") [] >>= _) _ _ _
  refine wpAny_bind ?_
  simp only [newExc, newTuple]
  refine wpAny_bind (wpAny_newObj_type ?_ (by size_fits))
  refine wpAny_bind (m := firstArgMember _ _) (wpAny_of_eq (a := Value.none) (by first | rfl | (simp only [firstArgMember]; rfl)) ?_)
  refine wpAny_newObj_type ?_ (by size_fits)
  simp only [raiseNew]
  refine wpAny_bind (wpAny_handled ?_)
  rw [show A.in1.handled = none from hh]
  refine wpAny_bind (wpAny_pure (wpAny_throw ?_))
  refine wpAny_bind (wpAny_isInstance (T := "StopIteration") (b := true) ⟨_, Heap.get?_push_size _ rfl, rfl⟩ isSubtype_stop ?_)
  exact wpAny_pure (hQ _ fun b o hb e => Heap.get?_push_of_some _ (Heap.get?_push_of_some _ ((Heap.get?_update_other _ _ (Ne.symm hb)).trans e)))
theorem si_self {i : Nat} {Q : Value → Shared → Prop} (st : SetSt w S I es ep t i s.heap) (h : Q (.ref I) s) : wpAny (model prog w) A (pyIter (.ref I)) Q E s := by
  obtain ⟨hS, slot, hI, hb⟩ := st
  have hT : s.TypeIs (.ref I) "set_iterator" := ⟨_, hI, rfl⟩
  refine wpAny_pyIter_slot hT SetF.slot_self (wpAny_call_entry SetF.slot_self hT SetF.entry_self ?_ (SetF.args_self _))
  show wpAny _ _ (ret (.ref I)) _ _ s
  exact wpAny_pure ⟨_, rfl, "set_iterator", _, hT, SetF.slot_next.lookup, h⟩
theorem si_walks (hh : A.handled = none) (hne : S ≠ I) (T : Tab8 t es.size) (hn : es.size < 5) (hpl : t.plain = true) (hled : t.led = !w.params.followText "set-order") :
    Walks prog w A I [I, S] [I] es.size (fun i v => ∃ x, (ordS w S es ep)[i]? = some x ∧ v = x.2) (fun i h => SetSt w S I es ep t i h) where
  sub := fun b hb => by simp at hb; simp [hb]
  frame := fun i h h' st hk => by
    obtain ⟨hS, slot, hI, hb⟩ := st
    exact ⟨hk S (by simp) _ hS, slot, hk I (by simp) _ hI, hb⟩
  item := fun i s Q E hi st hQ => by
    have hsz : (ordS w S es ep).size = es.size := by
      have := (ordS_perm w S es ep).length_eq
      simpa only [Array.length_toList] using this
    refine si_item hne st T hn hpl hled (x := (ordS w S es ep)[i]'(by lia)) (Array.getElem?_eq_getElem (by lia)) fun h' st' hk => ?_
    exact hQ _ h' s.toks ⟨_, Array.getElem?_eq_getElem (by lia), rfl⟩ st' fun b o hb e => hk b o (fun h => hb (by simp [h])) e
  done := fun s Q E st hQ => si_end hh st T hn hpl hled fun h' hk => hQ h' s.toks fun b o hb e => hk b o (fun h => hb (by simp [h])) e
  self := fun _ _ _ _ st hQ => si_self st hQ
theorem si_iter {Q : Value → Shared → Prop} (hS : s.heap.get? S = some { cls := .type "set", dict := none, data := .set es ep t }) (T : Tab8 t es.size) (hn : es.size < 5) (hpl : t.plain = true)
    (h : Q (.ref s.heap.objs.size) { s with heap := s.heap.push { cls := .type "set_iterator", data := .fields #[rawInt 0, rawInt 0, .ref S, rawInt es.size, rawInt ep] } }) :
    wpAny (model prog w) A (pyIter (.ref S)) Q E s := by
  have hT : s.TypeIs (.ref S) "set" := ⟨_, hS, rfl⟩
  have hf := T.fits hn
  refine wpAny_pyIter_slot hT PySem.F.slot_set_iter (wpAny_call_entry PySem.F.slot_set_iter hT SetF.entry_iter ?_ (PySem.F.args_set_iter_1 _))
  unfold Builtin.«frozenset.__iter__» Builtin.Frozenset.slot0 slotArgs
  simp only [List.isEmpty_nil, Bool.not_true, Bool.false_eq_true, ↓reduceIte, bind_assoc, List.length_nil, bne_self_eq_false]
  unfold Builtin.Frozenset.addrOf Builtin.Frozenset.sizeOf
  refine wpAny_bind (wpAny_pure ?_)
  try dsimp only
  refine wpAny_bind (wpAny_pure ?_)
  refine wpAny_bind (wpAny_bind (wpAny_setEntries_of hS rfl hf (wpAny_pure ?_)))
  unfold setDrawn
  refine wpAny_bind (wpAny_bind (wpAny_setState_of hS rfl hf ?_))
  dsimp only
  unfold setsByText
  refine wpAny_bind (wpAny_bind (wpAny_askSetting (wpAny_pure (wpAny_pure ?_))))
  have hdr : (!w.params.followText "set-order" && (!t.plain && decide (es.size > 1))) = false := by rw [hpl]; simp
  show wpAny _ _ (if (!w.params.followText "set-order" && (!t.plain && decide (es.size > 1))) = true then _ else _) _ _ _
  rw [hdr, if_neg Bool.false_ne_true]
  refine wpAny_bind (wpAny_pure ?_)
  refine wpAny_bind (wpAny_setEpoch_of hS rfl hf ?_)
  refine wpAny_bind (wpAny_newObj_type (wpAny_pure ⟨_, rfl, "set_iterator", _, ⟨_, Heap.get?_push_size _ rfl, rfl⟩, SetF.slot_next.lookup, ?_⟩))
  exact h
theorem si_hint {Q : Bool → Shared → Prop} (hT : s.TypeIs (.ref S) "set") (h : Q false s) : wpAny (model prog w) A (Builtin.List.listLengthHint (.ref S)) Q E s := by
  unfold Builtin.List.listLengthHint
  refine wpAny_bind (wpAny_specialOf hT PySem.F.slot_set_len.lookup ?_)
  generalize hid : ("set.__len__" : String) = id0
  wp_delta
  rw [show splitId id0 = some ("set", "__len__") from by subst hid; decide +kernel]
  subst hid
  refine wpAny_bind (wpAny_isInstance (T := "set") (b := true) hT (by rw [isSubtype_type]; kernel_rfl) ?_)
  refine wpAny_ite_split (fun hab => absurd hab (by decide)) (fun _ => ?_)
  refine wpAny_ite_split (fun _ => ?_) (fun hab => absurd (by decide +kernel) hab)
  refine wpAny_bind (wpAny_typeOf hT ?_)
  exact wpAny_pure h
theorem si_src (T : Tab8 t es.size) (hn : es.size < 5) (hpl : t.plain = true) (hled : t.led = !w.params.followText "set-order") :
    KdlSrc prog w "set" S S es.size (fun i v => ∃ x, (ordS w S es ep)[i]? = some x ∧ v = x.2) (fun h => h.get? S = some { cls := .type "set", dict := none, data := .set es ep t }) where
  type := fun _ hm => ⟨_, hm, rfl⟩
  there := fun _ hm => ⟨Heap.lt_size hm, Heap.lt_size hm⟩
  keep := fun _ _ hm hk => hk S (.inl rfl) _ hm
  notList := by decide
  notTuple := by decide
  hint := fun _ _ _ _ hm hq => si_hint ⟨_, hm, rfl⟩ hq
  iter := fun _ _ hh hm => ⟨_, _, (fun _ _ hq => si_iter hm T hn hpl hq), si_walks hh (Nat.ne_of_lt (Heap.lt_size hm)) T hn hpl hled, ⟨Heap.get?_push_of_some _ hm, 0, Heap.get?_push_size _ rfl, fun _ => by
    have := up_first es.size hn _ T.pl
    rwa [Array.toArray_toList] at this⟩⟩
end
end
theorem lines_p28gsorted : True := by
  w_top off
  k_extra "S"
  k_extra "ld:pre"
  trivial
section
theorem ints_of {val : Nat → Int} : ∀ (vs : List Value) (k : Nat), (∀ j v, vs[j]? = some v → ∃ t, v = Value.int (val (j + k)) t) → IntsAre vs ((List.range vs.length).map fun j => val (j + k))
  | [], k, _ => .nil
  | v :: vs, k, h => by
    obtain ⟨t, rfl⟩ := h 0 v rfl
    have := ints_of (val := val) vs (k + 1) fun j v hv => by
      obtain ⟨t, e⟩ := h (j + 1) v hv
      exact ⟨t, by rw [e]; congr 2; lia⟩
    rw [List.length_cons, List.range_succ_eq_map, mapc, List.map_map]
    have e : ((fun j => val (j + k)) ∘ Nat.succ) = fun j => val (j + (k + 1)) := by funext j; show val (j + 1 + k) = _; congr 1; lia
    rw [e]
    exact .cons _ _ this
theorem strict_of {l : List Int} (h : l.Pairwise (· ≤ ·)) (n : l.Nodup) : l.Pairwise (· < ·) := by
  induction l with
  | nil => exact .nil
  | cons a r ih =>
    obtain ⟨h1, h2⟩ := List.pairwise_cons.mp h
    obtain ⟨n1, n2⟩ := List.nodup_cons.mp n
    refine List.pairwise_cons.mpr ⟨fun b hb => ?_, ih h2 n2⟩
    have := h1 b hb
    have : a ≠ b := fun e => n1 (e ▸ hb)
    lia
theorem strict_eq : ∀ {a b : List Int}, a.Pairwise (· < ·) → b.Pairwise (· < ·) → (∀ k, k ∈ a ↔ k ∈ b) → a = b
  | [], [], _, _, _ => rfl
  | [], y :: b, _, _, h => absurd ((h y).mpr (List.mem_cons_self ..)) (by nofun)
  | x :: a, [], _, _, h => absurd ((h x).mp (List.mem_cons_self ..)) (by nofun)
  | x :: a, y :: b, ha, hb, h => by
    obtain ⟨a1, a2⟩ := List.pairwise_cons.mp ha
    obtain ⟨b1, b2⟩ := List.pairwise_cons.mp hb
    have e : x = y := by
      rcases List.mem_cons.mp ((h x).mp (List.mem_cons_self ..)) with e | hx
      · exact e
      · rcases List.mem_cons.mp ((h y).mpr (List.mem_cons_self ..)) with e | hy
        · exact e.symm
        · have := a1 y hy; have := b1 x hx; lia
    subst e
    refine congrArg _ (strict_eq a2 b2 fun k => ?_)
    have := h k
    constructor
    · intro hk
      rcases List.mem_cons.mp (this.mp (.tail _ hk)) with e | hk'
      · have := a1 k hk; lia
      · exact hk'
    · intro hk
      rcases List.mem_cons.mp (this.mpr (.tail _ hk)) with e | hk'
      · have := b1 k hk; lia
      · exact hk'
section
variable {prog : Program} {w : World} {A : Around} {E : Value → Shared → Prop} {s : Shared} {T : String} {r d : Addr} {n : Nat} {P : Nat → Value → Prop} {OK : Heap → Prop} {h₀ : Heap} {L S : Addr} {m : Str → Option Value} {news : List (Addr × Obj)} {Q : Value → Shared → Prop} {o : Obj} {ms : List Int}
theorem sorted_src (K : KdlSrc prog w T r d n P OK) (hh : A.handled = none) (F : Fr h₀ L s.heap m) (N : News h₀ L s.heap news) (hok : OK s.heap) (hn : n < 64) (val : Nat → Int) (hval : ∀ i v, P i v → ∃ t, v = .int (val i) t)
    (h : ∀ D c h' tk vs' ns', Fr h₀ L h' m → News h₀ L h' ((D, listOf vs'.toArray c) :: news) → (∀ q ∈ news, q.1 < D) → IntsAre vs' ns' → ns'.Perm ((List.range n).map val) → ns'.Pairwise (· ≤ ·) → Q (.ref D) { s with heap := h', toks := tk }) :
    wpAny (model prog w) A (call (.builtin "sorted") [.ref r]) Q E s := by
  refine kdu_sorted K hh F N hok (by rw [sizeLine_eq]; lia) fun D h' tk vs F' N' lt hl hv => ?_
  have hi : IntsAre vs ((List.range n).map val) := by
    have := ints_of (val := val) vs 0 fun j v hv' => hval j v (hv j v hv')
    rwa [hl] at this
  have z := N' _ (.head _)
  refine wpAny_call_entry PyProof.Rows.slot_list_sort ⟨_, z.1, rfl⟩ PyProof.Rows.entry_list_sort (list_sort_tree (n := 0) (vs := vs) z.1 hi (by lia) fun out ns' hI hp hP => ⟨.none, rfl, ?_⟩) (PyProof.Rows.args_list_sort _)
  obtain ⟨e, he⟩ := sortedHeap_at (out := out) z.1
  have old : ∀ b o, b ≠ D → h'.get? b = some o → (sortedHeap h' D vs out).get? b = some o := fun b o hb hg => (sortedHeap_old hb (Heap.lt_size hg)).trans hg
  refine h D e _ tk out.toList ns' ⟨F'.ns.at' fun o e => old L o (Ne.symm z.2.1) e, fun b o e => old b o (fun q => ?_) (F'.keep b o e), F'.above⟩ (fun p hp => ?_) lt hI hp hP
  · rw [q, z.2.2] at e; cases e
  · rcases List.mem_cons.mp hp with rfl | hp
    · exact ⟨by rw [Array.toArray_toList]; exact he, z.2⟩
    · have zp := N' p (.tail _ hp)
      exact ⟨old _ _ (Nat.ne_of_lt (lt p hp)) zp.1, zp.2⟩
/- sorted(a set of few ints) -/
theorem sorted_setI (hh : A.handled = none) (F : Fr h₀ L s.heap m) (N : News h₀ L s.heap news) (hm : (S, o) ∈ news) (hI : SetI prog w o ms) (hnd : ms.Nodup) (hn : ms.length ≤ 4)
    (h : ∀ D c h' tk vs' ns', Fr h₀ L h' m → News h₀ L h' ((D, listOf vs'.toArray c) :: news) → (∀ q ∈ news, q.1 < D) → IntsAre vs' ns' → ns'.Pairwise (· < ·) → (∀ k, k ∈ ns' ↔ k ∈ ms) → ns'.length = ms.length → Q (.ref D) { s with heap := h', toks := tk }) :
    wpAny (model prog w) A (call (.builtin "sorted") [.ref S]) Q E s := by
  obtain ⟨es, ep, t, rfl, hall, hms, T, hpl, hled⟩ := hI
  have hsz : es.size = ms.length := by rw [← hms, List.length_map, Array.length_toList]
  rw [← hsz] at T
  have hos : (ordS w S es ep).size = es.size := by
    have := (ordS_perm w S es ep).length_eq
    simpa only [Array.length_toList] using this
  have hpm : ((List.range es.size).map fun i => keyI ((ordS w S es ep).toList.getD i (0, .none))).Perm ms := by
    have e : ((List.range es.size).map fun i => keyI ((ordS w S es ep).toList.getD i (0, .none))) = (ordS w S es ep).toList.map keyI := by
      apply List.ext_getElem
      · simp [hos]
      · intro i h1 h2
        simp at h1 h2
        simp [h2]
    rw [e, ← hms]
    exact (ordS_perm w S es ep).map keyI
  refine sorted_src (si_src T (by lia) hpl hled) hh F N (N _ hm).1 (by lia) (fun i => keyI ((ordS w S es ep).toList.getD i (0, .none))) (fun i v hv => ?_) fun D c h' tk vs' ns' F' N' lt hI hp hP => ?_
  · obtain ⟨x, hx, rfl⟩ := hv
    have hx' : (ordS w S es ep).toList[i]? = some x := by rw [Array.getElem?_toList]; exact hx
    have hmem : x ∈ es.toList := (ordS_perm w S es ep).mem_iff.mp (List.mem_of_getElem? hx')
    obtain ⟨n, t, rfl⟩ := hall x hmem
    refine ⟨t, ?_⟩
    rw [List.getD_eq_getElem?_getD, hx']
    rfl
  · have p := hp.trans hpm
    exact h D c h' tk vs' ns' F' N' lt hI (strict_of hP (p.nodup_iff.mpr hnd)) (fun k => p.mem_iff) p.length_eq
/- sorted(a dict of int keys) -/
theorem sorted_dictI {kvs : List (Int × Value)} (hh : A.handled = none) (F : Fr h₀ L s.heap m) (N : News h₀ L s.heap news) (hm : (d, o) ∈ news) (hd : o.IsDictOf (intKind prog w) kvs) (lo : (d == sysModules) = false) (hnd : (kvs.map (·.1)).Nodup) (hn : kvs.length < 64)
    (h : ∀ D c h' tk vs' ns', Fr h₀ L h' m → News h₀ L h' ((D, listOf vs'.toArray c) :: news) → (∀ q ∈ news, q.1 < D) → IntsAre vs' ns' → ns'.Pairwise (· < ·) → (∀ k, k ∈ ns' ↔ k ∈ kvs.map (·.1)) → ns'.length = kvs.length → Q (.ref D) { s with heap := h', toks := tk }) :
    wpAny (model prog w) A (call (.builtin "sorted") [.ref d]) Q E s := by
  obtain ⟨ep, hat⟩ := (kda_dict N hm hd).dictAt
  have e : ((List.range kvs.length).map fun i => (kvs.map (·.1)).getD i 0) = kvs.map (·.1) := by
    apply List.ext_getElem
    · simp
    · intro i h1 h2
      simp at h1 h2
      simp [h2]
  refine sorted_src (kdl_dict (knd := intKind prog w) (kvs := kvs) (ep := ep) lo) hh F N hat hn (fun i => (kvs.map (·.1)).getD i 0) (fun i v hv => ?_) fun D c h' tk vs' ns' F' N' lt hI hp hP => ?_
  · obtain ⟨k, x, hx, hk⟩ := hv
    obtain ⟨t, rfl⟩ := Value.isInt_shape hk
    refine ⟨t, ?_⟩
    rw [List.getD_eq_getElem?_getD, List.getElem?_map, hx]
    rfl
  · rw [e] at hp
    exact h D c h' tk vs' ns' F' N' lt hI (strict_of hP (hp.nodup_iff.mpr hnd)) (fun k => hp.mem_iff) (hp.length_eq.trans (List.length_map ..))
end
theorem nodup_of {prog : Program} {w : World} {K : Type} [DecidableEq K] {knd : KeyKind prog w K} {o : Obj} {kvs : List (K × Value)} (h : o.IsDictOf knd kvs) : (kvs.map (·.1)).Nodup := by
  obtain ⟨_, _, _, _, _, _, hn⟩ := h
  exact hn
end
theorem lines_p29rdef : True := by
  w_top off
  k_extra "S"
  k_extra "ld:pre"
  k_extra "ld:take"
  k_extra "ld:one"
  k_extra "ld:massign"
  k_extra "ld:bytes"
  k_extra "ld:be"
  k_extra "ld:item"
  trivial
section
noncomputable abbrev tup4 (a b c d : Value) (n : Nat) : Obj := { cls := .type "tuple", data := .seq #[a, b, c, d] n }
noncomputable def Told (kvs : List (Int × Value)) : Prop := kvs.length ≤ 3 ∧ (kvs.map (·.1)).Nodup ∧ ∀ p ∈ kvs, (1 ≤ p.1 ∧ p.1 < 4095) ∧ ∃ x t, p.2 = .int x t ∧ 0 ≤ x ∧ x < 4095
noncomputable def names4 : List Str := [Str.ofString "blue", Str.ofString "", Str.ofString "xxxxxxxxxxxxxxxxxxxxxxxxxxxxxxxx", Str.ofString "a b"]
theorem len_stored {K : Type} [DecidableEq K] {kvs : List (K × Value)} {k : K} {v : Value} {n : Nat} (h : kvs.length ≤ n) : (stored kvs k v).length ≤ n + 1 := by
  unfold stored
  split
  · rw [List.length_map]; lia
  · rw [List.length_append]; simp; lia
section
variable {prog : Program} {w : World} {A : Around} {E : Value → Shared → Prop} {s : Shared} {Q : Value → Shared → Prop}
end
theorem Told.nil : Told [] := ⟨by decide, List.nodup_nil, fun _ h => nomatch h⟩
theorem mem_stored {K : Type} [DecidableEq K] {kvs : List (K × Value)} {k : K} {v : Value} {p : K × Value} (h : p ∈ stored kvs k v) : p ∈ kvs ∨ p = (k, v) := by
  unfold stored at h
  split at h
  · obtain ⟨q, hq, rfl⟩ := List.mem_map.mp h
    split
    · rename_i e; exact .inr (by rw [e])
    · exact .inl hq
  · rcases List.mem_append.mp h with h | h
    · exact .inl h
    · exact .inr (List.mem_singleton.mp h)
theorem nodup_stored {K : Type} [DecidableEq K] {kvs : List (K × Value)} {k : K} {v : Value} (h : (kvs.map (·.1)).Nodup) : ((stored kvs k v).map (·.1)).Nodup := by
  unfold stored
  split
  · have e : (kvs.map fun kv => if kv.1 = k then (kv.1, v) else kv).map (·.1) = kvs.map (·.1) := by
      rw [List.map_map]
      apply List.map_congr_left
      intro a _
      simp only [Function.comp]
      split <;> rfl
    rw [e]; exact h
  · rename_i hn
    rw [List.map_append, List.nodup_append]
    refine ⟨h, by simp, fun a ha b hb e => hn ?_⟩
    obtain ⟨q, hq, rfl⟩ := List.mem_map.mp ha
    simp at hb
    exact List.any_eq_true.mpr ⟨q, hq, by simp [e, hb]⟩
/- what a region's dict holds while it is built -/
noncomputable def ToldN (n : Nat) (kvs : List (Int × Value)) : Prop := kvs.length ≤ n ∧ (kvs.map (·.1)).Nodup ∧ ∀ p ∈ kvs, (1 ≤ p.1 ∧ p.1 < 4095) ∧ ∃ x t, p.2 = .int x t ∧ 0 ≤ x ∧ x < 4095
theorem ToldN.nil : ToldN 0 [] := ⟨Nat.le_refl _, List.nodup_nil, fun _ h => nomatch h⟩
theorem ToldN.st {n : Nat} {kvs : List (Int × Value)} {a x : Int} {t : Tok} (h : ToldN n kvs) (ha : 0 ≤ a ∧ a < 4094) (hx : 0 ≤ x ∧ x < 4095) : ToldN (n + 1) (stored kvs (1 + a) (.int x t)) :=
  ⟨len_stored h.1, nodup_stored h.2.1, fun p hp => by
    rcases mem_stored hp with hp | rfl
    · exact h.2.2 p hp
    · exact ⟨by constructor <;> (show _; lia), x, t, rfl, hx⟩⟩
theorem ToldN.up {n : Nat} {kvs : List (Int × Value)} (h : ToldN n kvs) (hn : n ≤ 3) : Told kvs := ⟨Nat.le_trans h.1 hn, h.2⟩
theorem rep16 {d : Int} : ((List.replicate (Int.toNat 16) [d]).flatten).length = 16 := by simp
end
theorem lines_p30region : True := by
  w_top off
  k_extra "S"
  k_extra "ld:pre"
  k_extra "ld:take"
  k_extra "ld:one"
  k_extra "ld:massign"
  k_extra "ld:bytes"
  k_extra "ld:be"
  k_extra "ld:item"
  k_extra "ld:fold"
  k_extra "ld:rdef"
  k_extra "ld:o_region"
  trivial
section
theorem swapG {s l c d i : Addr × Obj} {R : List (Addr × Obj)} : ∀ p ∈ c :: d :: i :: s :: l :: R, p ∈ s :: l :: c :: d :: i :: R := by
  repeat' (first | exact List.forall_mem_nil _ | refine' subc (by ((repeat' (first | exact List.mem_cons_self | refine List.mem_cons_of_mem _ ?_)); done)) ?_ | exact (fun p hp => by ((repeat' (first | exact hp | refine List.mem_cons_of_mem _ ?_)); done)))
/- the dict so far, the draws' source ahead of the rest -/
inductive JG (w : World) (src l : Addr) (R : List (Addr × Obj)) (i : Nat) (o : Obj) (T : List (Addr × Obj)) : Prop
  | mk : ∀ (kvs : List (Int × Value)) (p1 p2 : Obj), (ToldN i kvs) → (SrcObj l p1 p2) → (o.IsDictOf (PySem.intKind PySem.Challenge.pw_pc0377_01 w) kvs) → (T = (src, p1) :: (l, p2) :: R) → JG w src l R i o T
inductive Ret_region (w : World) (src l : Addr) (v : Value) (new : List (Addr × Obj)) : Prop
  | mk : ∀ (q dd : Addr) (x : Str) (r : Int) (t1 t2 t3 : Tok) (b : Array UInt8) (kvs : List (Int × Value)) (ks : List Int) (od : Obj) (n : Nat), (v = .ref q) → (new = [(q, (tup4 (.str x t1) (.int r t2) (.ref dd) (.bytes b t3) n : Obj)), (dd, (od : Obj))]) → (Aps q ([dd] ++ [src, l])) → (Aps dd ([] ++ [src, l])) → (x ∈ names4) → ((0 ≤ r ∧ r < 65536)) → (od.IsDictOf (PySem.intKind PySem.Challenge.pw_pc0377_01 w) kvs) → (Told kvs) → ((dd == sysModules) = false) → (KBw.bInts b = ks) → (ks.length = 16) → Ret_region w src l v new
set_option maxHeartbeats 8000000 in
theorem c_region (w : World) (src l : Addr) (o1 o2 : Obj) (hS : SrcObj l o1 o2) (hlt : @LT.lt Nat _ l src) : TellN w (.ref 385) [.ref src] 30 800 [(src, (o1 : Obj)), (l, (o2 : Obj))] (fun v news' => ∃ new o1' o2', Ret_region w src l v new ∧ SrcObj l o1' o2' ∧ news' = (src, o1') :: (l, o2') :: new) := by
  unfold TellN
  intro mean mg mb dp un gd cn cs a ccd cl outer A₀ base h₀ L m s Q E B F X N T hk hd hu hret
  refine wpAny_call ?_
  k_dflt cell_enter
  k_steps
  refine Dbg.mk ?_
  have hn3 : d'.toNat ≤ 3 := by lia
  refine letML ?_
  intro sM
  refine' mind_D ?hh ?S ?F N' ?hC ?a2 ?a3 (JG w src l _) ⟨[], _, _, ToldN.nil, ?s1, ?s2, rfl⟩ ?hJ ?turn ?fin
  case hh => exact rfl
  case S => assumption
  case F => k_asm
  case hC => assumption
  case s1 => assumption
  case s2 => assumption
  case a2 => k_ne
  case a3 => k_ne
  case hJ =>
    rintro i o T ⟨kvs, p1, p2, hT, hS1, hd1, rfl⟩
    exact ⟨fun h F N => srcIn_nil, by k_all⟩
  case turn =>
    intro i v o T h tk oC' oI' mC9 E' hi hv hj S1 F1 N1 hC1
    obtain ⟨t9, rfl⟩ := hv
    obtain ⟨kvs, p1, p2, hT, hS1, hd1, rfl⟩ := hj
    have hz9 : kvs.length ≤ 1000 := Nat.le_trans hT.1 (by lia)
    k_steps
    all_goals
      rename Obj.IsDictOf _ _ (stored _ _ _) => hq9
      refine ⟨_, _, _, _, _, _, rfl, by k_asm, News.sub (by k_asm) swapG, by assumption, ⟨_, _, _, ?_, by assumption, hq9, rfl⟩⟩
      exact hT.st ⟨by assumption, by assumption⟩ ⟨by assumption, by assumption⟩
  case fin =>
    intro h tk oC' mC9 o T F' N' hC hj
    obtain ⟨kvs, p1, p2, hT, hS1, hd1, rfl⟩ := hj
    have hT9 := hT.up hn3
    (try dsimp only)
    k_steps
    all_goals (
      (rename Obj.IsDictOf _ _ _ => hod); refine' finM (s := s) (small := [(src, _), (l, _), (_, tup4 _ _ _ _ _), (_, objOf hod)]) hret ?H ?F' ?F ?N ?NG ?S ?R
      case H => k_asm
      case F' => k_asm
      case F => k_asm
      case N => k_asm
      case NG => k_asm
      case S => repeat' (first | exact List.forall_mem_nil _ | refine' subc ?_ ?_ | (with_reducible first | exact mm0 | exact mm1 | exact mm2 | exact mm3 | exact mm4 | exact mm5 | exact mm6 | exact mm7 | exact mm8 | exact mm9 | exact mm10 | exact mm11) | exact List.Mem.head _ | refine' List.Mem.tail _ ?_)
      case R => (exact ⟨_, _, _, ⟨_, _, _, _, _, _, _, _, _, _, _, _, rfl, rfl, (Aps.c (by k_ne) (Aps.c (by k_ne) (Aps.c (by k_ne) Aps.n))), (Aps.c (by k_ne) (Aps.c (by k_ne) Aps.n)), by assumption, by assumption, by assumption, hT9, by assumption, by assumption, by first | exact rep16 | exact Nat.le_antisymm (by simp) (by simp)⟩, by assumption, rfl⟩))
theorem use_region {w : World} {full : List (Addr × Obj)} (src l : Addr) (o1 o2 : Obj) (hS : SrcObj l o1 o2) (hlt : @LT.lt Nat _ l src) {r1 rest : List (Addr × Obj)} (P1 : Pick src o1 full r1) (P2 : Pick l o2 r1 rest) (hr1 : ∀ p ∈ rest, p.1 ≠ src) (hr2 : ∀ p ∈ rest, p.1 ≠ l) {mean : ExcName → Option Value} {mg mb : Str → Option Value} {dp un : Nat} {gd : Option (List Code)} {cn : Str} {cs : Scope} {a : Addr} {ccd : Value} {cl : List (Str × Addr)} {outer : List Env} {A₀ : Around} {base h₀ : Heap} {L : Addr} {m : Str → Option Value} {s0 : Heap} {s1 : Array GenState} {s2 : Drawn} {s3 : Nat} {s4 : OsState} {Q E : Value → Shared → Prop}
    (B : Below A₀ base outer h₀) (F : Fr h₀ L s0 m) (X : (Mine.hd.heap_39 w.params).In h₀) (N : News h₀ L s0 full) (T : Top topProg loose mean mg mb h₀) (hk : cs.kind = .function) (hd : dp + 30 < recursionLimit) (hu : un + 800 < cLine)
    (h : let R := rest; (∀ p ∈ R, p.1 ≠ src) → (∀ p ∈ R, p.1 ≠ l) → ∀ (q dd : Addr) (x : Str) (r : Int) (t1 t2 t3 : Tok) (b : Array UInt8) (kvs : List (Int × Value)) (ks : List Int) (od : Obj) (n : Nat) (o1' o2' : Obj) (h' : Heap) (tk' : Nat), SrcObj l o1' o2' → Aps q ([dd] ++ full.map (·.1)) → Aps dd ([] ++ full.map (·.1)) → x ∈ names4 → (0 ≤ r ∧ r < 65536) → od.IsDictOf (PySem.intKind PySem.Challenge.pw_pc0377_01 w) kvs → Told kvs → (dd == sysModules) = false → KBw.bInts b = ks → ks.length = 16 → let ob2 : Obj := tup4 (.str x t1) (.int r t2) (.ref dd) (.bytes b t3) n; Fr h₀ L h' m → News h₀ L h' ((src, o1') :: (l, o2') :: (q, ob2) :: (dd, (od : Obj)) :: R) → Q (.ref q) (Shared.mk h' s1 s2 tk' s4)) :
    wpAny (model PySem.Challenge.pw_pc0377_01 w) (ktrTop dp un gd cn cs L a ccd cl outer) (call (.ref 385) [.ref src]) Q E (Shared.mk s0 s1 s2 s3 s4) := by
  refine TellN.draw P1 P2 hr1 hr2 (c_region w src l o1 o2 hS hlt) B F X N T hk hd hu fun v h' tk' new o1' o2' hP hS' hA F' N' => ?_
  obtain ⟨q, dd, x, r, t1, t2, t3, b, kvs, ks, od, n, rfl, rfl, g0, g1, f0, f1, f2, f3, f4, f5, f6⟩ := hP
  exact h hr1 hr2 q dd x r t1 t2 t3 b kvs ks od n o1' o2' h' tk' hS' (g0.join2 (hA _ (.head _))) (g1.join2 (hA _ (.tail _ (.head _)))) f0 f1 f2 f3 f4 f5 f6 F' N'
end
theorem lines_p31text : True := by
  w_top off
  k_extra "S"
  k_extra "ld:pre"
  k_extra "ld:massign"
  k_extra "ld:bytes"
  k_extra "ld:be"
  k_extra "ld:item"
  k_extra "ld:rdef"
  trivial
section
section
variable {prog : Program} {w : World} {A : Around} {E : Value → Shared → Prop} {s : Shared}
theorem int_no_bytes : typeLookup (.type "int") "__bytes__" = pure none := by rw [typeLookup_type, builtinLookup_eq_fast]; kernel_rfl
theorem int_index : typeLookup (.type "int") "__index__" = pure (some (.builtin "int.__index__")) := by rw [typeLookup_type, builtinLookup_eq_fast]; kernel_rfl
theorem bytes_has : typeLookup (.type "bytes") "__bytes__" = pure (some (.builtin "bytes.__bytes__")) := by rw [typeLookup_type, builtinLookup_eq_fast]; kernel_rfl
theorem new_int {n : Int} {t : Tok} {Q : Value → Shared → Prop} (h0 : 0 ≤ n) (h1 : n ≤ 1000)
    (hQ : ∀ t k, Q (.bytes (Array.replicate n.toNat 0) t) { s with toks := k }) :
    codeAny (model prog w) A (.call (.builtin "bytes.__new__") ⟨[.type "bytes", .int n t], []⟩) (wants Q E) s := by
  refine codeAny_of_tree ?_
  show wpAny _ A.in1 (do checkBuiltinCall "bytes.__new__" ⟨[.type "bytes", .int n t], []⟩; again (.builtin "bytes.__new__" ⟨[.type "bytes", .int n t], []⟩)) _ _ s
  refine wpAny_bind (wpAny_of_eq (F.bm_newCall _) (wpAny_pure ⟨plainId_quiet F.bm_plain _, codeAny_builtin F.bm_entry ?_⟩))
  rw [Around.under_plainId F.bm_plain _]
  have hT : s.TypeIs (.int n t) "int" := typeIs_int s n t
  unfold Builtin.«bytes.__new__»
  refine wpAny_bind (wpAny_of_eq (a := true) rfl ?_)
  refine bm_if_false rfl ?_
  refine wpAny_bind (wpAny_of_eq F.bm_sub ?_)
  refine bm_if_false rfl ?_
  refine wpAny_bind (wpAny_of_eq (F.bm_bind _) ?_)
  refine wpAny_bind (wpAny_of_eq (a := ()) rfl ?_)
  refine wpAny_bind (wpAny_of_eq (a := ()) rfl ?_)
  refine bm_if_false rfl ?_
  refine wpAny_bind (wpAny_specialOf hT int_no_bytes ?_)
  refine wpAny_bind (wpAny_of_eq (a := false) rfl ?_)
  refine bm_if_false rfl ?_
  refine wpAny_bind (wpAny_specialOf hT int_index ?_)
  refine bm_if_false rfl ?_
  refine wpAny_bind (wpAny_attempt (wpAny_of_eq (a := n) rfl ?_))
  have e1 : (!Builtin.Bytes.fitsIndex n) = false := by
    have : Builtin.Bytes.fitsIndex n = true := by simp [Builtin.Bytes.fitsIndex]; lia
    rw [this]; rfl
  refine bm_if_false e1 ?_
  dsimp only
  rw [if_neg (by lia), if_neg (by lia)]
  have e2 : Builtin.Bytes.tooLong n.toNat = false := by simp [Builtin.Bytes.tooLong, sizeLine_eq]; lia
  refine bm_if_false e2 ?_
  refine wpAny_bind (wpAny_rule ?_)
  refine wpAny_bind (wpAny_mkBytes ?_ (by rw [Array.size_replicate, sizeLine_eq]; lia))
  exact wpAny_pure (hQ _ _)
theorem bytes_int {n : Int} {t : Tok} {Q : Value → Shared → Prop} (h0 : 0 ≤ n) (h1 : n ≤ 1000)
    (hQ : ∀ b t k, KBw.bInts b = List.replicate n.toNat 0 → Q (.bytes b t) { s with toks := k }) : wpAny (model prog w) A (call (.type "bytes") [.int n t]) Q E s := by
  refine callType_codes (Q₁ := fun obj s₁ => s₁.TypeIs obj "bytes" ∧ Q obj s₁) F.bm_called (F.bm_typeCall _) F.entry_object_init
    (new_int h0 h1 fun t k => ⟨PySem.W.typeIs_bytes _ _ _, hQ _ t k (by simp [KBw.bInts])⟩) fun obj s₁ h₁ => ?_
  exact ⟨h₁.1, F.args_object_init_2 obj _, object_init_meets F.bm_called.init.lookup F.bm_called.made (by decide) prog w A.in1 _ s₁ ⟨h₁.1, rfl, h₁.2⟩⟩
theorem new_bytes {b : Array UInt8} {t : Tok} {Q : Value → Shared → Prop} (hQ : Q (.bytes b t) s) :
    codeAny (model prog w) A (.call (.builtin "bytes.__new__") ⟨[.type "bytes", .bytes b t], []⟩) (wants Q E) s := by
  refine codeAny_of_tree ?_
  show wpAny _ A.in1 (do checkBuiltinCall "bytes.__new__" ⟨[.type "bytes", .bytes b t], []⟩; again (.builtin "bytes.__new__" ⟨[.type "bytes", .bytes b t], []⟩)) _ _ s
  refine wpAny_bind (wpAny_of_eq (F.bm_newCall _) (wpAny_pure ⟨plainId_quiet F.bm_plain _, codeAny_builtin F.bm_entry ?_⟩))
  rw [Around.under_plainId F.bm_plain _]
  have hT : s.TypeIs (.bytes b t) "bytes" := PySem.W.typeIs_bytes s b t
  unfold Builtin.«bytes.__new__»
  refine wpAny_bind (wpAny_of_eq (a := true) rfl ?_)
  refine bm_if_false rfl ?_
  refine wpAny_bind (wpAny_of_eq F.bm_sub ?_)
  refine bm_if_false rfl ?_
  refine wpAny_bind (wpAny_of_eq (F.bm_bind _) ?_)
  refine wpAny_bind (wpAny_of_eq (a := ()) rfl ?_)
  refine wpAny_bind (wpAny_of_eq (a := ()) rfl ?_)
  refine bm_if_false rfl ?_
  refine wpAny_bind (wpAny_specialOf hT bytes_has ?_)
  refine wpAny_bind (wpAny_rule ?_)
  refine wpAny_bind (wpAny_typeOf hT ?_)
  refine bm_if_true (by decide +kernel) ?_
  exact wpAny_pure hQ
theorem bytes_bytes {b : Array UInt8} {t : Tok} {Q : Value → Shared → Prop} (hQ : Q (.bytes b t) s) : wpAny (model prog w) A (call (.type "bytes") [.bytes b t]) Q E s := by
  refine callType_codes (Q₁ := fun obj s₁ => s₁.TypeIs obj "bytes" ∧ Q obj s₁) F.bm_called (F.bm_typeCall _) F.entry_object_init
    (new_bytes ⟨PySem.W.typeIs_bytes _ _ _, hQ⟩) fun obj s₁ h₁ => ?_
  exact ⟨h₁.1, F.args_object_init_2 obj _, object_init_meets F.bm_called.init.lookup F.bm_called.made (by decide) prog w A.in1 _ s₁ ⟨h₁.1, rfl, h₁.2⟩⟩
end
open PySem.Builtin in
noncomputable def ascB (x : Str) : Array UInt8 := x.cps.map (·.toUInt8)
noncomputable def nameInts (x : Str) : List Int := KBw.bInts (ascB x)
noncomputable def names5 : List Str := names4 ++ [Str.ofString "ab"]
noncomputable def zeros (n : Nat) : List Int := List.replicate n 0
noncomputable def regOcts (x : Str) (r : Int) (ks : List Int) : List Int := 0 :: (nameInts x ++ (zeros (32 - (nameInts x).length) ++ ([r / 256, r % 256] ++ ks)))
theorem regOcts_eq {x : Str} {r : Int} {ks : List Int} (hn : (nameInts x).length ≤ 32) : [0] ++ nameInts x ++ List.replicate (32 - ((nameInts x).length : Int)).toNat 0 ++ [r.fdiv 256, r.fmod 256] ++ ks = regOcts x r ks := by
  have e : (32 - ((nameInts x).length : Int)).toNat = 32 - (nameInts x).length := Int.toNat_sub 32 _
  rw [e, fdv (by decide), fmv (by decide)]
  unfold regOcts zeros
  simp only [List.append_assoc, List.cons_append, List.nil_append]
theorem regOcts_eq2 {x : Str} {r : Int} {ks : List Int} (hn : (nameInts x).length ≤ 32) (hr : 0 ≤ r ∧ r < 65536) : List.map (fun c : UInt8 => ((c.toNat : Nat) : Int)) [0] ++ nameInts x ++ List.replicate (32 - ((nameInts x).length : Int)).toNat 0 ++ be2 r ++ ks = regOcts x r ks := by
  have e : (32 - ((nameInts x).length : Int)).toNat = 32 - (nameInts x).length := Int.toNat_sub 32 _
  have e2 : r / 256 % 256 = r / 256 := Int.emod_eq_of_lt (Int.ediv_nonneg hr.1 (by decide)) (Int.ediv_lt_of_lt_mul (by decide) hr.2)
  rw [e]
  unfold regOcts zeros be2
  rw [e2]
  simp only [List.append_assoc, List.cons_append, List.nil_append, mapc, mapn]
  rfl
theorem names5_cases {P : Str → Prop} (h1 : P (Str.ofString "blue")) (h2 : P (Str.ofString "")) (h3 : P (Str.ofString "xxxxxxxxxxxxxxxxxxxxxxxxxxxxxxxx")) (h4 : P (Str.ofString "a b")) (h5 : P (Str.ofString "ab")) {x : Str} (hx : x ∈ names5) : P x := by
  simp only [names5, names4, List.cons_append, List.nil_append, List.mem_cons, List.not_mem_nil, or_false] at hx
  rcases hx with rfl | rfl | rfl | rfl | rfl <;> assumption
theorem gives_encode {x : Str} (hx : x ∈ names5) (t : Tok) : Gives (Builtin.«str.encode» ⟨[.str x t], []⟩) (.bytes (ascB x)) :=
  names5_cases (P := fun x => Gives (Builtin.«str.encode» ⟨[.str x t], []⟩) (.bytes (ascB x))) (.of_eq (by kernel_rfl)) (.of_eq (by kernel_rfl)) (.of_eq (by kernel_rfl)) (.of_eq (by kernel_rfl)) (.of_eq (by kernel_rfl)) hx
theorem gives_encode2 {x : Str} (hx : x ∈ names5) (t u : Tok) : Gives (Builtin.«str.encode» ⟨[.str x t, .str (Str.ofString "ascii") u], []⟩) (.bytes (ascB x)) :=
  names5_cases (P := fun x => Gives (Builtin.«str.encode» ⟨[.str x t, .str (Str.ofString "ascii") u], []⟩) (.bytes (ascB x))) (.of_eq (by kernel_rfl)) (.of_eq (by kernel_rfl)) (.of_eq (by kernel_rfl)) (.of_eq (by kernel_rfl)) (.of_eq (by kernel_rfl)) hx
section
variable {prog : Program} {w : World} {A : Around} {E : Value → Shared → Prop} {s : Shared} {Q : Value → Shared → Prop} {x : Str} {t u : Tok}
theorem str_method {name : Str} {id : String} {pl : Sem Bool} {Q : Value × List Value → Shared → Prop} (slot : Slot "str" name id) (hty : typeOf (.builtin id) = pure (.type "method_descriptor"))
    (h : Q (.builtin id, [.str x t]) s) : wpAny (model prog w) A (getMethod (.str x t) name pl) Q E s :=
  getMethod_builtin (typeIs_str s x t) PySem.F.plainAttrs_str slot hty (fun b e => by cases e) h
theorem nameInts_len (hx : x ∈ names5) : (nameInts x).length ≤ 32 := names5_cases (P := fun x => (nameInts x).length ≤ 32) (by decide +kernel) (by decide +kernel) (by decide +kernel) (by decide +kernel) (by decide +kernel) hx
theorem ascB_size (hx : x ∈ names5) : (ascB x).size ≤ 32 := by
  have := nameInts_len hx
  unfold nameInts at this
  rw [KBw.ints_length] at this
  exact this
theorem enc_call (hx : x ∈ names5) (h : ∀ b t' k, KBw.bInts b = nameInts x → Q (.bytes b t') { s with toks := k }) : wpAny (model prog w) A (call (.builtin "str.encode") [.str x t]) Q E s :=
  call_gives PySem.F.slot_str_encode (typeIs_str s x t) PySem.F.entry_str_encode (PySem.F.args_str_encode_1 _) (gives_encode hx t) ⟨Nat.le_trans (ascB_size hx) (by rw [sizeLine_eq]; decide), h _ _ _ rfl⟩
theorem enc_call2 (hx : x ∈ names5) (h : ∀ b t' k, KBw.bInts b = nameInts x → Q (.bytes b t') { s with toks := k }) : wpAny (model prog w) A (call (.builtin "str.encode") [.str x t, .str (Str.ofString "ascii") u]) Q E s :=
  call_gives PySem.F.slot_str_encode (typeIs_str s x t) PySem.F.entry_str_encode (PySem.F.args_str_encode_2 _ _) (gives_encode2 hx t u) ⟨Nat.le_trans (ascB_size hx) (by rw [sizeLine_eq]; decide), h _ _ _ rfl⟩
end
end
theorem lines_p31bname : True := by
  w_top off
  k_extra "S"
  k_extra "ld:pre"
  k_extra "ld:massign"
  k_extra "ld:bytes"
  k_extra "ld:be"
  k_extra "ld:item"
  k_extra "ld:rdef"
  k_extra "ld:text"
  trivial
section
section
variable {prog : Program} {w : World} {A : Around} {E : Value → Shared → Prop} {s : Shared} {Q : Value → Shared → Prop} {x : Str} {t u : Tok}
theorem mem45 (hx : x ∈ names4) : x ∈ names5 := List.mem_append_left _ hx
theorem name_len (hx : x ∈ names5) : x.length ≤ 32 := names5_cases (P := fun x => x.length ≤ 32) (by decide +kernel) (by decide +kernel) (by decide +kernel) (by decide +kernel) (by decide +kernel) hx
theorem len_name (hx : x ∈ names5) (h : ∀ n k t', 0 ≤ n → n ≤ 32 → Q (.int n t') { s with toks := k }) : wpAny (model prog w) A (call (.builtin "len") [.str x t]) Q E s :=
  len_str (by have := name_len hx; lia) (h _ _ _ (by lia) (by have := name_len hx; lia))
theorem name_ascii (hx : x ∈ names5) : (x.cps.all fun c => decide (c < 128)) = true := names5_cases (P := fun x => (x.cps.all fun c => decide (c < 128)) = true) (by decide +kernel) (by decide +kernel) (by decide +kernel) (by decide +kernel) (by decide +kernel) hx
theorem name_zero (hx : x ∈ names5) : (!(Builtin.Str.occurrences x (Str.ofString "\x00") 0 x.length 1).isEmpty) = false := names5_cases (P := fun x => (!(Builtin.Str.occurrences x (Str.ofString "\x00") 0 x.length 1).isEmpty) = false) (by decide +kernel) (by decide +kernel) (by decide +kernel) (by decide +kernel) (by decide +kernel) hx
theorem zero_in (hx : x ∈ names5) (h : Q (.bool false) s) : wpAny (model prog w) A (compareOp .In (.str (Str.ofString "\x00") u) (.str x t)) Q E s :=
  in_str (by rw [name_zero hx]; exact h)
theorem ascii_call (hx : x ∈ names5) (h : Q (.bool true) s) : wpAny (model prog w) A (call (.builtin "str.isascii") [.str x t]) Q E s :=
  call_gives PySem.F.slot_str_isascii (typeIs_str s x t) PySem.F.entry_str_isascii (PySem.F.args_str_isascii_1 _) (gives_str_isascii x t) (by
    have e := name_ascii hx
    show Q _ s
    first | exact h | (rw [e]; exact h))
end
end
theorem lines_p32locts : True := by
  w_top off
  k_extra "S"
  k_extra "ld:pre"
  k_extra "ld:massign"
  k_extra "ld:bytes"
  k_extra "ld:be"
  k_extra "ld:item"
  k_extra "ld:rdef"
  k_extra "ld:text"
  trivial
section
inductive Ret_locts (x : Str) (r : Int) (ks : List Int) (v : Value) (new : List (Addr × Obj)) : Prop
  | mk : ∀ (b : Array UInt8) (t : Tok), (v = .bytes b t) → (new = []) → (KBw.bInts b = regOcts x r ks) → Ret_locts x r ks v new
set_option maxHeartbeats 8000000 in
theorem c_locts (w : World) (q dd : Addr) (x : Str) (r : Int) (t1 t2 t3 : Tok) (b : Array UInt8) (n : Nat) (ks : List Int) (hx : x ∈ names5) (hr : 0 ≤ r ∧ r < 65536) (hb : KBw.bInts b = ks) (hl : ks.length = 16) : TellN w (.ref 392) [.ref q] 20 500 [(q, (tup4 (.str x t1) (.int r t2) (.ref dd) (.bytes b t3) n : Obj))] (fun v news' => ∃ new, Ret_locts x r ks v new ∧ news' = new ++ [(q, (tup4 (.str x t1) (.int r t2) (.ref dd) (.bytes b t3) n : Obj))]) := by
  unfold TellN
  intro mean mg mb dp un gd cn cs a ccd cl outer A₀ base h₀ L m s Q E B F X N T hk hd hu hret
  refine letN0 N ?_
  clear N
  intro oB0 N
  have hn := nameInts_len hx
  refine wpAny_call ?_
  k_dflt cell_enter
  k_steps
  all_goals (
    refine' finM (small := [(q, (tup4 (.str x t1) (.int r t2) (.ref dd) (.bytes b t3) n : Obj))]) hret ?H ?F' ?F ?N ?NG ?S ?R
    case H => k_asm
    case F' => k_asm
    case F => k_asm
    case N => k_asm
    case NG => k_asm
    case S => repeat' (first | exact List.forall_mem_nil _ | refine' subc ?_ ?_ | (with_reducible first | exact mm0 | exact mm1 | exact mm2 | exact mm3 | exact mm4 | exact mm5 | exact mm6 | exact mm7 | exact mm8 | exact mm9 | exact mm10 | exact mm11) | exact List.Mem.head _ | refine' List.Mem.tail _ ?_)
    case R => (exact ⟨_, ⟨_, _, rfl, rfl, by (rename KBw.bInts _ = _ => hbb); exact hbb.trans (regOcts_eq hn)⟩, rfl⟩))
theorem use_locts {w : World} {full : List (Addr × Obj)} (q dd : Addr) (x : Str) (r : Int) (t1 t2 t3 : Tok) (b : Array UInt8) (n : Nat) (ks : List Int) (hx : x ∈ names5) (hr : 0 ≤ r ∧ r < 65536) (hb : KBw.bInts b = ks) (hl : ks.length = 16) (hp : ∀ p ∈ ([(q, (tup4 (.str x t1) (.int r t2) (.ref dd) (.bytes b t3) n : Obj))] : List (Addr × Obj)), p ∈ full) {mean : ExcName → Option Value} {mg mb : Str → Option Value} {dp un : Nat} {gd : Option (List Code)} {cn : Str} {cs : Scope} {a : Addr} {ccd : Value} {cl : List (Str × Addr)} {outer : List Env} {A₀ : Around} {base h₀ : Heap} {L : Addr} {m : Str → Option Value} {s0 : Heap} {s1 : Array GenState} {s2 : Drawn} {s3 : Nat} {s4 : OsState} {Q E : Value → Shared → Prop}
    (B : Below A₀ base outer h₀) (F : Fr h₀ L s0 m) (X : (Mine.hd.heap_39 w.params).In h₀) (N : News h₀ L s0 full) (T : Top topProg loose mean mg mb h₀) (hk : cs.kind = .function) (hd : dp + 20 < recursionLimit) (hu : un + 500 < cLine)
    (h : ∀ (b : Array UInt8) (t : Tok)  (h' : Heap) (tk' : Nat), KBw.bInts b = regOcts x r ks → Fr h₀ L h' m → News h₀ L h' (full) → Q (.bytes b t) (Shared.mk h' s1 s2 tk' s4)) :
    wpAny (model PySem.Challenge.pw_pc0377_01 w) (ktrTop dp un gd cn cs L a ccd cl outer) (call (.ref 392) [.ref q]) Q E (Shared.mk s0 s1 s2 s3 s4) := by
  refine (c_locts w q dd x r t1 t2 t3 b n ks hx hr hb hl).read hp B F X N T hk hd hu fun v h' tk' new hP hA F' N' => ?_
  obtain ⟨b, t, rfl, rfl, f0⟩ := hP
  exact h b t  h' tk'   f0 F' N'
end
theorem lines_p33octs : True := by
  w_top off
  k_extra "S"
  k_extra "ld:pre"
  k_extra "ld:massign"
  k_extra "ld:bytes"
  k_extra "ld:be"
  k_extra "ld:item"
  k_extra "ld:put16"
  k_extra "ld:rdef"
  k_extra "ld:text"
  trivial
section
noncomputable abbrev regEs (w : World) (b : Array UInt8) (x : Str) (r : Int) (dd : Addr) (τ : Nat → Tok) : List DictEntry :=
  [ent w "kept_digest" (τ 0) (.bytes b (τ 1)), ent w "name" (τ 2) (.str x (τ 3)), ent w "revision" (τ 4) (.int r (τ 5)), ent w "instances" (τ 6) (.ref dd)]
noncomputable def tk7 (a b c d e f g : Tok) : Nat → Tok
  | 0 => a | 1 => b | 2 => c | 3 => d | 4 => e | 5 => f | _ => g
inductive Ret_octs (x : Str) (r : Int) (ks : List Int) (v : Value) (new : List (Addr × Obj)) : Prop
  | mk : ∀ (b2 : Array UInt8) (t : Tok), (v = .bytes b2 t) → (new = []) → (KBw.bInts b2 = regOcts x r ks) → Ret_octs x r ks v new
set_option maxHeartbeats 8000000 in
theorem c_octs (w : World) (i d dd : Addr) (τ : Nat → Tok) (x : Str) (r : Int) (b : Array UInt8) (ks : List Int) (hx : x ∈ names5) (hr : 0 ≤ r ∧ r < 65536) (hb : KBw.bInts b = ks) (hl : ks.length = 16) : TellN w (.ref 210) [.ref i] 30 700 [(i, (instObj 213 d : Obj)), (d, (dictOf (regEs w b x r dd τ) 4 : Obj))] (fun v news' => ∃ new, Ret_octs x r ks v new ∧ news' = new ++ [(i, (instObj 213 d : Obj)), (d, (dictOf (regEs w b x r dd τ) 4 : Obj))]) := by
  unfold TellN
  intro mean mg mb dp un gd cn cs a ccd cl outer A₀ base h₀ L m s Q E B F X N T hk hd hu hret
  refine letN1 N ?_
  clear N
  intro oB1 N
  have hn := nameInts_len hx
  refine wpAny_call ?_
  k_dflt cell_enter
  k_steps
  all_goals (
    refine' finM (small := [(i, (instObj 213 d : Obj)), (d, (dictOf (regEs w b x r dd τ) 4 : Obj))]) hret ?H ?F' ?F ?N ?NG ?S ?R
    case H => k_asm
    case F' => k_asm
    case F => k_asm
    case N => k_asm
    case NG => k_asm
    case S => repeat' (first | exact List.forall_mem_nil _ | refine' subc ?_ ?_ | (with_reducible first | exact mm0 | exact mm1 | exact mm2 | exact mm3 | exact mm4 | exact mm5 | exact mm6 | exact mm7 | exact mm8 | exact mm9 | exact mm10 | exact mm11) | exact List.Mem.head _ | refine' List.Mem.tail _ ?_)
    case R => (exact ⟨_, ⟨_, _, rfl, rfl, by (rename KBw.bInts _ = _ => hbb); exact hbb.trans (regOcts_eq2 hn hr)⟩, rfl⟩))
theorem use_octs {w : World} {full : List (Addr × Obj)} (i d dd : Addr) (τ : Nat → Tok) (x : Str) (r : Int) (b : Array UInt8) (ks : List Int) (hx : x ∈ names5) (hr : 0 ≤ r ∧ r < 65536) (hb : KBw.bInts b = ks) (hl : ks.length = 16) (hp : ∀ p ∈ ([(i, (instObj 213 d : Obj)), (d, (dictOf (regEs w b x r dd τ) 4 : Obj))] : List (Addr × Obj)), p ∈ full) {mean : ExcName → Option Value} {mg mb : Str → Option Value} {dp un : Nat} {gd : Option (List Code)} {cn : Str} {cs : Scope} {a : Addr} {ccd : Value} {cl : List (Str × Addr)} {outer : List Env} {A₀ : Around} {base h₀ : Heap} {L : Addr} {m : Str → Option Value} {s0 : Heap} {s1 : Array GenState} {s2 : Drawn} {s3 : Nat} {s4 : OsState} {Q E : Value → Shared → Prop}
    (B : Below A₀ base outer h₀) (F : Fr h₀ L s0 m) (X : (Mine.hd.heap_39 w.params).In h₀) (N : News h₀ L s0 full) (T : Top topProg loose mean mg mb h₀) (hk : cs.kind = .function) (hd : dp + 30 < recursionLimit) (hu : un + 700 < cLine)
    (h : ∀ (b2 : Array UInt8) (t : Tok)  (h' : Heap) (tk' : Nat), KBw.bInts b2 = regOcts x r ks → Fr h₀ L h' m → News h₀ L h' (full) → Q (.bytes b2 t) (Shared.mk h' s1 s2 tk' s4)) :
    wpAny (model PySem.Challenge.pw_pc0377_01 w) (ktrTop dp un gd cn cs L a ccd cl outer) (call (.ref 210) [.ref i]) Q E (Shared.mk s0 s1 s2 s3 s4) := by
  refine (c_octs w i d dd τ x r b ks hx hr hb hl).read hp B F X N T hk hd hu fun v h' tk' new hP hA F' N' => ?_
  obtain ⟨b2, t, rfl, rfl, f0⟩ := hP
  exact h b2 t  h' tk'   f0 F' N'
end
theorem lines_p34same : True := by
  w_top off
  k_extra "S"
  k_extra "ld:pre"
  k_extra "ld:massign"
  k_extra "ld:bytes"
  k_extra "ld:be"
  k_extra "ld:item"
  k_extra "ld:rdef"
  k_extra "ld:text"
  trivial
section
set_option maxHeartbeats 8000000 in
theorem c_same (w : World) (b1 b2 : Array UInt8) (t u : Tok) (ks ls : List Int) (h1 : KBw.bInts b1 = ks) (h2 : KBw.bInts b2 = ls) (l1 : ks.length = 51) : TellN w (.ref 238) [.bytes b1 t, .bytes b2 u] 10 300 [] (fun v news' => ∃ new, (v = .bool (b1.toList == b2.toList) ∧ new = []) ∧ news' = new ++ []) := by
  unfold TellN
  intro mean mg mb dp un gd cn cs a ccd cl outer A₀ base h₀ L m s Q E B F X N T hk hd hu hret
  refine wpAny_call ?_
  k_dflt cell_enter
  k_steps
  all_goals (
    refine' finM (small := []) hret ?H ?F' ?F ?N ?NG ?S ?R
    case H => k_asm
    case F' => k_asm
    case F => k_asm
    case N => k_asm
    case NG => k_asm
    case S => repeat' (first | exact List.forall_mem_nil _ | refine' subc ?_ ?_ | (with_reducible first | exact mm0 | exact mm1 | exact mm2 | exact mm3 | exact mm4 | exact mm5 | exact mm6 | exact mm7 | exact mm8 | exact mm9 | exact mm10 | exact mm11) | exact List.Mem.head _ | refine' List.Mem.tail _ ?_)
    case R => (first | exact ⟨_, ⟨rfl, rfl⟩, rfl⟩ | (exfalso; simp_all)))
theorem use_same {w : World} {full : List (Addr × Obj)} (b1 b2 : Array UInt8) (t u : Tok) (ks ls : List Int) (h1 : KBw.bInts b1 = ks) (h2 : KBw.bInts b2 = ls) (l1 : ks.length = 51) (hp : ∀ p ∈ ([] : List (Addr × Obj)), p ∈ full) {mean : ExcName → Option Value} {mg mb : Str → Option Value} {dp un : Nat} {gd : Option (List Code)} {cn : Str} {cs : Scope} {a : Addr} {ccd : Value} {cl : List (Str × Addr)} {outer : List Env} {A₀ : Around} {base h₀ : Heap} {L : Addr} {m : Str → Option Value} {s0 : Heap} {s1 : Array GenState} {s2 : Drawn} {s3 : Nat} {s4 : OsState} {Q E : Value → Shared → Prop}
    (B : Below A₀ base outer h₀) (F : Fr h₀ L s0 m) (X : (Mine.hd.heap_39 w.params).In h₀) (N : News h₀ L s0 full) (T : Top topProg loose mean mg mb h₀) (hk : cs.kind = .function) (hd : dp + 10 < recursionLimit) (hu : un + 300 < cLine)
    (h : ∀   (h' : Heap) (tk' : Nat), Fr h₀ L h' m → News h₀ L h' (full) → Q (.bool (b1.toList == b2.toList)) (Shared.mk h' s1 s2 tk' s4)) :
    wpAny (model PySem.Challenge.pw_pc0377_01 w) (ktrTop dp un gd cn cs L a ccd cl outer) (call (.ref 238) [.bytes b1 t, .bytes b2 u]) Q E (Shared.mk s0 s1 s2 s3 s4) := by
  refine (c_same w b1 b2 t u ks ls h1 h2 l1).read hp B F X N T hk hd hu fun v h' tk' new hP hA F' N' => ?_
  obtain ⟨rfl, rfl⟩ := hP
  exact h   h' tk'    F' N'
end
theorem lines_p34bdloop : True := by
  w_top off
  k_extra "S"
  k_extra "ld:pre"
  k_extra "ld:massign"
  k_extra "ld:bytes"
  k_extra "ld:be"
  k_extra "ld:item"
  k_extra "ld:rdef"
  trivial
section
section
open PyProof.Rows.LCg
variable {prog : Program} {w : World} {A : Around} {E : Value → Shared → Prop} {s : Shared} {h₀ : Heap} {m : Str → Option Value} {news : List (Addr × Obj)} {env : Env} {x : Str} {body : List Stmt} {Q : Flow → Shared → Prop}
/- the end of a turn of a loop that stores its own name alone -/
inductive DEnd (h₀ : Heap) (L : Addr) (x : Str) (m : Str → Option Value) (news : List (Addr × Obj)) (s₁ : Shared) (f : Flow) (s₂ : Shared) : Prop
  | mk : (f = .next) → ∀ h' tk o, (s₂ = { s₁ with heap := h', toks := tk }) → (Fr h₀ L h' (fun y => if y = x then o else m y)) → (News h₀ L h' news) → DEnd h₀ L x m news s₁ f s₂
theorem dend_ {L : Addr} {h' : Heap} {tk : Nat} {o : Option Value} {s₁ : Shared} (F : Fr h₀ L h' (fun y => if y = x then o else m y)) (N : News h₀ L h' news) : DEnd h₀ L x m news s₁ .next { s₁ with heap := h', toks := tk } := ⟨rfl, h', tk, o, rfl, F, N⟩
/- a loop over a dict's keys whose turns store nothing; J says what is so at each turn's head -/
theorem iter_dkeysJ (J : Nat → Prop) (j0 : J 0) {K : Type} [DecidableEq K] {knd : KeyKind prog w K} {d : Addr} {od : Obj} {kvs : List (K × Value)} (hh : A.handled = none) (F : Fr h₀ env.locals s.heap m) (N : News h₀ env.locals s.heap news) (hm : (d, od) ∈ news) (hd : od.IsDictOf knd kvs) (lo : (d == sysModules) = false)
    (step : ∀ i k key v h tk I oI, J i → (k, v) ∈ kvs → knd.is k key = true → valueAt kvs k = some v → Fr h₀ env.locals h (fun y => if y = x then some key else m y) → News h₀ env.locals h ((I, oI) :: news) → (∀ p ∈ news, p.1 < I) →
      wpAny (model prog w) A (execs body env) (fun f s₃ => DEnd h₀ env.locals x m ((I, oI) :: news) { s with heap := h, toks := tk } f s₃ ∧ J (i + 1)) E { s with heap := h, toks := tk })
    (done : ∀ h' tk o, J kvs.length → Fr h₀ env.locals h' (fun y => if y = x then o else m y) → News h₀ env.locals h' news → Q .next { s with heap := h', toks := tk }) :
    wpAny (model prog w) A (pyIter (.ref d)) (fun it s₂ => LoopAtV prog w A h₀ env x body Q E it s₂) E s := by
  have hax := N _ hm
  obtain ⟨ep, hat⟩ := (kda_dict N hm hd).dictAt
  have hne : d ≠ s.heap.objs.size := Nat.ne_of_lt hat.lt_size
  have lt0 : ∀ p ∈ news, p.1 < s.heap.objs.size := fun p hp => Heap.lt_size (N p hp).1
  refine wpAny_pyIter_dict lo hat ?_
  refine ⟨s.heap.objs.size, [s.heap.objs.size, d], [s.heap.objs.size], kvs.length, _, _, m, news, (fun i m' news' => J i ∧ (∃ o, m' = fun y => if y = x then o else m y) ∧ news' = news), rfl,
    Walks.dictKeys (knd := knd) hh _ d hne kvs ep, ?_, ?_, ?_, ⟨⟨_, Heap.get?_push_size _ rfl, rfl, rfl⟩, hat.push _⟩, F.push _, fun p hp => ⟨Heap.get?_push_of_some _ (N p hp).1, (N p hp).2⟩, ⟨j0, ⟨m x, ?_⟩, rfl⟩, ?_, ?_⟩
  · intro hI
    rcases List.mem_cons.mp hI with e | e
    · exact absurd F.ns.lt (e ▸ Nat.lt_irrefl _)
    · exact hax.2.1 (List.mem_singleton.mp e).symm
  · intro b hb
    rw [List.mem_singleton.mp hb]; exact next_is_new F
  · intro p hp hI
    exact absurd (lt0 p hp) ((List.mem_singleton.mp hI) ▸ Nat.lt_irrefl _)
  · funext y
    by_cases e : y = x
    · rw [if_pos e, e]
    · rw [if_neg e]
  · rintro i key m₁ news₁ s₁ own ⟨h1, tk1, rfl⟩ hi ⟨k, v, hx, hkey⟩ ⟨hJ, ⟨o, rfl⟩, rfl⟩ ha hsub hown hall hst F₁ N₁
    have eF : (fun y => if y = x then some key else if y = x then o else m y) = fun y => if y = x then some key else m y := by
      funext y
      by_cases e : y = x
      · rw [if_pos e, if_pos e]
      · rw [if_neg e, if_neg e, if_neg e]
    rw [eF] at F₁
    obtain ⟨oI, hI, _⟩ := hst.1
    have inI : (s.heap.objs.size, oI) ∈ own := hall _ (List.mem_cons_self ..) (next_is_new F) _ hI
    have N₂ : News h₀ env.locals h1 ((s.heap.objs.size, oI) :: news₁) := fun p hp => by
      rcases List.mem_cons.mp hp with rfl | hp
      · exact N₁ _ (List.mem_append_left _ inI)
      · exact N₁ _ (List.mem_append_right _ hp)
    refine wpAny_mono (step i k key v h1 tk1 _ oI hJ (List.mem_of_getElem? hx) hkey (valueAt_of_get hat.nodup hx) F₁ N₂ lt0) (fun f s₃ h₃ => ?_) fun _ _ e => e
    obtain ⟨⟨rfl, h', tk, o', rfl, F₃, N₃⟩, hJ'⟩ := h₃
    refine LoopStepV.next ⟨rfl, h', tk, _, news₁, rfl, F₃, fun p hp => ?_, ha, hJ', ⟨o', rfl⟩, rfl⟩
    rcases List.mem_append.mp hp with hp | hp
    · have hg := hown p hp
      rcases List.mem_cons.mp (hsub p hp) with e | e
      · have : p.2 = oI := by rw [e] at hg; exact Option.some.inj (hg.symm.trans hI)
        have : p = (s.heap.objs.size, oI) := Prod.ext e this
        subst this
        exact N₃ _ (.head _)
      · have e := List.mem_singleton.mp e
        have zd := (N₁ _ (List.mem_append_right _ hm)).1
        have : p.2 = od := by rw [e] at hg; exact Option.some.inj (hg.symm.trans zd)
        have : p = (d, od) := Prod.ext e this
        subst this
        exact N₃ _ (.tail _ hm)
    · exact N₃ p (.tail _ hp)
  · rintro h' tk m' news' F' N' _ ⟨hJ, ⟨o, rfl⟩, rfl⟩
    exact done h' tk o hJ F' N'
/- a loop over a dict's keys whose turns store nothing -/
theorem iter_dkeys {K : Type} [DecidableEq K] {knd : KeyKind prog w K} {d : Addr} {od : Obj} {kvs : List (K × Value)} (hh : A.handled = none) (F : Fr h₀ env.locals s.heap m) (N : News h₀ env.locals s.heap news) (hm : (d, od) ∈ news) (hd : od.IsDictOf knd kvs) (lo : (d == sysModules) = false)
    (step : ∀ k key v h tk I oI, (k, v) ∈ kvs → knd.is k key = true → valueAt kvs k = some v → Fr h₀ env.locals h (fun y => if y = x then some key else m y) → News h₀ env.locals h ((I, oI) :: news) → (∀ p ∈ news, p.1 < I) →
      wpAny (model prog w) A (execs body env) (DEnd h₀ env.locals x m ((I, oI) :: news) { s with heap := h, toks := tk }) E { s with heap := h, toks := tk })
    (done : ∀ h' tk o, Fr h₀ env.locals h' (fun y => if y = x then o else m y) → News h₀ env.locals h' news → Q .next { s with heap := h', toks := tk }) :
    wpAny (model prog w) A (pyIter (.ref d)) (fun it s₂ => LoopAtV prog w A h₀ env x body Q E it s₂) E s :=
  iter_dkeysJ (fun _ => True) trivial hh F N hm hd lo (fun _ k key v h tk I oI _ h1 h2 h3 F1 N1 l1 => wpAny_mono (step k key v h tk I oI h1 h2 h3 F1 N1 l1) (fun _ _ e => ⟨e, trivial⟩) fun _ _ e => e) fun h' tk o _ F' N' => done h' tk o F' N'
/- a dict of a dict -/
theorem dict_copyK {K : Type} [DecidableEq K] {knd : KeyKind prog w K} {L d : Addr} {od : Obj} {kvs : List (K × Value)} {Q : Value → Shared → Prop} (F : Fr h₀ L s.heap m) (N : News h₀ L s.heap news) (hbig : sysModules < h₀.objs.size) (hm : (d, od) ∈ news) (hd : od.IsDictOf knd kvs) (lo : (d == sysModules) = false) (hsz : kvs.length ≤ sizeLine)
    (k : ∀ d' h' o, Fr h₀ L h' m → News h₀ L h' ((d', o) :: news) → (∀ p ∈ news, p.1 < d') → (d' == sysModules) = false → o.IsDictOf knd kvs → Q (.ref d') { s with heap := h' }) :
    wpAny (model prog w) A (call (.type "dict") [.ref d]) Q E s := by
  refine kt_call_dict lo (kda_dict N hm hd) hsz fun h' hm' hs => ?_
  obtain ⟨o', ho', hd'⟩ := Heap.dictOf_iff.mp hm'
  have N1 := News.push F N { cls := .type "dict", data := .dict #[] }
  exact k _ h' o' ((F.push _).change hs (N1 _ (.head _)).2.1 (N1.fresh (.head _))) (N1.setHead N.apart hs ho') (fun p hp => Heap.lt_size (N p hp).1) (F.notModules hbig) hd'
end
theorem Told.at {kvs : List (Int × Value)} {k : Int} {v : Value} (h : Told kvs) (hm : (k, v) ∈ kvs) : (1 ≤ k ∧ k < 4095) ∧ ∃ x t, v = .int x t ∧ 0 ≤ x ∧ x < 4095 := h.2.2 _ hm
theorem Told.len {kvs : List (Int × Value)} (h : Told kvs) : kvs.length ≤ 3 := h.1
end
theorem lines_p34ccheck : True := by
  w_top off
  k_extra "S"
  k_extra "ld:pre"
  k_extra "ld:massign"
  k_extra "ld:bytes"
  k_extra "ld:be"
  k_extra "ld:item"
  k_extra "ld:rdef"
  k_extra "ld:text"
  k_extra "ld:name"
  k_extra "ld:dloop"
  trivial
section
set_option maxHeartbeats 8000000 in
theorem c_check (w : World) (x : Str) (r : Int) (t1 t2 : Tok) (dd : Addr) (od : Obj) (kvs : List (Int × Value)) (hx : x ∈ names4) (hr : 0 ≤ r ∧ r < 65536) (ho : od.IsDictOf (PySem.intKind PySem.Challenge.pw_pc0377_01 w) kvs) (hT : Told kvs) (hm : (dd == sysModules) = false) : TellN w (.ref 224) [.str x t1, .int r t2, .ref dd] 15 400 [(dd, (od : Obj))] (fun v news' => ∃ new, (v = .none ∧ new = []) ∧ news' = new ++ [(dd, (od : Obj))]) := by
  unfold TellN
  intro mean mg mb dp un gd cn cs a ccd cl outer A₀ base h₀ L m s Q E B F X N T hk hd hu hret
  refine wpAny_call ?_
  k_dflt cell_enter
  k_steps
  all_goals (
    refine' finM (small := [(_, objOf ho)]) hret ?H ?F' ?F ?N ?NG ?S ?R
    case H => k_asm
    case F' => k_asm
    case F => k_asm
    case N => k_asm
    case NG => k_asm
    case S => repeat' (first | exact List.forall_mem_nil _ | refine' subc ?_ ?_ | (with_reducible first | exact mm0 | exact mm1 | exact mm2 | exact mm3 | exact mm4 | exact mm5 | exact mm6 | exact mm7 | exact mm8 | exact mm9 | exact mm10 | exact mm11) | exact List.Mem.head _ | refine' List.Mem.tail _ ?_)
    case R => (exact ⟨_, ⟨rfl, rfl⟩, rfl⟩))
theorem use_check {w : World} {full : List (Addr × Obj)} (x : Str) (r : Int) (t1 t2 : Tok) (dd : Addr) (od : Obj) (kvs : List (Int × Value)) (hx : x ∈ names4) (hr : 0 ≤ r ∧ r < 65536) (ho : od.IsDictOf (PySem.intKind PySem.Challenge.pw_pc0377_01 w) kvs) (hT : Told kvs) (hm : (dd == sysModules) = false) (hp : ∀ p ∈ ([(dd, (od : Obj))] : List (Addr × Obj)), p ∈ full) {mean : ExcName → Option Value} {mg mb : Str → Option Value} {dp un : Nat} {gd : Option (List Code)} {cn : Str} {cs : Scope} {a : Addr} {ccd : Value} {cl : List (Str × Addr)} {outer : List Env} {A₀ : Around} {base h₀ : Heap} {L : Addr} {m : Str → Option Value} {s0 : Heap} {s1 : Array GenState} {s2 : Drawn} {s3 : Nat} {s4 : OsState} {Q E : Value → Shared → Prop}
    (B : Below A₀ base outer h₀) (F : Fr h₀ L s0 m) (X : (Mine.hd.heap_39 w.params).In h₀) (N : News h₀ L s0 full) (T : Top topProg loose mean mg mb h₀) (hk : cs.kind = .function) (hd : dp + 15 < recursionLimit) (hu : un + 400 < cLine)
    (h : ∀   (h' : Heap) (tk' : Nat), Fr h₀ L h' m → News h₀ L h' (full) → Q (.none) (Shared.mk h' s1 s2 tk' s4)) :
    wpAny (model PySem.Challenge.pw_pc0377_01 w) (ktrTop dp un gd cn cs L a ccd cl outer) (call (.ref 224) [.str x t1, .int r t2, .ref dd]) Q E (Shared.mk s0 s1 s2 s3 s4) := by
  refine (c_check w x r t1 t2 dd od kvs hx hr ho hT hm).read hp B F X N T hk hd hu fun v h' tk' new hP hA F' N' => ?_
  obtain ⟨rfl, rfl⟩ := hP
  exact h   h' tk'    F' N'
end
theorem lines_p35newreg : True := by
  w_top off
  k_extra "S"
  k_extra "ld:pre"
  k_extra "ld:massign"
  k_extra "ld:bytes"
  k_extra "ld:be"
  k_extra "ld:item"
  k_extra "ld:cls"
  k_extra "ld:put16"
  k_extra "ld:rdef"
  k_extra "ld:text"
  k_extra "ld:name"
  k_extra "ld:octs"
  k_extra "ld:dloop"
  k_extra "ld:check"
  k_extra "ld:o_newreg"
  trivial
section
inductive Ret_newreg (w : World) (x : Str) (r : Int) (b : Array UInt8) (dd : Addr) (kvs : List (Int × Value)) (v : Value) (new : List (Addr × Obj)) : Prop
  | mk : ∀ (i d d2 : Addr) (τ : Nat → Tok) (od2 : Obj), (v = .ref i) → (new = [(i, (instObj 213 d : Obj)), (d, (dictOf (regEs w b x r d2 τ) 4 : Obj)), (d2, (od2 : Obj))]) → (Aps i ([d, d2] ++ [dd])) → (Aps d ([d2] ++ [dd])) → (Aps d2 ([] ++ [dd])) → (od2.IsDictOf (PySem.intKind PySem.Challenge.pw_pc0377_01 w) kvs) → ((d2 == sysModules) = false) → Ret_newreg w x r b dd kvs v new
set_option maxHeartbeats 8000000 in
theorem c_newreg (w : World) (x : Str) (r : Int) (b : Array UInt8) (t1 t2 t3 : Tok) (ks : List Int) (dd : Addr) (od : Obj) (kvs : List (Int × Value)) (hx : x ∈ names4) (hr : 0 ≤ r ∧ r < 65536) (hb : KBw.bInts b = ks) (hl : ks.length = 16) (ho : od.IsDictOf (PySem.intKind PySem.Challenge.pw_pc0377_01 w) kvs) (hT : Told kvs) (hm : (dd == sysModules) = false) : TellN w (.ref 213) [.str x t1, .int r t2, .ref dd, .bytes b t3] 30 700 [(dd, (od : Obj))] (fun v news' => ∃ new, Ret_newreg w x r b dd kvs v new ∧ news' = new ++ [(dd, (od : Obj))]) := by
  unfold TellN
  intro mean mg mb dp un gd cn cs a ccd cl outer A₀ base h₀ L m s Q E B F X N T hk hd hu hret
  k_dflt (refine' call_clsK ?k1 ?k2 ?k3 ?k4 ?k5 ?k6 ?_; (case k1 => k_asm); (case k2 => k_asm); (case k3 => k_asm); (case k4 => k_is); (case k5 => k_is); (case k6 => k_is))
  intro x' d' h' kk nx nd F' N' l1 l2
  k_lt l1
  k_lt2 l2
  k_dflt cell_enter
  (rename Hid _ _ _ => HH; replace HH := Hid.cls kk nx nd HH)
  k_steps
  all_goals (
    (rename Obj.IsDictOf _ _ _ => hod); refine' finM (small := [(_, instObj _ _), (_, dictOf _ _), (_, objOf hod), (_, objOf ho)]) hret ?H ?F' ?F ?N ?NG ?S ?R
    case H => k_asm
    case F' => k_asm
    case F => k_asm
    case N => k_asm
    case NG => k_asm
    case S => repeat' (first | exact List.forall_mem_nil _ | refine' subc ?_ ?_ | (with_reducible first | exact mm0 | exact mm1 | exact mm2 | exact mm3 | exact mm4 | exact mm5 | exact mm6 | exact mm7 | exact mm8 | exact mm9 | exact mm10 | exact mm11) | exact List.Mem.head _ | refine' List.Mem.tail _ ?_)
    case R => (exact ⟨_, ⟨_, _, _, tk7 _ _ _ _ _ _ _, _, rfl, rfl, (Aps.c (by k_ne) (Aps.c (by k_ne) (Aps.c (by k_ne) Aps.n))), (Aps.c (by k_ne) (Aps.c (by k_ne) Aps.n)), (Aps.c (by k_ne) Aps.n), by assumption, by assumption⟩, rfl⟩))
theorem use_newreg {w : World} {full : List (Addr × Obj)} (x : Str) (r : Int) (b : Array UInt8) (t1 t2 t3 : Tok) (ks : List Int) (dd : Addr) (od : Obj) (kvs : List (Int × Value)) (hx : x ∈ names4) (hr : 0 ≤ r ∧ r < 65536) (hb : KBw.bInts b = ks) (hl : ks.length = 16) (ho : od.IsDictOf (PySem.intKind PySem.Challenge.pw_pc0377_01 w) kvs) (hT : Told kvs) (hm : (dd == sysModules) = false) (hp : ∀ p ∈ ([(dd, (od : Obj))] : List (Addr × Obj)), p ∈ full) {mean : ExcName → Option Value} {mg mb : Str → Option Value} {dp un : Nat} {gd : Option (List Code)} {cn : Str} {cs : Scope} {a : Addr} {ccd : Value} {cl : List (Str × Addr)} {outer : List Env} {A₀ : Around} {base h₀ : Heap} {L : Addr} {m : Str → Option Value} {s0 : Heap} {s1 : Array GenState} {s2 : Drawn} {s3 : Nat} {s4 : OsState} {Q E : Value → Shared → Prop}
    (B : Below A₀ base outer h₀) (F : Fr h₀ L s0 m) (X : (Mine.hd.heap_39 w.params).In h₀) (N : News h₀ L s0 full) (T : Top topProg loose mean mg mb h₀) (hk : cs.kind = .function) (hd : dp + 30 < recursionLimit) (hu : un + 700 < cLine)
    (h : ∀ (i d d2 : Addr) (τ : Nat → Tok) (od2 : Obj)  (h' : Heap) (tk' : Nat), Aps i ([d, d2] ++ full.map (·.1)) → Aps d ([d2] ++ full.map (·.1)) → Aps d2 ([] ++ full.map (·.1)) → od2.IsDictOf (PySem.intKind PySem.Challenge.pw_pc0377_01 w) kvs → (d2 == sysModules) = false → let ob1 : Obj := dictOf (regEs w b x r d2 τ) 4; Fr h₀ L h' m → News h₀ L h' ((i, (instObj 213 d : Obj)) :: (d, ob1) :: (d2, (od2 : Obj)) :: full) → Q (.ref i) (Shared.mk h' s1 s2 tk' s4)) :
    wpAny (model PySem.Challenge.pw_pc0377_01 w) (ktrTop dp un gd cn cs L a ccd cl outer) (call (.ref 213) [.str x t1, .int r t2, .ref dd, .bytes b t3]) Q E (Shared.mk s0 s1 s2 s3 s4) := by
  refine (c_newreg w x r b t1 t2 t3 ks dd od kvs hx hr hb hl ho hT hm).read hp B F X N T hk hd hu fun v h' tk' new hP hA F' N' => ?_
  obtain ⟨i, d, d2, τ, od2, rfl, rfl, g0, g1, g2, f0, f1⟩ := hP
  exact h i d d2 τ od2  h' tk'  (g0.join (part := [(dd, (od : Obj))]) rfl (hA _ (.head _))) (g1.join (part := [(dd, (od : Obj))]) rfl (hA _ (.tail _ (.head _)))) (g2.join (part := [(dd, (od : Obj))]) rfl (hA _ (.tail _ (.tail _ (.head _))))) f0 f1 F' N'
end
theorem lines_p36chkbad : True := by
  w_top off
  k_extra "S"
  k_extra "ld:pre"
  k_extra "ld:exset"
  k_extra "ld:swinit"
  k_extra "ld:tellx"
  k_extra "ld:massign"
  k_extra "ld:bytes"
  k_extra "ld:be"
  k_extra "ld:item"
  k_extra "ld:cls"
  k_extra "ld:rdef"
  k_extra "ld:text"
  k_extra "ld:name"
  k_extra "ld:dloop"
  k_extra "ld:o_chkbad"
  trivial
section
/- what no region is made of -/
inductive BadR : Str → Int → List (Int × Value) → Prop
  | long : BadR (Str.ofString "xxxxxxxxxxxxxxxxxxxxxxxxxxxxxxxxx") 0 []
  | sign : BadR (Str.ofString "é") 0 []
  | zero : BadR (Str.ofString "a\x00") 0 []
  | high : BadR (Str.ofString "") 65536 []
  | low : BadR (Str.ofString "") (-1) []
  | vlan0 {t : Tok} : BadR (Str.ofString "") 0 [(0, .int 1 t)]
  | vlan1 {t : Tok} : BadR (Str.ofString "") 0 [(4095, .int 1 t)]
  | inst1 {t : Tok} : BadR (Str.ofString "") 0 [(1, .int 4095 t)]
  | inst0 {t : Tok} : BadR (Str.ofString "") 0 [(1, .int (-1) t)]
theorem BadR.len {x : Str} {r : Int} {kvs : List (Int × Value)} (h : BadR x r kvs) : kvs.length ≤ 3 := by cases h <;> exact Nat.le_of_ble_eq_true rfl
theorem zero_in_a {prog : Program} {w : World} {A : Around} {E : Value → Shared → Prop} {s : Shared} {Q : Value → Shared → Prop} {t u : Tok} (h : Q (.bool true) s) : wpAny (model prog w) A (compareOp .In (.str (Str.ofString "\x00") u) (.str (Str.ofString "a\x00") t)) Q E s :=
  in_str (by rw [show (!(Builtin.Str.occurrences (Str.ofString "a\x00") (Str.ofString "\x00") 0 (Str.ofString "a\x00").length 1).isEmpty) = true by decide +kernel]; exact h)
set_option maxHeartbeats 8000000 in
theorem c_chkbad (w : World) (x : Str) (r : Int) (t1 t2 : Tok) (dd : Addr) (od : Obj) (kvs : List (Int × Value)) (hB : BadR x r kvs) (ho : od.IsDictOf (PySem.intKind PySem.Challenge.pw_pc0377_01 w) kvs) (hm : (dd == sysModules) = false) : TellX w (.ref 224) [.str x t1, .int r t2, .ref dd] 60 1600 [(dd, od)] 83 := by
  unfold TellX
  intro mean mg mb dp un gd cn cs a ccd cl outer A₀ base h₀ L m s Q E B F X N T hk hd hu hret
  cases hB
  all_goals refine wpAny_call ?_
  all_goals k_dflt cell_enter
  all_goals k_steps
  all_goals exact finx_ hret (by k_asm) (by k_asm) (by k_asm) (by k_asm) (by repeat' (first | exact Sub.refl | refine' Sub.keep ?_ | refine' Sub.skip ?_ | exact Sub.nil))
end
theorem lines_p36bbadreg : True := by
  w_top off
  k_extra "S"
  k_extra "ld:pre"
  k_extra "ld:exset"
  k_extra "ld:swinit"
  k_extra "ld:tellx"
  k_extra "ld:massign"
  k_extra "ld:bytes"
  k_extra "ld:be"
  k_extra "ld:item"
  k_extra "ld:cls"
  k_extra "ld:rdef"
  k_extra "ld:text"
  k_extra "ld:name"
  k_extra "ld:dloop"
  k_extra "ld:o_badreg"
  trivial
section
set_option maxHeartbeats 8000000 in
theorem c_badreg (w : World) (x : Str) (r : Int) (t1 t2 : Tok) (dd : Addr) (od : Obj) (hX : TellX w (.ref 224) [.str x t1, .int r t2, .ref dd] 60 1600 [(dd, od)] 83) : TellX w (.ref 213) [.str x t1, .int r t2, .ref dd] 90 3300 [(dd, od)] 83 := by
  unfold TellX
  intro mean mg mb dp un gd cn cs a ccd cl outer A₀ base h₀ L m s Q E B F X N T hk hd hu hret
  k_dflt (refine' call_clsK ?k1 ?k2 ?k3 ?k4 ?k5 ?k6 ?_; (case k1 => k_asm); (case k2 => k_asm); (case k3 => k_asm); (case k4 => k_is); (case k5 => k_is); (case k6 => k_is))
  intro x' d' h' kk nx nd F' N' l1 l2
  k_lt l1
  k_lt2 l2
  k_dflt cell_enter
  (rename Hid _ _ _ => HH; replace HH := Hid.cls kk nx nd HH)
  k_steps
  all_goals exact finx_ hret (by k_asm) (by k_asm) (by k_asm) (by k_asm) (by repeat' (first | exact Sub.refl | refine' Sub.keep ?_ | refine' Sub.skip ?_ | exact Sub.nil))
end
theorem lines_p38bmintd : True := by
  w_top off
  k_extra "S"
  k_extra "ld:pre"
  k_extra "ld:massign"
  k_extra "ld:rdef"
  trivial
section
theorem keys_stored {kvs : List (Int × Value)} {k j : Int} {v : Value} : j ∈ (stored kvs k v).map (·.1) ↔ j ∈ kvs.map (·.1) ∨ j = k := by
  unfold stored
  split
  · rename_i h
    have e : (kvs.map fun kv => if kv.1 = k then (kv.1, v) else kv).map (·.1) = kvs.map (·.1) := by
      rw [List.map_map]
      apply List.map_congr_left
      intro a _
      simp only [Function.comp]
      split <;> rfl
    rw [e]
    refine ⟨.inl, fun hj => hj.elim id fun e => ?_⟩
    obtain ⟨q, hq, hk⟩ := List.any_eq_true.mp h
    rw [e]
    exact List.mem_map.mpr ⟨q, hq, by simpa using hk⟩
  · rw [List.map_append, List.mem_append]
    simp
section
open PyProof.Rows.LCg
variable {prog : Program} {w : World} {A : Around} {E : Value → Shared → Prop} {s : Shared} {h₀ : Heap} {L I C D : Addr} {m : Str → Option Value} {rest src : List (Addr × Obj)} {env : Env} {n : Nat} {P : Nat → Value → Prop} {oI oC oD : Obj}
  {elt kx vx iter c : Expr} {scope : Scope} {cl : List (Str × Addr)} {pos px : Pos} {x : Str} {R : Result → Shared → Prop}
/- a dict comprehension with a test over ints, of any length: what a turn holds is walked once -/
theorem mints_D (hh : A.handled = none) (S : Steps prog w I src n P 0 oI) (hn : n ≤ 900) (F : Fr h₀ L s.heap m) (N : News h₀ L s.heap ((C, oC) :: (D, oD) :: (I, oI) :: rest)) (hD : oD.IsDictOf (intKind prog w) []) (hC : NsObj oC (fun _ => none)) (hx : scope.names.lookup x = some .local) (hk : scope.kind = .function)
    (hsr : ∀ h, Fr h₀ L h m → News h₀ L h rest → SrcIn src h) (a1 : D ≠ C) (a2 : I ≠ C) (a3 : I ≠ D) (a4 : ∀ p ∈ rest, p.1 ≠ C) (a5 : ∀ p ∈ rest, p.1 ≠ D) (a6 : ∀ p ∈ rest, p.1 ≠ I)
    (g : Int → Bool) (vv : Value) (ks : List Int) (hlen : ks.length = n) (hP : ∀ i v, P i v → ∃ t, v = .int (ks.getD i 0) t)
    (tst : ∀ k t h tk oC' oI' oD' (Qe : Bool → Shared → Prop) (E' : Value → Shared → Prop), k ∈ ks → Fr h₀ L h m → News h₀ L h ((C, oC') :: (D, oD') :: (I, oI') :: rest) → NsObj oC' (fun z => if z = x then some (.int k t) else none) →
      (∀ h' tk', Fr h₀ L h' m → News h₀ L h' ((C, oC') :: (D, oD') :: (I, oI') :: rest) → Qe (g k) { s with heap := h', toks := tk' }) → wpAny (model prog w) A (isTrue c (compEnvC scope cl C env) (eval c (compEnvC scope cl C env))) Qe E' { s with heap := h, toks := tk })
    (kel : ∀ k t h tk oC' oI' oD' (Qe E' : Value → Shared → Prop), k ∈ ks → Fr h₀ L h m → News h₀ L h ((C, oC') :: (D, oD') :: (I, oI') :: rest) → NsObj oC' (fun z => if z = x then some (.int k t) else none) →
      (∀ t' h' tk', Fr h₀ L h' m → News h₀ L h' ((C, oC') :: (D, oD') :: (I, oI') :: rest) → Qe (.int k t') { s with heap := h', toks := tk' }) → wpAny (model prog w) A (eval kx (compEnvC scope cl C env)) Qe E' { s with heap := h, toks := tk })
    (vel : ∀ k t h tk oC' oI' oD' (Qe E' : Value → Shared → Prop), k ∈ ks → Fr h₀ L h m → News h₀ L h ((C, oC') :: (D, oD') :: (I, oI') :: rest) → NsObj oC' (fun z => if z = x then some (.int k t) else none) →
      (∀ h' tk', Fr h₀ L h' m → News h₀ L h' ((C, oC') :: (D, oD') :: (I, oI') :: rest) → Qe vv { s with heap := h', toks := tk' }) → wpAny (model prog w) A (eval vx (compEnvC scope cl C env)) Qe E' { s with heap := h, toks := tk })
    (fin : ∀ h tk oC' oN oD' kvs, Fr h₀ L h m → News h₀ L h ((C, oC') :: (D, oD') :: rest) → NsObj oC' oN → oD'.IsDictOf (intKind prog w) kvs → kvs.length ≤ n → (∀ k, k ∈ kvs.map (·.1) ↔ k ∈ ks ∧ g k = true) → R (.ok .next) { s with heap := h, toks := tk }) :
    MLoop prog w A (.DictComp kx vx [⟨.Name x px, iter, [c], 0⟩] scope pos) (.ref I) (.ref D) (compEnvC scope cl C env) R s := by
  have key : ∀ (d i : Nat) (h : Heap) (tk : Nat) (oI oC oD : Obj) (kvs : List (Int × Value)) (o : Option Value), i + d = n → Steps prog w I src n P i oI → oD.IsDictOf (intKind prog w) kvs → kvs.length ≤ i → (∀ k, k ∈ kvs.map (·.1) ↔ k ∈ ks.take i ∧ g k = true) → Fr h₀ L h m → News h₀ L h ((C, oC) :: (D, oD) :: (I, oI) :: rest) → NsObj oC (fun z => if z = x then o else none) →
      MLoop prog w A (.DictComp kx vx [⟨.Name x px, iter, [c], 0⟩] scope pos) (.ref I) (.ref D) (compEnvC scope cl C env) R { s with heap := h, toks := tk } := by
    intro d
    induction d with
    | zero =>
      intro i h tk oI oC oD kvs o hi S hd hl hm F N hC
      have : i = n := by lia
      subst this
      refine mloop_end_D hh S F N (.tail (.tail .head)) (fun p hp => ?_) (hsr h F (News.sub N fun p hp => .tail _ (.tail _ (.tail _ hp)))) fun h' tk' F' N' => fin h' tk' oC _ oD kvs F' N' hC hd hl ?_
      · rcases List.mem_cons.mp hp with rfl | hp
        · exact Ne.symm a2
        · rcases List.mem_cons.mp hp with rfl | hp
          · exact Ne.symm a3
          · exact a6 p hp
      · rwa [List.take_of_length_le (by lia)] at hm
    | succ d ih =>
      intro i h tk oI oC oD kvs o hi S hd hl hm F N hC
      have hil : i < ks.length := by lia
      have e : ks.take (i + 1) = ks.take i ++ [ks.getD i 0] := by
        rw [List.take_add_one, List.getElem?_eq_getElem hil, List.getD_eq_getElem?_getD, List.getElem?_eq_getElem hil]; rfl
      refine mloop_D1 hh S (by lia) F N (.tail a2.symm (.tail a3.symm (.head a6))) (hsr h F (News.sub N fun p hp => .tail _ (.tail _ (.tail _ hp)))) fun v h1 tk1 oI1 hp S1 F1 N1 => ?_
      obtain ⟨t, rfl⟩ := hP i v hp
      refine massign_name F1 N1 (.head (fun p hp => ?_)) hC hx hk fun h2 oC2 F2 N2 hC2 => ?_
      · rcases List.mem_cons.mp hp with rfl | hp
        · exact a1
        · rcases List.mem_cons.mp hp with rfl | hp
          · exact a2
          · exact a4 p hp
      have eC : (fun z => if z = x then some (Value.int (ks.getD i 0) t) else if z = x then o else none) = fun z => if z = x then some (Value.int (ks.getD i 0) t) else none := by
        funext z
        by_cases e : z = x
        · rw [if_pos e, if_pos e]
        · rw [if_neg e, if_neg e, if_neg e]
      rw [eC] at hC2
      have hmem : ks.getD i 0 ∈ ks := by rw [List.getD_eq_getElem?_getD, List.getElem?_eq_getElem hil]; exact List.getElem_mem hil
      refine tst _ t h2 _ oC2 oI1 oD _ _ hmem F2 N2 hC2 fun h3 tk3 F3 N3 => ?_
      cases hg : g (ks.getD i 0) with
      | false =>
        rw [if_neg Bool.false_ne_true]
        refine ih (i + 1) h3 tk3 oI1 oC2 oD kvs _ (by lia) S1 hd (by lia) (fun k => ?_) F3 N3 hC2
        rw [hm, e, List.mem_append, List.mem_singleton]
        constructor
        · exact fun h => ⟨.inl h.1, h.2⟩
        · rintro ⟨h | rfl, h'⟩
          · exact ⟨h, h'⟩
          · rw [hg] at h'; cases h'
      | true =>
        rw [if_pos rfl]
        refine kel _ t h3 _ oC2 oI1 oD _ _ hmem F3 N3 hC2 fun t' h4 tk4 F4 N4 => ?_
        refine vel _ t h4 _ oC2 oI1 oD _ _ hmem F4 N4 hC2 fun h5 tk5 F5 N5 => ?_
        refine dset_K F5 N5 (.tail a1.symm (.head (fun p hp => ?_))) hd (intKind_is _ _ _ _) (by lia) fun h6 oD6 F6 N6 hd6 => ?_
        · rcases List.mem_cons.mp hp with rfl | hp
          · exact a3
          · exact a5 p hp
        refine ih (i + 1) h6 _ oI1 oC2 oD6 _ _ (by lia) S1 hd6 (len_stored hl) (fun k => ?_) F6 N6 hC2
        rw [keys_stored, hm, e, List.mem_append, List.mem_singleton]
        constructor
        · rintro (h | rfl)
          · exact ⟨.inl h.1, h.2⟩
          · exact ⟨.inr rfl, hg⟩
        · rintro ⟨h | rfl, h'⟩
          · exact .inl ⟨h, h'⟩
          · exact .inr rfl
  have := key n 0 s.heap s.toks oI oC oD [] none (by lia) S hD (Nat.le_refl _) (fun k => by simp) F N (by
    have e : (fun z => if z = x then none else none) = fun _ : Str => (none : Option Value) := by funext z; split <;> rfl
    rw [e]; exact hC)
  exact this
end
end
theorem lines_p39lookd : True := by
  w_top off
  k_extra "S"
  k_extra "ld:pre"
  k_extra "ld:massign"
  k_extra "ld:bytes"
  k_extra "ld:be"
  k_extra "ld:item"
  k_extra "ld:put16"
  k_extra "ld:sorted"
  k_extra "ld:rdef"
  k_extra "ld:octs"
  k_extra "ld:dloop"
  trivial
section
/- what a region's dict says of a VLAN -/
noncomputable def lookI (kvs : List (Int × Value)) (k : Int) : Int := match valueAt kvs k with | some (.int x _) => x | _ => 0
noncomputable def valsI (kvs : List (Int × Value)) : List Int := kvs.map fun p => match p.2 with | .int x _ => x | _ => 0
theorem valueAt_mem {kvs : List (Int × Value)} {k : Int} {v : Value} (h : valueAt kvs k = some v) : (k, v) ∈ kvs := by
  unfold valueAt at h
  obtain ⟨q, hq, e⟩ := Option.map_eq_some_iff.mp h
  have h1 := List.mem_of_find?_eq_some hq
  have h2 := List.find?_some hq
  have h2 : q.1 = k := by simpa using h2
  rw [← h2, ← e]; exact h1
theorem Told.getD {kvs : List (Int × Value)} (h : Told kvs) (k : Int) (u : Tok) : ∃ t, (valueAt kvs k).getD (.int 0 u) = .int (lookI kvs k) t := by
  unfold lookI
  cases e : valueAt kvs k with
  | none => exact ⟨u, rfl⟩
  | some v =>
    obtain ⟨_, x, t, rfl, _⟩ := h.2.2 _ (valueAt_mem e)
    exact ⟨t, rfl⟩
theorem Told.zero {kvs : List (Int × Value)} (h : Told kvs) : lookI kvs 0 = 0 := by
  unfold lookI
  cases e : valueAt kvs 0 with
  | none => rfl
  | some v =>
    have := (h.2.2 _ (valueAt_mem e)).1.1
    exact absurd (show (1 : Int) ≤ 0 from this) (by decide)
theorem Told.vals {kvs : List (Int × Value)} (h : Told kvs) (i : Nat) (v : Value) (hv : ∃ k, kvs[i]? = some (k, v)) : ∃ t, v = .int ((valsI kvs).getD i 0) t := by
  obtain ⟨k, hk⟩ := hv
  obtain ⟨_, x, t, rfl, _⟩ := h.2.2 _ (List.mem_of_getElem? hk)
  refine ⟨t, ?_⟩
  unfold valsI
  rw [List.getD_eq_getElem?_getD, List.getElem?_map, hk]
  rfl
theorem vals_len (kvs : List (Int × Value)) : (valsI kvs).length = kvs.length := List.length_map ..
theorem vals_mem {kvs : List (Int × Value)} {k : Int} : k ∈ valsI kvs → Told kvs → 0 ≤ k ∧ k < 4095 := fun h ht => by
  obtain ⟨p, hp, rfl⟩ := List.mem_map.mp h
  obtain ⟨_, x, t, e, h1, h2⟩ := ht.2.2 p hp
  rw [e]; exact ⟨h1, h2⟩
section
variable {prog : Program} {w : World} {A : Around} {E : Value → Shared → Prop} {s : Shared} {h₀ : Heap} {L d : Addr} {news : List (Addr × Obj)} {o : Obj} {kvs : List (Int × Value)}
theorem get_told {k : Int} {t u : Tok} {Q : Value → Shared → Prop} (N : News h₀ L s.heap news) (hp : (d, o) ∈ news) (hd : o.IsDictOf (intKind prog w) kvs) (lo : (d == sysModules) = false) (hT : Told kvs) (h : ∀ t' tk, Q (.int (lookI kvs k) t') { s with toks := tk }) :
    wpAny (model prog w) A (call (.builtin "dict.get") [.ref d, .int k t, .int 0 u]) Q E s := by
  refine kdg_get2 N hp hd lo (intKind_is _ _ _ _) _ rfl ?_
  obtain ⟨t', e⟩ := hT.getD k u
  rw [e]; exact h _ _
end
end
theorem lines_p39binst : True := by
  w_top off
  k_extra "S"
  k_extra "ld:pre"
  k_extra "ld:massign"
  k_extra "ld:bytes"
  k_extra "ld:be"
  k_extra "ld:item"
  k_extra "ld:put16"
  k_extra "ld:sorted"
  k_extra "ld:rdef"
  k_extra "ld:octs"
  k_extra "ld:dloop"
  k_extra "ld:lookd"
  trivial
section
inductive Ret_inst (kvs : List (Int × Value)) (k : Int) (v : Value) (new : List (Addr × Obj)) : Prop
  | mk : ∀ (t' : Tok), (v = .int (lookI kvs k) t') → (new = []) → Ret_inst kvs k v new
set_option maxHeartbeats 8000000 in
theorem c_inst (w : World) (i d dd : Addr) (τ : Nat → Tok) (x : Str) (r : Int) (b : Array UInt8) (od : Obj) (kvs : List (Int × Value)) (ho : od.IsDictOf (PySem.intKind PySem.Challenge.pw_pc0377_01 w) kvs) (hT : Told kvs) (hm : (dd == sysModules) = false) (k : Int) (t : Tok) : TellN w (.ref 186) [.ref i, .int k t] 10 300 [(i, (instObj 213 d : Obj)), (d, (dictOf (regEs w b x r dd τ) 4 : Obj)), (dd, (od : Obj))] (fun v news' => ∃ new, Ret_inst kvs k v new ∧ news' = new ++ [(i, (instObj 213 d : Obj)), (d, (dictOf (regEs w b x r dd τ) 4 : Obj)), (dd, (od : Obj))]) := by
  unfold TellN
  intro mean mg mb dp un gd cn cs a ccd cl outer A₀ base h₀ L m s Q E B F X N T hk hd hu hret
  refine letN1 N ?_
  clear N
  intro oB1 N
  refine wpAny_call ?_
  k_dflt cell_enter
  k_steps
  all_goals (
    refine' finM (small := [(_, instObj _ _), (_, dictOf _ _), (_, objOf ho)]) hret ?H ?F' ?F ?N ?NG ?S ?R
    case H => k_asm
    case F' => k_asm
    case F => k_asm
    case N => k_asm
    case NG => k_asm
    case S => repeat' (first | exact List.forall_mem_nil _ | refine' subc ?_ ?_ | (with_reducible first | exact mm0 | exact mm1 | exact mm2 | exact mm3 | exact mm4 | exact mm5 | exact mm6 | exact mm7 | exact mm8 | exact mm9 | exact mm10 | exact mm11) | exact List.Mem.head _ | refine' List.Mem.tail _ ?_)
    case R => (exact ⟨_, ⟨_, rfl, rfl⟩, rfl⟩))
theorem use_inst {w : World} {full : List (Addr × Obj)} (i d dd : Addr) (τ : Nat → Tok) (x : Str) (r : Int) (b : Array UInt8) (od : Obj) (kvs : List (Int × Value)) (ho : od.IsDictOf (PySem.intKind PySem.Challenge.pw_pc0377_01 w) kvs) (hT : Told kvs) (hm : (dd == sysModules) = false) (k : Int) (t : Tok) (hp : ∀ p ∈ ([(i, (instObj 213 d : Obj)), (d, (dictOf (regEs w b x r dd τ) 4 : Obj)), (dd, (od : Obj))] : List (Addr × Obj)), p ∈ full) {mean : ExcName → Option Value} {mg mb : Str → Option Value} {dp un : Nat} {gd : Option (List Code)} {cn : Str} {cs : Scope} {a : Addr} {ccd : Value} {cl : List (Str × Addr)} {outer : List Env} {A₀ : Around} {base h₀ : Heap} {L : Addr} {m : Str → Option Value} {s0 : Heap} {s1 : Array GenState} {s2 : Drawn} {s3 : Nat} {s4 : OsState} {Q E : Value → Shared → Prop}
    (B : Below A₀ base outer h₀) (F : Fr h₀ L s0 m) (X : (Mine.hd.heap_39 w.params).In h₀) (N : News h₀ L s0 full) (T : Top topProg loose mean mg mb h₀) (hk : cs.kind = .function) (hd : dp + 10 < recursionLimit) (hu : un + 300 < cLine)
    (h : ∀ (t' : Tok)  (h' : Heap) (tk' : Nat), Fr h₀ L h' m → News h₀ L h' (full) → Q (.int (lookI kvs k) t') (Shared.mk h' s1 s2 tk' s4)) :
    wpAny (model PySem.Challenge.pw_pc0377_01 w) (ktrTop dp un gd cn cs L a ccd cl outer) (call (.ref 186) [.ref i, .int k t]) Q E (Shared.mk s0 s1 s2 s3 s4) := by
  refine (c_inst w i d dd τ x r b od kvs ho hT hm k t).read hp B F X N T hk hd hu fun v h' tk' new hP hA F' N' => ?_
  obtain ⟨t', rfl, rfl⟩ := hP
  exact h t'  h' tk'    F' N'
end
theorem lines_p39cnums : True := by
  w_top off
  k_extra "S"
  k_extra "ld:pre"
  k_extra "ld:massign"
  k_extra "ld:bytes"
  k_extra "ld:be"
  k_extra "ld:item"
  k_extra "ld:put16"
  k_extra "ld:sorted"
  k_extra "ld:rdef"
  k_extra "ld:octs"
  k_extra "ld:dloop"
  k_extra "ld:lookd"
  k_extra "ld:o_nums"
  trivial
section
inductive Ret_nums (i d dd : Addr) (kvs : List (Int × Value)) (v : Value) (new : List (Addr × Obj)) : Prop
  | mk : ∀ (q : Addr) (vs : List Value) (ns : List Int) (n : Nat), (v = .ref q) → (new = [(q, (listOf vs.toArray n : Obj))]) → (Aps q ([] ++ [i, d, dd])) → (IntsAre vs ns) → (ns.Pairwise (· < ·)) → ((∀ k, k ∈ ns ↔ k ∈ valsI kvs ∧ k ≠ 0)) → (ns.length ≤ 3) → Ret_nums i d dd kvs v new
set_option maxHeartbeats 8000000 in
theorem c_nums (w : World) (i d dd : Addr) (τ : Nat → Tok) (x : Str) (r : Int) (b : Array UInt8) (od : Obj) (kvs : List (Int × Value)) (ho : od.IsDictOf (PySem.intKind PySem.Challenge.pw_pc0377_01 w) kvs) (hT : Told kvs) (hm : (dd == sysModules) = false) : TellN w (.ref 191) [.ref i] 20 500 [(i, (instObj 213 d : Obj)), (d, (dictOf (regEs w b x r dd τ) 4 : Obj)), (dd, (od : Obj))] (fun v news' => ∃ new, Ret_nums i d dd kvs v new ∧ news' = new ++ [(i, (instObj 213 d : Obj)), (d, (dictOf (regEs w b x r dd τ) 4 : Obj)), (dd, (od : Obj))]) := by
  unfold TellN
  intro mean mg mb dp un gd cn cs a ccd cl outer A₀ base h₀ L m s Q E B F X N T hk hd hu hret
  refine letN1 N ?_
  clear N
  intro oB1 N
  refine wpAny_call ?_
  k_dflt cell_enter
  k_steps
  refine Dbg.mk ?_
  have h3 := hT.1
  refine letML ?_
  intro sM
  refine' mints_D ?hh ?S ?hn ?F ?N ?hD ?hC ?hx ?hk ?hsr ?a1 ?a2 ?a3 ?a4 ?a5 ?a6 (fun k => k != 0) (.bool true) (valsI kvs) ?hlen ?hP ?tst ?kel ?vel ?fin
  case hh => exact rfl
  case S => assumption
  case hn => lia
  case F => k_asm
  case N => k_asm
  case hD => assumption
  case hC => assumption
  case hx => exact rfl
  case hk => exact rfl
  case hsr => exact fun h9 F9 N9 => srcIn_news N9 (by k_mem)
  case a1 => k_ne
  case a2 => k_ne
  case a3 => k_ne
  case a4 => k_all
  case a5 => k_all
  case a6 => k_all
  case hlen => exact vals_len _
  case hP => exact hT.vals
  case tst =>
    intro k t h tk oC' oI' oD' Qe E' hk9 F9 N9 c9 hq
    k_steps
    all_goals exact hq _ _ (by k_asm) (by k_asm)
  case kel =>
    intro k t h tk oC' oI' oD' Qe E' hk9 F9 N9 c9 hq
    k_steps
    all_goals exact hq _ _ _ (by k_asm) (by k_asm)
  case vel =>
    intro k t h tk oC' oI' oD' Qe E' hk9 F9 N9 c9 hq
    k_steps
    all_goals exact hq _ _ (by k_asm) (by k_asm)
  intro h tk oC' oN oD' kvs' F' N' c' d' l9 m9
  (try dsimp only)
  have l8 : kvs'.length < 64 := by lia
  k_steps
  all_goals (
    refine' finM (s := s) (small := [(_, listOf _ _), (_, instObj _ _), (_, dictOf _ _), (_, objOf ho)]) hret ?H ?F' ?F ?N ?NG ?S ?R
    case H => k_asm
    case F' => k_asm
    case F => k_asm
    case N => k_asm
    case NG => k_asm
    case S => repeat' (first | exact List.forall_mem_nil _ | refine' subc ?_ ?_ | (with_reducible first | exact mm0 | exact mm1 | exact mm2 | exact mm3 | exact mm4 | exact mm5 | exact mm6 | exact mm7 | exact mm8 | exact mm9 | exact mm10 | exact mm11) | exact List.Mem.head _ | refine' List.Mem.tail _ ?_)
    case R => (exact ⟨_, ⟨_, _, _, _, rfl, rfl, (Aps.c (by k_ne) (Aps.c (by k_ne) (Aps.c (by k_ne) Aps.n))), by assumption, by assumption, by (rename (∀ k, k ∈ _ ↔ k ∈ List.map _ _) => mm); intro k; rw [mm k, m9 k]; simp, by lia⟩, rfl⟩))
theorem use_nums {w : World} {full : List (Addr × Obj)} (i d dd : Addr) (τ : Nat → Tok) (x : Str) (r : Int) (b : Array UInt8) (od : Obj) (kvs : List (Int × Value)) (ho : od.IsDictOf (PySem.intKind PySem.Challenge.pw_pc0377_01 w) kvs) (hT : Told kvs) (hm : (dd == sysModules) = false) (hp : ∀ p ∈ ([(i, (instObj 213 d : Obj)), (d, (dictOf (regEs w b x r dd τ) 4 : Obj)), (dd, (od : Obj))] : List (Addr × Obj)), p ∈ full) {mean : ExcName → Option Value} {mg mb : Str → Option Value} {dp un : Nat} {gd : Option (List Code)} {cn : Str} {cs : Scope} {a : Addr} {ccd : Value} {cl : List (Str × Addr)} {outer : List Env} {A₀ : Around} {base h₀ : Heap} {L : Addr} {m : Str → Option Value} {s0 : Heap} {s1 : Array GenState} {s2 : Drawn} {s3 : Nat} {s4 : OsState} {Q E : Value → Shared → Prop}
    (B : Below A₀ base outer h₀) (F : Fr h₀ L s0 m) (X : (Mine.hd.heap_39 w.params).In h₀) (N : News h₀ L s0 full) (T : Top topProg loose mean mg mb h₀) (hk : cs.kind = .function) (hd : dp + 20 < recursionLimit) (hu : un + 500 < cLine)
    (h : ∀ (q : Addr) (vs : List Value) (ns : List Int) (n : Nat)  (h' : Heap) (tk' : Nat), Aps q ([] ++ full.map (·.1)) → IntsAre vs ns → ns.Pairwise (· < ·) → (∀ k, k ∈ ns ↔ k ∈ valsI kvs ∧ k ≠ 0) → ns.length ≤ 3 → Fr h₀ L h' m → News h₀ L h' ((q, (listOf vs.toArray n : Obj)) :: full) → Q (.ref q) (Shared.mk h' s1 s2 tk' s4)) :
    wpAny (model PySem.Challenge.pw_pc0377_01 w) (ktrTop dp un gd cn cs L a ccd cl outer) (call (.ref 191) [.ref i]) Q E (Shared.mk s0 s1 s2 s3 s4) := by
  refine (c_nums w i d dd τ x r b od kvs ho hT hm).read hp B F X N T hk hd hu fun v h' tk' new hP hA F' N' => ?_
  obtain ⟨q, vs, ns, n, rfl, rfl, g0, f0, f1, f2, f3⟩ := hP
  exact h q vs ns n  h' tk'  (g0.join (part := [(i, (instObj 213 d : Obj)), (d, (dictOf (regEs w b x r dd τ) 4 : Obj)), (dd, (od : Obj))]) rfl (hA _ (.head _))) f0 f1 f2 f3 F' N'
end
theorem lines_p40bstr : True := by
  w_top off
  k_extra "S"
  k_extra "ld:pre"
  k_extra "ld:massign"
  k_extra "ld:bytes"
  k_extra "ld:be"
  k_extra "ld:item"
  k_extra "ld:rdef"
  k_extra "ld:text"
  trivial
section
namespace BF
theorem slot_rstrip : Slot "bytes" "rstrip" "bytes.rstrip" :=
  .of (owner := "bytes") (n := "rstrip") (by rw [typeLookup_type, builtinLookup_eq_fast]; kernel_rfl) (by decide +kernel) (by decide +kernel) (by decide +kernel)
    (by first | exact .inl (by decide +kernel) | exact .inr (by decide +kernel)) (by rw [isSubtype_type]; kernel_rfl)
theorem type_rstrip : typeOf (.builtin "bytes.rstrip") = pure (.type "method_descriptor") := by show builtinType _ = _; rw [builtinType_eq_fast]; kernel_rfl
theorem entry_rstrip : entryFor table "bytes.rstrip" = some Builtin.«bytes.rstrip» := entryFor_of_tree (by kernel_rfl)
theorem args_rstrip (a b : Value) : argsOk "bytes.rstrip" ⟨[a, b], []⟩ := by
  unfold argsOk; rw [signature?_of (id := "bytes.rstrip") (n := ['p', 'i', 'r', 't', 's', 'r']) (o := ['s', 'e', 't', 'y', 'b']) (by kernel_rfl) FB.owner_bytes]; kernel_rfl
theorem slot_isascii : Slot "bytes" "isascii" "bytes.isascii" :=
  .of (owner := "bytes") (n := "isascii") (by rw [typeLookup_type, builtinLookup_eq_fast]; kernel_rfl) (by decide +kernel) (by decide +kernel) (by decide +kernel)
    (by first | exact .inl (by decide +kernel) | exact .inr (by decide +kernel)) (by rw [isSubtype_type]; kernel_rfl)
theorem type_isascii : typeOf (.builtin "bytes.isascii") = pure (.type "method_descriptor") := by show builtinType _ = _; rw [builtinType_eq_fast]; kernel_rfl
theorem entry_isascii : entryFor table "bytes.isascii" = some Builtin.«bytes.isascii» := entryFor_of_tree (by kernel_rfl)
theorem args_isascii (a : Value) : argsOk "bytes.isascii" ⟨[a], []⟩ := by
  unfold argsOk; rw [signature?_of (id := "bytes.isascii") (n := ['i', 'i', 'c', 's', 'a', 's', 'i']) (o := ['s', 'e', 't', 'y', 'b']) (by kernel_rfl) FB.owner_bytes]; kernel_rfl
theorem args_decode (a b : Value) : argsOk "bytes.decode" ⟨[a, b], []⟩ := by
  unfold argsOk; rw [signature?_of (id := "bytes.decode") (n := ['e', 'd', 'o', 'c', 'e', 'd']) (o := ['s', 'e', 't', 'y', 'b']) (by kernel_rfl) FB.owner_bytes]; kernel_rfl
end BF
noncomputable def padB (x : Str) : Array UInt8 := ascB x ++ Array.replicate (32 - (ascB x).size) 0
theorem ints_inj {b c : Array UInt8} (h : KBw.bInts b = KBw.bInts c) : b = c := by
  unfold KBw.bInts at h
  apply Array.toList_inj.mp
  refine (List.map_inj_right fun p q e => ?_).mp h
  exact UInt8.toNat_inj.mp (by lia)
theorem names4_cases {P : Str → Prop} (h1 : P (Str.ofString "blue")) (h2 : P (Str.ofString "")) (h3 : P (Str.ofString "xxxxxxxxxxxxxxxxxxxxxxxxxxxxxxxx")) (h4 : P (Str.ofString "a b")) {x : Str} (hx : x ∈ names4) : P x := by
  simp only [names4, List.mem_cons, List.not_mem_nil, or_false] at hx
  rcases hx with rfl | rfl | rfl | rfl <;> assumption
theorem gives_rstrip {x : Str} (hx : x ∈ names4) (t u : Tok) : Gives (Builtin.«bytes.rstrip» ⟨[.bytes (padB x) t, .bytes #[0] u], []⟩) (if x = Str.ofString "xxxxxxxxxxxxxxxxxxxxxxxxxxxxxxxx" then .val (.bytes (ascB x) t) else .bytes (ascB x)) := by
  refine names4_cases (P := fun x => Gives (Builtin.«bytes.rstrip» ⟨[.bytes (padB x) t, .bytes #[0] u], []⟩) (if x = Str.ofString "xxxxxxxxxxxxxxxxxxxxxxxxxxxxxxxx" then .val (.bytes (ascB x) t) else .bytes (ascB x))) ?_ ?_ ?_ ?_ hx
  · rw [if_neg (by decide +kernel)]; exact .of_eq (by kernel_rfl)
  · rw [if_neg (by decide +kernel)]; exact .of_eq (by kernel_rfl)
  · rw [if_pos rfl]
    have e : Builtin.«bytes.rstrip» ⟨[.bytes (padB (Str.ofString "xxxxxxxxxxxxxxxxxxxxxxxxxxxxxxxx")) t, .bytes #[0] u], []⟩ = (do rule "bytes.rstrip.unchanged"; ret (.bytes (ascB (Str.ofString "xxxxxxxxxxxxxxxxxxxxxxxxxxxxxxxx")) t)) := by kernel_rfl
    rw [e]
    exact .rule (.of_eq rfl)
  · rw [if_neg (by decide +kernel)]; exact .of_eq (by kernel_rfl)
theorem gives_isascii {x : Str} (hx : x ∈ names4) (t : Tok) : Gives (Builtin.«bytes.isascii» ⟨[.bytes (ascB x) t], []⟩) (.val (.bool true)) :=
  names4_cases (P := fun x => Gives (Builtin.«bytes.isascii» ⟨[.bytes (ascB x) t], []⟩) (.val (.bool true))) (.of_eq (by kernel_rfl)) (.of_eq (by kernel_rfl)) (.of_eq (by kernel_rfl)) (.of_eq (by kernel_rfl)) hx
theorem find_zero {x : Str} (hx : x ∈ names4) : (Builtin.Bytes.find? (ascB x) #[0] 0 (ascB x).size).isSome = false :=
  names4_cases (P := fun x => (Builtin.Bytes.find? (ascB x) #[0] 0 (ascB x).size).isSome = false) (by decide +kernel) (by decide +kernel) (by decide +kernel) (by decide +kernel) hx
theorem bytes_noindex : typeLookup (.type "bytes") "__index__" = pure none := by rw [typeLookup_type, builtinLookup_eq_fast]; kernel_rfl
section
variable {prog : Program} {w : World} {A : Around} {E : Value → Shared → Prop} {s : Shared} {Q : Value → Shared → Prop} {x : Str} {t u : Tok} {h₀ : Heap} {L : Addr} {m : Str → Option Value} {news : List (Addr × Obj)}
theorem bytes_method {b : Array UInt8} {name : Str} {id : String} {pl : Sem Bool} {Q : Value × List Value → Shared → Prop} (slot : Slot "bytes" name id) (hty : typeOf (.builtin id) = pure (.type "method_descriptor"))
    (h : Q (.builtin id, [.bytes b t]) s) : wpAny (model prog w) A (getMethod (.bytes b t) name pl) Q E s :=
  getMethod_builtin (PySem.W.typeIs_bytes s b t) FB.plainAttrs_bytes slot hty (fun b e => by cases e) h
theorem rstrip_call {b : Array UInt8} (hx : x ∈ names4) (hb : KBw.bInts b = nameInts x ++ zeros (32 - (nameInts x).length)) (h : ∀ t' k, Q (.bytes (ascB x) t') { s with toks := k }) : wpAny (model prog w) A (call (.builtin "bytes.rstrip") [.bytes b t, .bytes #[0] u]) Q E s := by
  have e : b = padB x := ints_inj (by
    rw [hb]
    unfold nameInts padB
    rw [KBw.ints_length]
    unfold KBw.bInts zeros
    simp)
  rw [e]
  refine call_gives BF.slot_rstrip (PySem.W.typeIs_bytes s _ t) BF.entry_rstrip (BF.args_rstrip _ _) (gives_rstrip hx t u) ?_
  split
  · exact h t s.toks
  · exact ⟨Nat.le_trans (ascB_size (List.mem_append_left _ hx)) (by rw [sizeLine_eq]; decide), h _ _⟩
theorem isascii_call (hx : x ∈ names4) (h : Q (.bool true) s) : wpAny (model prog w) A (call (.builtin "bytes.isascii") [.bytes (ascB x) t]) Q E s :=
  call_gives BF.slot_isascii (PySem.W.typeIs_bytes s _ t) BF.entry_isascii (BF.args_isascii _) (gives_isascii hx t) h
theorem in_bytes {b z : Array UInt8} (hh : A.handled = none) (F : Fr h₀ L s.heap m) (N : News h₀ L s.heap news) (h : ∀ h' tk, Fr h₀ L h' m → News h₀ L h' news → Q (.bool (Builtin.Bytes.find? b z 0 b.size).isSome) { s with heap := h', toks := tk }) :
    wpAny (model prog w) A (compareOp .In (.bytes z u) (.bytes b t)) Q E s := by
  have hT : s.TypeIs (.bytes b t) "bytes" := PySem.W.typeIs_bytes s b t
  have hz : s.TypeIs (.bytes z u) "bytes" := PySem.W.typeIs_bytes s z u
  show wpAny _ _ (do return .bool (← contains (.bytes b t) (.bytes z u))) Q E s
  refine wpAny_bind ?_
  unfold contains
  try with_reducible refine wpAny_holding ?_
  refine wpAny_bind (wpAny_specialOf hT FB.slot_bytes_contains.lookup ?_)
  show wpAny _ _ (if (some (Value.builtin "bytes.__contains__") == some Value.none) = true then _ else _) _ E s
  rw [if_neg (by rw [beq_builtin_none]; exact Bool.false_ne_true)]
  refine wpAny_bind (wpAny_callSpecialUnlessNone?_slot (name := Str.ofString "__contains__") hT FB.slot_bytes_contains
    (wpAny_call_entry FB.slot_bytes_contains hT FB.entry_bytes_contains ?_ (FB.args_bytes_contains_2 _ _)))
  unfold Builtin.«bytes.__contains__»
  refine wpAny_bind (wpAny_pure ?_)
  show wpAny _ _ (Builtin.Bytes.containsIn _ (.bytes b t) (.bytes z u) >>= _) _ _ _
  refine wpAny_bind ?_
  unfold Builtin.Bytes.containsIn
  refine wpAny_bind (wpAny_attempt ?_)
  unfold asIndex
  refine wpAny_bind (wpAny_of_eq (a := none) rfl ?_)
  dsimp only
  refine wpAny_bind (wpAny_callSpecial?_none hz bytes_noindex ?_)
  dsimp only
  refine wpAny_bind (wpAny_of_eq (a := "bytes") (by kernel_rfl) ?_)
  refine wpAny_raiseErrorMade plainExc_TypeError hh (fun h' tk e ne => ?_) (by rw [sizeLine_eq]; decide)
  refine wpAny_bind (wpAny_of_eq KBy.buffer_eq ?_)
  dsimp only
  refine wpAny_bind (wpAny_of_eq KBy.buffer_eq ?_)
  dsimp only
  refine wpAny_bind (wpAny_rule ?_)
  refine wpAny_pure (wpAny_pure ⟨_, rfl, wpAny_truthy_bool (wpAny_pure ?_)⟩)
  exact h h' _ (F.keeps ne.keeps) fun p hp => ⟨ne.keeps _ _ (N p hp).1, (N p hp).2⟩
end
namespace BF
open PySem.W.KBd Builtin
theorem road (x : Str) (hx : x ∈ names4) (id : String) : _codecs.decodeRoad id (ascB x) (Str.ofString "ascii") none [] = mkStr x :=
  names4_cases (P := fun x => _codecs.decodeRoad id (ascB x) (Str.ofString "ascii") none [] = mkStr x) (by kernel_rfl) (by kernel_rfl) (by kernel_rfl) (by kernel_rfl) hx
theorem meets_text {x : Str} (hx : x ∈ names4) {t t1 t2 : Tok} {d : Str} :
    Meets («_codecs.decode.text» ⟨[.bytes (ascB x) t, .str (Str.ofString "ascii") t1, .none, .str d t2], []⟩) (fun _ R s => R (.ok (.ret (.str x s.toks))) { s with toks := s.toks + 1 }) := by
  refine .of_wp fun prog w A R s h => ?_
  show wpAny _ _ (Bytes.bytesLike _ (.bytes (ascB x) t) >>= fun r => _) _ _ s
  refine wpAny_bind (wpAny_of_eq like_eq ?_)
  refine wpAny_bind (wpAny_of_eq held_eq ?_)
  show wpAny _ _ (_codecs.decodeRoad _ (ascB x) (Str.ofString "ascii") none [] >>= fun v => _) _ _ s
  rw [road x hx]
  refine wpAny_bind (wpAny_mkStr (wpAny_pure ⟨_, rfl, h⟩) ?_)
  exact names4_cases (P := fun x => x.length ≤ sizeLine) (by decide +kernel) (by decide +kernel) (by decide +kernel) (by decide +kernel) hx
theorem entry_eq {x : Str} (hx : x ∈ names4) (t u : Tok) : «bytes.decode» ⟨[.bytes (ascB x) t, .str (Str.ofString "ascii") u], []⟩ = if x = Str.ofString "" then (do rule "bytes.decode.empty"; ret (← mkStr x)) else (mkStr (Str.ofString "utf-8") >>= fun _ => mkStr (Str.ofString "ascii") >>= fun e => mkStr (Str.ofString "bytes.decode") >>= fun d =>
    call (.builtin "_codecs.decode.text") [.bytes (ascB x) t, e, .none, d] >>= fun v => ret v) := by
  refine names4_cases (P := fun x => «bytes.decode» ⟨[.bytes (ascB x) t, .str (Str.ofString "ascii") u], []⟩ = if x = Str.ofString "" then (do rule "bytes.decode.empty"; ret (← mkStr x)) else (mkStr (Str.ofString "utf-8") >>= fun _ => mkStr (Str.ofString "ascii") >>= fun e => mkStr (Str.ofString "bytes.decode") >>= fun d =>
    call (.builtin "_codecs.decode.text") [.bytes (ascB x) t, e, .none, d] >>= fun v => ret v)) ?_ ?_ ?_ ?_ hx
  · rw [if_neg (by decide +kernel)]; kernel_rfl
  · rw [if_pos rfl]; kernel_rfl
  · rw [if_neg (by decide +kernel)]; kernel_rfl
  · rw [if_neg (by decide +kernel)]; kernel_rfl
theorem meets_dec {x : Str} (hx : x ∈ names4) {t u : Tok} : Meets («bytes.decode» ⟨[.bytes (ascB x) t, .str (Str.ofString "ascii") u], []⟩) (fun _ R s => ∀ t' k, R (.ok (.ret (.str x t'))) { s with toks := k }) := by
  refine .of_wp fun prog w A R s h => ?_
  rw [entry_eq hx]
  split
  · refine wpAny_bind (wpAny_rule (wpAny_bind (wpAny_mkStr (wpAny_pure ⟨_, rfl, h _ _⟩) ?_)))
    exact names4_cases (P := fun x => x.length ≤ sizeLine) (by decide +kernel) (by decide +kernel) (by decide +kernel) (by decide +kernel) hx
  · refine wpAny_bind (wpAny_mkStr ?_ (by decide))
    refine wpAny_bind (wpAny_mkStr ?_ (by decide))
    refine wpAny_bind (wpAny_mkStr ?_ (by decide))
    exact wpAny_bind (call_function_meets kind_text plain_text entry_text (args_text _ _ _ _) (meets_text hx) (wpAny_pure ⟨_, rfl, h _ _⟩))
end BF
theorem dec_call {prog : Program} {w : World} {A : Around} {E : Value → Shared → Prop} {s : Shared} {Q : Value → Shared → Prop} {x : Str} {t u : Tok} (hx : x ∈ names4) (h : ∀ t' k, Q (.str x t') { s with toks := k }) :
    wpAny (model prog w) A (call (.builtin "bytes.decode") [.bytes (ascB x) t, .str (Str.ofString "ascii") u]) Q E s :=
  call_meets FB.slot_bytes_decode (PySem.W.typeIs_bytes _ _ _) FB.entry_bytes_decode (BF.args_decode _ _) (BF.meets_dec hx) h
end
theorem lines_p40blenb : True := by
  w_top off
  k_extra "S"
  k_extra "ld:pre"
  k_extra "ld:massign"
  k_extra "ld:bytes"
  k_extra "ld:be"
  k_extra "ld:item"
  trivial
section
theorem len_B {prog : Program} {w : World} {A : Around} {E : Value → Shared → Prop} {s : Shared} {b : Array UInt8} {t : Tok} {Q : Value → Shared → Prop} {ks : List Int} {n : Int} (hk : KBw.bInts b = ks) (hl : (ks.length : Int) = n) (hz : n ≤ 1000) (h : ∀ t' k, Q (.int n t') { s with toks := k }) :
    wpAny (model prog w) A (call (.builtin "len") [.bytes b t]) Q E s := by
  refine KBw.len_K hk (by lia) ?_
  rw [hl]; exact h _ _
end
theorem lines_p41get16 : True := by
  w_top off
  k_extra "S"
  k_extra "ld:pre"
  k_extra "ld:exset"
  k_extra "ld:swinit"
  k_extra "ld:tellx"
  k_extra "ld:massign"
  k_extra "ld:bytes"
  k_extra "ld:be"
  k_extra "ld:bits"
  k_extra "ld:item"
  k_extra "ld:o_get16"
  trivial
section
inductive Ret_get16 (x0 x1 : Int) (v : Value) (new : List (Addr × Obj)) : Prop
  | mk : ∀ (t' : Tok), (v = .int (x0 * 256 + x1) t') → (new = []) → Ret_get16 x0 x1 v new
set_option maxHeartbeats 8000000 in
theorem c_get16 (w : World) (x0 x1 : Int) (b : Array UInt8) (t u : Tok) (ns : List Int) (hb : KBw.bInts b = ns) (hl : ns.length = 51) (hc : List.take (clipAt ns.length (33 + 2) - clipAt ns.length 33) (List.drop (clipAt ns.length 33) ns) = [x0, x1]) (ho : (0 ≤ x0 ∧ x0 < 256) ∧ 0 ≤ x1 ∧ x1 < 256) : TellN w (.ref 159) [.bytes b t, .int 33 u] 12 300 [] (fun v news' => ∃ new, Ret_get16 x0 x1 v new ∧ news' = new ++ []) := by
  unfold TellN
  intro mean mg mb dp un gd cn cs a ccd cl outer A₀ base h₀ L m s Q E B F X N T hk hd hu hret
  obtain ⟨⟨o1, o2⟩, o3, o4⟩ := ho
  refine wpAny_call ?_
  k_dflt cell_enter
  k_steps
  all_goals (
    refine' finM (small := []) hret ?H ?F' ?F ?N ?NG ?S ?R
    case H => k_asm
    case F' => k_asm
    case F => k_asm
    case N => k_asm
    case NG => k_asm
    case S => repeat' (first | exact List.forall_mem_nil _ | refine' subc ?_ ?_ | (with_reducible first | exact mm0 | exact mm1 | exact mm2 | exact mm3 | exact mm4 | exact mm5 | exact mm6 | exact mm7 | exact mm8 | exact mm9 | exact mm10 | exact mm11) | exact List.Mem.head _ | refine' List.Mem.tail _ ?_)
    case R => (exact ⟨_, ⟨_, congrArg (Value.int · _) (by lia), rfl⟩, rfl⟩))
theorem use_get16 {w : World} {full : List (Addr × Obj)} (x0 x1 : Int) (b : Array UInt8) (t u : Tok) (ns : List Int) (hb : KBw.bInts b = ns) (hl : ns.length = 51) (hc : List.take (clipAt ns.length (33 + 2) - clipAt ns.length 33) (List.drop (clipAt ns.length 33) ns) = [x0, x1]) (ho : (0 ≤ x0 ∧ x0 < 256) ∧ 0 ≤ x1 ∧ x1 < 256) (hp : ∀ p ∈ ([] : List (Addr × Obj)), p ∈ full) {mean : ExcName → Option Value} {mg mb : Str → Option Value} {dp un : Nat} {gd : Option (List Code)} {cn : Str} {cs : Scope} {a : Addr} {ccd : Value} {cl : List (Str × Addr)} {outer : List Env} {A₀ : Around} {base h₀ : Heap} {L : Addr} {m : Str → Option Value} {s0 : Heap} {s1 : Array GenState} {s2 : Drawn} {s3 : Nat} {s4 : OsState} {Q E : Value → Shared → Prop}
    (B : Below A₀ base outer h₀) (F : Fr h₀ L s0 m) (X : (Mine.hd.heap_39 w.params).In h₀) (N : News h₀ L s0 full) (T : Top topProg loose mean mg mb h₀) (hk : cs.kind = .function) (hd : dp + 12 < recursionLimit) (hu : un + 300 < cLine)
    (h : ∀ (t' : Tok)  (h' : Heap) (tk' : Nat), Fr h₀ L h' m → News h₀ L h' (full) → Q (.int (x0 * 256 + x1) t') (Shared.mk h' s1 s2 tk' s4)) :
    wpAny (model PySem.Challenge.pw_pc0377_01 w) (ktrTop dp un gd cn cs L a ccd cl outer) (call (.ref 159) [.bytes b t, .int 33 u]) Q E (Shared.mk s0 s1 s2 s3 s4) := by
  refine (c_get16 w x0 x1 b t u ns hb hl hc ho).read hp B F X N T hk hd hu fun v h' tk' new hP hA F' N' => ?_
  obtain ⟨t', rfl, rfl⟩ := hP
  exact h t'  h' tk'    F' N'
end
theorem lines_p41brreg : True := by
  w_top off
  k_extra "S"
  k_extra "ld:pre"
  k_extra "ld:exset"
  k_extra "ld:swinit"
  k_extra "ld:tellx"
  k_extra "ld:massign"
  k_extra "ld:bytes"
  k_extra "ld:be"
  k_extra "ld:bits"
  k_extra "ld:item"
  k_extra "ld:rdef"
  k_extra "ld:text"
  k_extra "ld:bstr"
  k_extra "ld:lenb"
  k_extra "ld:get16"
  k_extra "ld:o_rreg"
  trivial
section
noncomputable abbrev tup3 (a b c : Value) (n : Nat) : Obj := { cls := .type "tuple", data := .seq #[a, b, c] n }
theorem reg_cuts {x : Str} {r : Int} {ks : List Int} (hx : x ∈ names4) (hr : 0 ≤ r ∧ r < 65536) (hl : ks.length = 16) : (regOcts x r ks).length = 51 ∧ (regOcts x r ks)[Int.toNat 0]? = some 0 ∧
    List.take (clipAt (regOcts x r ks).length (1 + 32) - clipAt (regOcts x r ks).length 1) (List.drop (clipAt (regOcts x r ks).length 1) (regOcts x r ks)) = nameInts x ++ zeros (32 - (nameInts x).length) ∧
    List.take (clipAt (regOcts x r ks).length (33 + 2) - clipAt (regOcts x r ks).length 33) (List.drop (clipAt (regOcts x r ks).length 33) (regOcts x r ks)) = [r / 256, r % 256] ∧
    List.take ((regOcts x r ks).length - clipAt (regOcts x r ks).length 35) (List.drop (clipAt (regOcts x r ks).length 35) (regOcts x r ks)) = ks := by
  have hn := nameInts_len (List.mem_append_left _ hx : x ∈ names5)
  have e : regOcts x r ks = 0 :: ((nameInts x ++ zeros (32 - (nameInts x).length)) ++ ([r / 256, r % 256] ++ ks)) := by unfold regOcts; simp only [List.append_assoc]
  have hz : (nameInts x ++ zeros (32 - (nameInts x).length)).length = 32 := by unfold zeros; rw [List.length_append, List.length_replicate]; lia
  have hlen : (regOcts x r ks).length = 51 := by rw [e, List.length_cons, List.length_append, hz, List.length_append, hl]; rfl
  have c1 : clipAt 51 (1 + 32) = 33 := by decide
  have c2 : clipAt 51 1 = 1 := by decide
  have c3 : clipAt 51 (33 + 2) = 35 := by decide
  have c4 : clipAt 51 33 = 33 := by decide
  have c5 : clipAt 51 35 = 35 := by decide
  rw [hlen, c1, c2, c3, c4, c5, e]
  generalize nameInts x ++ zeros (32 - (nameInts x).length) = z at hz ⊢
  refine ⟨rfl, rfl, ?_, ?_, ?_⟩
  · rw [List.drop_succ_cons, List.drop_zero, List.take_append_of_le_length (by lia)]
    exact List.take_of_length_le (by lia)
  · rw [List.drop_succ_cons, show (32 : Nat) = z.length by lia, List.drop_left]
    rfl
  · rw [List.drop_succ_cons, show (34 : Nat) = z.length + 2 by lia, List.drop_append]
    rw [List.drop_eq_nil_of_le (by lia), show z.length + 2 - z.length = 2 by lia]
    show List.take 16 ks = ks
    exact List.take_of_length_le (by lia)
inductive Ret_rreg0 (x : Str) (r : Int) (ks : List Int) (v : Value) (new : List (Addr × Obj)) : Prop
  | mk : ∀ (q : Addr) (b2 : Array UInt8) (t1 t2 t3 : Tok) (n : Nat), (v = .ref q) → (new = [(q, (tup3 (.str x t1) (.int (r / 256 * 256 + r % 256) t2) (.bytes b2 t3) n : Obj))]) → (Aps q ([] ++ [])) → (KBw.bInts b2 = ks) → Ret_rreg0 x r ks v new
set_option maxHeartbeats 8000000 in
theorem c_rreg0 (w : World) (x : Str) (r : Int) (b : Array UInt8) (t : Tok) (ns ks : List Int) (hx : x ∈ names4) (hr : 0 ≤ r ∧ r < 65536) (hb : KBw.bInts b = ns) (hl : ns.length = 51) (h0 : ns[Int.toNat 0]? = some 0) (h1 : List.take (clipAt ns.length (1 + 32) - clipAt ns.length 1) (List.drop (clipAt ns.length 1) ns) = nameInts x ++ zeros (32 - (nameInts x).length)) (h33 : List.take (clipAt ns.length (33 + 2) - clipAt ns.length 33) (List.drop (clipAt ns.length 33) ns) = [r / 256, r % 256]) (h35 : List.take (ns.length - clipAt ns.length 35) (List.drop (clipAt ns.length 35) ns) = ks) : TellN w (.ref 231) [.bytes b t] 25 600 [] (fun v news' => ∃ new, Ret_rreg0 x r ks v new ∧ news' = new ++ []) := by
  unfold TellN
  intro mean mg mb dp un gd cn cs a ccd cl outer A₀ base h₀ L m s Q E B F X N T hk hd hu hret
  have hlI : (ns.length : Int) = 51 := by lia
  refine wpAny_call ?_
  k_dflt cell_enter
  k_steps
  all_goals (
    refine' finM (small := [(_, tup3 (.str _ _) _ (.bytes _ _) _)]) hret ?H ?F' ?F ?N ?NG ?S ?R
    case H => k_asm
    case F' => k_asm
    case F => k_asm
    case N => k_asm
    case NG => k_asm
    case S => repeat' (first | exact List.forall_mem_nil _ | refine' subc ?_ ?_ | (with_reducible first | exact mm0 | exact mm1 | exact mm2 | exact mm3 | exact mm4 | exact mm5 | exact mm6 | exact mm7 | exact mm8 | exact mm9 | exact mm10 | exact mm11) | exact List.Mem.head _ | refine' List.Mem.tail _ ?_)
    case R => (exact ⟨_, ⟨_, _, _, _, _, _, rfl, rfl, Aps.n, by assumption⟩, rfl⟩))
inductive Ret_rreg (x : Str) (r : Int) (ks : List Int) (v : Value) (new : List (Addr × Obj)) : Prop
  | mk : ∀ (q : Addr) (b2 : Array UInt8) (t1 t2 t3 : Tok) (n : Nat), (v = .ref q) → (new = [(q, (tup3 (.str x t1) (.int r t2) (.bytes b2 t3) n : Obj))]) → (Aps q ([] ++ [])) → (KBw.bInts b2 = ks) → Ret_rreg x r ks v new
set_option maxHeartbeats 8000000 in
theorem c_rreg (w : World) (x : Str) (r : Int) (b : Array UInt8) (t : Tok) (ks : List Int) (hx : x ∈ names4) (hr : 0 ≤ r ∧ r < 65536) (hb : KBw.bInts b = regOcts x r ks) (hl : ks.length = 16) : TellN w (.ref 231) [.bytes b t] 25 600 [] (fun v news' => ∃ new, Ret_rreg x r ks v new ∧ news' = new ++ []) := by
  obtain ⟨k1, k2, k3, k4, k5⟩ := reg_cuts hx hr hl
  have er : r / 256 * 256 + r % 256 = r := st8 r
  unfold TellN
  intro mean mg mb dp un gd cn cs a ccd cl outer A₀ base h₀ L m s Q E B F X N T hk hd hu hret
  refine c_rreg0 w x r b t _ ks hx hr hb k1 k2 k3 k4 k5 _ _ _ _ _ _ _ _ _ _ _ _ _ _ _ _ _ _ _ _ B F X N T hk hd hu fun v h' tk' news' hR => ?_
  obtain ⟨new, ⟨q, b2, t1, t2, t3, n', e1, e2, e3, e4⟩, e5⟩ := hR
  rw [er] at e2
  exact hret v h' tk' news' ⟨new, ⟨q, b2, t1, t2, t3, n', e1, e2, e3, e4⟩, e5⟩
theorem use_rreg {w : World} {full : List (Addr × Obj)} (x : Str) (r : Int) (b : Array UInt8) (t : Tok) (ks : List Int) (hx : x ∈ names4) (hr : 0 ≤ r ∧ r < 65536) (hb : KBw.bInts b = regOcts x r ks) (hl : ks.length = 16) (hp : ∀ p ∈ ([] : List (Addr × Obj)), p ∈ full) {mean : ExcName → Option Value} {mg mb : Str → Option Value} {dp un : Nat} {gd : Option (List Code)} {cn : Str} {cs : Scope} {a : Addr} {ccd : Value} {cl : List (Str × Addr)} {outer : List Env} {A₀ : Around} {base h₀ : Heap} {L : Addr} {m : Str → Option Value} {s0 : Heap} {s1 : Array GenState} {s2 : Drawn} {s3 : Nat} {s4 : OsState} {Q E : Value → Shared → Prop}
    (B : Below A₀ base outer h₀) (F : Fr h₀ L s0 m) (X : (Mine.hd.heap_39 w.params).In h₀) (N : News h₀ L s0 full) (T : Top topProg loose mean mg mb h₀) (hk : cs.kind = .function) (hd : dp + 25 < recursionLimit) (hu : un + 600 < cLine)
    (h : ∀ (q : Addr) (b2 : Array UInt8) (t1 t2 t3 : Tok) (n : Nat)  (h' : Heap) (tk' : Nat), Aps q ([] ++ full.map (·.1)) → KBw.bInts b2 = ks → let ob0 : Obj := tup3 (.str x t1) (.int r t2) (.bytes b2 t3) n; Fr h₀ L h' m → News h₀ L h' ((q, ob0) :: full) → Q (.ref q) (Shared.mk h' s1 s2 tk' s4)) :
    wpAny (model PySem.Challenge.pw_pc0377_01 w) (ktrTop dp un gd cn cs L a ccd cl outer) (call (.ref 231) [.bytes b t]) Q E (Shared.mk s0 s1 s2 s3 s4) := by
  refine (c_rreg w x r b t ks hx hr hb hl).read hp B F X N T hk hd hu fun v h' tk' new hP hA F' N' => ?_
  obtain ⟨q, b2, t1, t2, t3, n, rfl, rfl, g0, f0⟩ := hP
  exact h q b2 t1 t2 t3 n  h' tk'  (g0.join (part := []) rfl (hA _ (.head _))) f0 F' N'
end
theorem lines_p42eqs : True := by
  w_top off
  k_extra "S"
  k_extra "ld:pre"
  k_extra "ld:massign"
  k_extra "ld:bytes"
  k_extra "ld:be"
  k_extra "ld:item"
  k_extra "ld:rdef"
  k_extra "ld:text"
  k_extra "ld:bstr"
  k_extra "ld:get16"
  k_extra "ld:rreg"
  trivial
section
section
open PySem.SeqAt
variable {prog : Program} {w : World} {A : Around} {E : Value → Shared → Prop} {s : Shared} {Q : Value → Shared → Prop} {h₀ : Heap} {L q p : Addr} {m : Str → Option Value} {news : List (Addr × Obj)} {x y : Str} {r i : Int} {b c : Array UInt8} {ks ls : List Int} {t1 t2 t3 u1 u2 u3 : Tok} {n k : Nat}
theorem eqAt_bytes {t u : Tok} : EqAt A s (.bytes b t) (.bytes c u) (b.toList == c.toList) := fun prog w E Q h => eqBool_bytes (by rw [show decide (b.toList = c.toList) = (b.toList == c.toList) by rw [Bool.eq_iff_iff]; simp]; exact h)
theorem beq_ints (hb : KBw.bInts b = ks) (hc : KBw.bInts c = ls) : (b.toList == c.toList) = decide (ks = ls) := by
  rw [Bool.eq_iff_iff, beq_iff_eq, decide_eq_true_eq]
  constructor
  · intro h
    have : b = c := Array.toList_inj.mp h
    rw [← hb, ← hc, this]
  · intro h
    have : b = c := ints_inj (by rw [hb, hc, h])
    rw [this]
theorem ne_bytes_same {t u : Tok} (hb : KBw.bInts b = ks) (hc : KBw.bInts c = ks) (h : Q (.bool false) s) : wpAny (model prog w) A (compareOp .NotEq (.bytes b t) (.bytes c u)) Q E s := by
  refine ne_bytes ?_
  have e := beq_ints hb hc
  have : (b.toList != c.toList) = false := by rw [bne, e]; simp
  rw [this]; exact h
theorem items3 {j : Nat} {ax ay az bx b_y bz : Value} {e0 e1 e2 : Bool} (h0 : EqAt A.in1 s ax bx e0) (h1 : EqAt A.in1 s ay b_y e1) (h2 : EqAt A.in1 s az bz e2) (k1 : j < (#[ax, ay, az] : Array Value).size) (k2 : j < (#[bx, b_y, bz] : Array Value).size) :
    EqAt A.in1 s (#[ax, ay, az] : Array Value)[j] (#[bx, b_y, bz] : Array Value)[j] ((fun j => match j with | 0 => e0 | 1 => e1 | _ => e2) j) := by
  match j, k1, k2 with
  | 0, _, _ => exact h0
  | 1, _, _ => exact h1
  | 2, _, _ => exact h2
theorem all3 {e0 e1 e2 : Bool} : ((List.range (min (3 : Nat) 3)).all (fun j => match j with | 0 => e0 | 1 => e1 | _ => e2) && ((3 : Nat) == 3)) = (e0 && e1 && e2) := by cases e0 <;> cases e1 <;> cases e2 <;> rfl
theorem three (hb : KBw.bInts b = ks) (hc : KBw.bInts c = ls) : ((x == y) && (r == i) && (b.toList == c.toList)) = decide (x = y ∧ r = i ∧ ks = ls) := by
  rw [beq_ints hb hc, Bool.eq_iff_iff]
  simp [and_assoc]
theorem eq_reg (N : News h₀ L s.heap news) (hq : (q, tup3 (.str x t1) (.int r t2) (.bytes b t3) n) ∈ news) (hp : (p, tup3 (.str y u1) (.int i u2) (.bytes c u3) k) ∈ news) (hb : KBw.bInts b = ks) (hc : KBw.bInts c = ls) (hu : A.units < cLine)
    (h : Q (.bool (decide (x = y ∧ r = i ∧ ks = ls))) s) : wpAny (model prog w) A (compareOp .Eq (.ref q) (.ref p)) Q E s := by
  refine eq_tupleAt (items := #[.str x t1, .int r t2, .bytes b t3]) (items2 := #[.str y u1, .int i u2, .bytes c u3]) ⟨_, N.get hq, rfl, _, rfl⟩ ⟨_, N.get hp, rfl, _, rfl⟩ hu (fun j h1 h2 => items3 (EqAt.str_str _ _ _ _) (EqAt.int_int _ _ _ _) eqAt_bytes h1 h2) ?_
  show Q (.bool ((List.range (min 3 3)).all _ && ((3 : Nat) == 3))) s
  rw [all3, three hb hc]; exact h
theorem ne_reg (N : News h₀ L s.heap news) (hq : (q, tup3 (.str x t1) (.int r t2) (.bytes b t3) n) ∈ news) (hp : (p, tup3 (.str y u1) (.int i u2) (.bytes c u3) k) ∈ news) (hb : KBw.bInts b = ks) (hc : KBw.bInts c = ls) (hu : A.units < cLine)
    (h : Q (.bool (!decide (x = y ∧ r = i ∧ ks = ls))) s) : wpAny (model prog w) A (compareOp .NotEq (.ref q) (.ref p)) Q E s := by
  refine RcNeAt.tuples (l := q) (b := p) (items := #[.str x t1, .int r t2, .bytes b t3]) (items2 := #[.str y u1, .int i u2, .bytes c u3]) ⟨_, N.get hq, rfl, _, rfl⟩ ⟨_, N.get hp, rfl, _, rfl⟩ hu (fun j h1 h2 => items3 (EqAt.str_str _ _ _ _) (EqAt.int_int _ _ _ _) eqAt_bytes h1 h2) prog w E Q ?_
  show Q (.bool (!((List.range (min 3 3)).all _ && ((3 : Nat) == 3)))) s
  rw [all3, three hb hc]; exact h
theorem ne_bool_same {a d : Bool} (e : a = d) (h : Q (.bool false) s) : wpAny (model prog w) A (compareOp .NotEq (.bool a) (.bool d)) Q E s := by
  subst e
  refine RcNeAt.bool_bool a a prog w E Q ?_
  have : (!(a == a)) = false := by simp
  first | (rw [this]; exact h) | (simpa using h)
end
theorem padded_inj {x y : Str} (hx : x ∈ names4) (hy : y ∈ names4) (h : nameInts x ++ zeros (32 - (nameInts x).length) = nameInts y ++ zeros (32 - (nameInts y).length)) : x = y := by
  have key : ∀ x ∈ names4, ∀ y ∈ names4, nameInts x ++ zeros (32 - (nameInts x).length) = nameInts y ++ zeros (32 - (nameInts y).length) → x = y := by decide +kernel
  exact key x hx y hy h
theorem reg_same {x y : Str} {r i : Int} {ks ls : List Int} {b c : Array UInt8} (hx : x ∈ names4) (hy : y ∈ names4) (hr : 0 ≤ r ∧ r < 65536) (hi : 0 ≤ i ∧ i < 65536) (hk : ks.length = 16) (hl : ls.length = 16) (hb : KBw.bInts b = regOcts x r ks) (hc : KBw.bInts c = regOcts y i ls) :
    (b.toList == c.toList) = decide (x = y ∧ r = i ∧ ks = ls) := by
  rw [beq_ints hb hc, Bool.eq_iff_iff, decide_eq_true_eq, decide_eq_true_eq]
  constructor
  · intro h
    obtain ⟨_, _, a1, a2, a3⟩ := reg_cuts hx hr hk
    obtain ⟨_, _, b1, b2, b3⟩ := reg_cuts hy hi hl
    rw [h] at a1 a2 a3
    have e1 := padded_inj hx hy (a1.symm.trans b1)
    have e2 := a2.symm.trans b2
    have e3 := a3.symm.trans b3
    have e4 : r / 256 = i / 256 := by injection e2
    have e5 : r % 256 = i % 256 := by injection e2 with _ e2; injection e2
    exact ⟨e1, by lia, e3⟩
  · rintro ⟨rfl, rfl, rfl⟩; rfl
end
theorem lines_p42bjoin : True := by
  w_top off
  k_extra "S"
  k_extra "ld:pre"
  k_extra "ld:massign"
  k_extra "ld:bytes"
  k_extra "ld:be"
  k_extra "ld:item"
  k_extra "ld:rdef"
  trivial
section
section
variable {prog : Program} {w : World} {A : Around} {E : Value → Shared → Prop} {s : Shared} {h₀ : Heap} {L : Addr} {M : Str → Option Value} {Q : Flow → Shared → Prop} {st : Stmt} {env : Env} {src l D q2 dd2 q1 dd1 K2 K1 : Addr} {o1 o2 oD T2 od2 T1 od1 oK2 oK1 : Obj}
theorem Fr.same {h : Heap} {x : Str} {v : Value} (e : M x = some v) (F : Fr h₀ L h M) : Fr h₀ L h (fun z => if z = x then some v else M z) := by
  have : (fun z => if z = x then some v else M z) = M := by
    funext z
    by_cases h : z = x
    · rw [if_pos h, h, e]
    · rw [if_neg h]
  rw [this]; exact F
/- what the second region's row is, whatever the way -/
inductive JoinR (prog : Program) (w : World) (h₀ : Heap) (L : Addr) (M : Str → Option Value) (ap : List Addr) (led : List (Addr × Obj)) (s : Shared) (f : Flow) (s' : Shared) : Prop
  | mk : (f = .next) → ∀ h' tk q n x r t1 t2 t3 dd b od kvs ks, (s' = { s with heap := h', toks := tk }) → (x ∈ names4) → ((0 ≤ r ∧ r < 65536)) → (od.IsDictOf (PySem.intKind prog w) kvs) → (Told kvs) → ((dd == sysModules) = false) → (KBw.bInts b = ks) → (ks.length = 16) → (Aps q ap) → (Aps dd ap) → (Fr h₀ L h' (fun z => if z = Str.ofString "other" then some (.ref q) else M z)) → ((∀ p ∈ (q, tup4 (.str x t1) (.int r t2) (.ref dd) (.bytes b t3) n) :: (dd, od) :: led, h'.get? p.1 = some p.2 ∧ p.1 ≠ L ∧ h₀.get? p.1 = none)) → JoinR prog w h₀ L M ap led s f s'
theorem join_regs (F : Fr h₀ L s.heap M) (N : News h₀ L s.heap [(src, o1), (l, o2), (D, oD), (q2, T2), (dd2, od2), (q1, T1), (dd1, od1), (K2, oK2), (K1, oK1)])
    (h : wpAny (model prog w) A (exec st env) (JoinR prog w h₀ L M [src, l, K2, K1] [(src, o1), (l, o2), (q1, T1), (dd1, od1), (K2, oK2), (K1, oK1)] s) E s)
    (k : ∀ h' tk q n x r t1 t2 t3 dd b od kvs ks, x ∈ names4 → (0 ≤ r ∧ r < 65536) → od.IsDictOf (PySem.intKind prog w) kvs → Told kvs → (dd == sysModules) = false → KBw.bInts b = ks → ks.length = 16 → Aps q [src, l, K2, K1] → Aps dd [src, l, K2, K1] →
      Fr h₀ L h' (fun z => if z = Str.ofString "other" then some (.ref q) else M z) → News h₀ L h' [(q, tup4 (.str x t1) (.int r t2) (.ref dd) (.bytes b t3) n), (dd, od), (src, o1), (l, o2), (q1, T1), (dd1, od1), (K2, oK2), (K1, oK1)] → Q .next { s with heap := h', toks := tk }) :
    wpAny (model prog w) A (exec st env) Q E s := by
  refine wpAny_mono h (fun f s' hj => ?_) fun _ _ e => e
  obtain ⟨rfl, h', tk, q, n, x, r, t1, t2, t3, dd, b, od, kvs, ks, rfl, c1, c2, c3, c4, c5, c6, c7, c8, c9, F, N⟩ := hj
  exact k h' tk q n x r t1 t2 t3 dd b od kvs ks c1 c2 c3 c4 c5 c6 c7 c8 c9 F N
theorem joinr_ {ap : List Addr} {led : List (Addr × Obj)} {h' : Heap} {tk n : Nat} {q dd : Addr} {x : Str} {r : Int} {t1 t2 t3 : Tok} {b : Array UInt8} {od : Obj} {kvs : List (Int × Value)} {ks : List Int} {big : List (Addr × Obj)}
    (N : News h₀ L h' big) (F : Fr h₀ L h' (fun z => if z = Str.ofString "other" then some (.ref q) else M z)) (mq : (q, tup4 (.str x t1) (.int r t2) (.ref dd) (.bytes b t3) n) ∈ big) (md : (dd, od) ∈ big) (ml : ∀ p ∈ led, p ∈ big)
    (c1 : x ∈ names4) (c2 : 0 ≤ r ∧ r < 65536) (c3 : od.IsDictOf (PySem.intKind prog w) kvs) (c4 : Told kvs) (c5 : (dd == sysModules) = false) (c6 : KBw.bInts b = ks) (c7 : ks.length = 16) (c8 : Aps q ap) (c9 : Aps dd ap) :
    JoinR prog w h₀ L M ap led s .next { s with heap := h', toks := tk } :=
  ⟨rfl, h', tk, q, n, x, r, t1, t2, t3, dd, b, od, kvs, ks, rfl, c1, c2, c3, c4, c5, c6, c7, c8, c9, F, fun p hp => by
    rcases List.mem_cons.mp hp with rfl | hp
    · exact N _ mq
    · rcases List.mem_cons.mp hp with rfl | hp
      · exact N _ md
      · exact N _ (ml p hp)⟩
end
end
theorem lines_p42ctcut : True := by
  w_top off
  k_extra "S"
  k_extra "ld:pre"
  k_extra "ld:massign"
  k_extra "ld:bytes"
  k_extra "ld:be"
  k_extra "ld:item"
  k_extra "ld:rdef"
  trivial
section
section
open Builtin.Slice
variable {prog : Program} {w : World} {A : Around} {E : Value → Shared → Prop} {s : Shared} {h₀ : Heap} {L q : Addr} {m : Str → Option Value} {news : List (Addr × Obj)} {value slice : PySem.Expr} {its : Array Value} {vl vu : Value} {lo hi : Option Int} {zs : List Value} {n k : Nat}
theorem part_eq {i j : Int} {t : Tok} (h : i = j) : IsPart (.int i t) (some j) := h ▸ .int i t
theorem part_index (p : IsPart vl lo) {Q : Option Int → Shared → Prop} (h : Q lo s) : wpAny (model prog w) A (slicePartIndex vl) Q E s := by
  cases p with
  | none => exact slicePart_none h
  | int => exact slicePart_int h
noncomputable def tupCut (xs : List Value) (lo hi : Option Int) : List Value :=
  (List.range (slicePlaces (sliceAdjust lo hi 1 xs.length).1 (sliceAdjust lo hi 1 xs.length).2 1)).filterMap fun (k : Nat) => xs[((sliceAdjust lo hi 1 xs.length).1 + (k : Int) * 1).toNat]?
noncomputable def tupWhole (xs : List Value) (lo hi : Option Int) : Bool := (sliceAdjust lo hi 1 xs.length).1 == 0 && (1 : Int) == 1 && slicePlaces (sliceAdjust lo hi 1 xs.length).1 (sliceAdjust lo hi 1 xs.length).2 1 == xs.length
theorem slice_tup {Q : Value → Shared → Prop} (F : Fr h₀ L s.heap m) (N : News h₀ L s.heap news) (hm : (q, { cls := .type "tuple", data := .seq its k }) ∈ news) (pl : IsPart vl lo) (pu : IsPart vu hi) (hw : tupWhole its.toList lo hi = false) (e : tupCut its.toList lo hi = zs) (hz : zs.length ≤ 1000)
    (h : ∀ D h', Fr h₀ L h' m → News h₀ L h' ((D, { cls := .type "tuple", data := .seq zs.toArray }) :: news) → (∀ p ∈ news, p.1 < D) → Q (.ref D) { s with heap := h' })
    (hs : subscripted slice false (.ref q) (.ref s.heap.objs.size) = operate [.ref s.heap.objs.size, .ref q] (getItem (.ref q) (.ref s.heap.objs.size)) := by with_unfolding_all rfl)
    (hg : ∀ r, letTemporaryGo value (.ref q) r = pure () := by intro _; with_unfolding_all rfl) :
    wpAny (model prog w) A (subscriptTail value slice (.ref q) (.ref s.heap.objs.size)) Q E { s with heap := s.heap.push { cls := .type "slice", data := .fields #[vl, vu, .none] } } := by
  have ht : IsTup (s.heap.push { cls := .type "slice", data := .fields #[vl, vu, .none] }) q its := ⟨_, Heap.get?_push_of_some _ (N.get hm), rfl, k, rfl⟩
  have hsl : (s.heap.push { cls := .type "slice", data := .fields #[vl, vu, .none] }).get? s.heap.objs.size = some { cls := .type "slice", data := .fields #[vl, vu, .none] } := Heap.get?_push_size _ rfl
  have N1 := News.push (F.push { cls := .type "slice", data := .fields #[vl, vu, .none] }) (N.grown fun _ _ e => Heap.get?_push_of_some _ e) { cls := .type "tuple", data := .seq zs.toArray }
  have hq := h _ _ ((F.push { cls := .type "slice", data := .fields #[vl, vu, .none] }).push { cls := .type "tuple", data := .seq zs.toArray }) N1 (fun p hp => by rw [Heap.size_push]; exact Nat.lt_succ_of_lt (Heap.lt_size (N p hp).1))
  refine subscriptTail_ops (s := { s with heap := s.heap.push { cls := .type "slice", data := .fields #[vl, vu, .none] } }) ht.typeIs slot_tuple_getitem.lookup ?_ hs hg
  have hTs : Shared.TypeIs { s with heap := s.heap.push { cls := .type "slice", data := .fields #[vl, vu, .none] } } (.ref s.heap.objs.size) "slice" := ⟨_, hsl, rfl⟩
  unfold getItem
  try with_reducible refine wpAny_holding ?_
  first | refine wpAny_bind (wpAny_pure ?_) | skip
  refine wpAny_bind (wpAny_sequenceKey (s := { s with heap := s.heap.push { cls := .type "slice", data := .fields #[vl, vu, .none] } }) ht.typeIs (by decide) ?_)
  refine wpAny_bind (wpAny_callSpecial?_slot (name := Str.ofString "__getitem__") (s := { s with heap := s.heap.push { cls := .type "slice", data := .fields #[vl, vu, .none] } }) ht.typeIs slot_tuple_getitem
    (wpAny_call_entry slot_tuple_getitem ht.typeIs entry_tuple_getitem ?_ (args_tuple_getitem _ _)))
  show wpAny _ _ (Builtin.Tuple.tupleItemsOf (.ref q) >>= _) _ _ _
  refine wpAny_bind (tupleItemsOf_ ht ?_)
  refine wpAny_bind (wpAny_typeOf hTs ?_)
  rw [if_pos (by decide)]
  refine wpAny_bind ?_
  unfold sliceApplied sliceFields
  refine wpAny_bind (wpAny_bind (wpAny_field hsl rfl (x := vl) rfl (wpAny_bind (wpAny_field hsl rfl (x := vu) rfl (wpAny_bind (wpAny_field hsl rfl (x := .none) rfl (wpAny_pure ?_)))))))
  refine wpAny_bind (slicePart_none ?_)
  show wpAny _ _ (if ((1 : Int) == 0) = true then _ else _) _ _ _
  rw [if_neg (by decide)]
  refine wpAny_bind (part_index pl (wpAny_bind (part_index pu (wpAny_bind (wpAny_pure ?_)))))
  refine wpAny_pure ?_
  have hsz : (its.size : Int) = (its.toList.length : Int) := by rw [Array.length_toList]
  show wpAny _ _ (if ((sliceAdjust lo hi 1 (its.size : Int)).1 == 0 && (1 : Int) == 1 && slicePlaces (sliceAdjust lo hi 1 (its.size : Int)).1 (sliceAdjust lo hi 1 (its.size : Int)).2 1 == its.size) = true then _ else _) _ _ _
  have hno : ((sliceAdjust lo hi 1 (its.size : Int)).1 == 0 && (1 : Int) == 1 && slicePlaces (sliceAdjust lo hi 1 (its.size : Int)).1 (sliceAdjust lo hi 1 (its.size : Int)).2 1 == its.size) = false := by
    rw [hsz, ← Array.length_toList]; exact hw
  rw [hno, if_neg Bool.false_ne_true]
  have hcut : ((List.range (slicePlaces (sliceAdjust lo hi 1 (its.size : Int)).1 (sliceAdjust lo hi 1 (its.size : Int)).2 1)).filterMap fun (k : Nat) => its[((sliceAdjust lo hi 1 (its.size : Int)).1 + (k : Int) * 1).toNat]?) = zs := by
    rw [← e, hsz]
    unfold tupCut
    congr 1
    funext k
    rw [Array.getElem?_toList]
  have hok : sizeOk (.seq zs.toArray) := by
    show zs.toArray.size ≤ sizeLine
    rw [List.size_toArray, sizeLine_eq]; lia
  show wpAny _ _ (Builtin.Tuple.tupleExact ((List.range (slicePlaces (sliceAdjust lo hi 1 (its.size : Int)).1 (sliceAdjust lo hi 1 (its.size : Int)).2 1)).filterMap fun (k : Nat) => its[((sliceAdjust lo hi 1 (its.size : Int)).1 + (k : Int) * 1).toNat]?).toArray >>= fun x => ret x) _ _ _
  rw [hcut]
  first
    | exact wpAny_bind (m := Builtin.Tuple.tupleExact _) (wpAny_newObj_type (wpAny_pure ⟨_, rfl, wpAny_pure hq⟩) hok)
    | exact wpAny_bind (m := Builtin.Tuple.tupleExact _) (wpAny_newObj_type (wpAny_bind (wpAny_pure (wpAny_pure ⟨_, rfl, wpAny_pure hq⟩))) hok)
    | exact wpAny_bind (wpAny_bind (m := Builtin.Tuple.tupleExact _) (wpAny_newObj_type (wpAny_pure (wpAny_pure ⟨_, rfl, wpAny_pure hq⟩)) hok))
    | exact wpAny_bind (wpAny_bind (m := Builtin.Tuple.tupleExact _) (wpAny_newObj_type (wpAny_pure ⟨_, rfl, wpAny_pure hq⟩) hok))
end
end
theorem lines_p42dlists : True := by
  w_top off
  k_extra "S"
  k_extra "ld:pre"
  k_extra "ld:massign"
  k_extra "ld:bytes"
  k_extra "ld:be"
  k_extra "ld:item"
  k_extra "ld:sorted"
  k_extra "ld:rdef"
  k_extra "ld:lookd"
  trivial
section
section
variable {prog : Program} {w : World} {A : Around} {E : Value → Shared → Prop} {s : Shared} {h₀ : Heap} {L a b d v : Addr} {m : Str → Option Value} {news : List (Addr × Obj)} {vs ws : List Value} {ns ms : List Int} {n k : Nat} {Q : Value → Shared → Prop} {value slice : PySem.Expr} {vl vu : Value} {od : Obj} {kvs : List (Int × Value)}
theorem listAt (N : News h₀ L s.heap news) (hm : (a, listOf vs.toArray n) ∈ news) : s.heap.IsList a vs.toArray := ⟨_, N.get hm, rfl, n, rfl⟩
theorem ladd (F : Fr h₀ L s.heap m) (N : News h₀ L s.heap news) (ha : (a, listOf vs.toArray n) ∈ news) (hb : (b, listOf ws.toArray k) ∈ news) (hi : IntsAre vs ns) (hj : IntsAre ws ms) (hz : ns.length + ms.length ≤ 1000)
    (h : ∀ D us h', Fr h₀ L h' m → News h₀ L h' ((D, listOf (List.toArray us) 0) :: news) → (∀ p ∈ news, p.1 < D) → IntsAre us (ns ++ ms) → Q (.ref D) { s with heap := h' }) : wpAny (model prog w) A (binaryOp .Add (.ref a) (.ref b)) Q E s :=
  kmk_add_ints F N (listAt N ha) (listAt N hb) hi hj h (by rw [sizeLine_eq]; lia)
theorem lne (N : News h₀ L s.heap news) (ha : (a, listOf vs.toArray n) ∈ news) (hb : (b, listOf ws.toArray k) ∈ news) (hi : IntsAre vs ns) (hj : IntsAre ws ms) (e : ns = ms) (hu : A.units + 64 < cLine) (h : Q (.bool false) s) : wpAny (model prog w) A (compareOp .NotEq (.ref a) (.ref b)) Q E s :=
  ke_ne_ints (listAt N ha) (listAt N hb) hi hj hu (by rw [decide_eq_true e]; exact h)
theorem leq (N : News h₀ L s.heap news) (ha : (a, listOf vs.toArray n) ∈ news) (hb : (b, listOf ws.toArray k) ∈ news) (hi : IntsAre vs ns) (hj : IntsAre ws ms) (e : ns = ms) (hu : A.units + 64 < cLine) (h : Q (.bool true) s) : wpAny (model prog w) A (compareOp .Eq (.ref a) (.ref b)) Q E s :=
  ke_eq_ints (listAt N ha) (listAt N hb) hi hj hu (by rw [decide_eq_true e]; exact h)
theorem list_vals (hh : A.handled = none) (F : Fr h₀ L s.heap m) (N : News h₀ L s.heap news) (hv : (v, { cls := .type "dict_values", data := .fields #[.ref d] }) ∈ news) (hm : (d, od) ∈ news) (ho : od.IsDictOf (intKind prog w) kvs) (hT : Told kvs)
    (h : ∀ D c h' tk vs, Fr h₀ L h' m → News h₀ L h' ((D, listOf (List.toArray vs) c) :: news) → (∀ p ∈ news, p.1 < D) → IntsAre vs (valsI kvs) → Q (.ref D) { s with heap := h', toks := tk }) : wpAny (model prog w) A (call (.type "list") [.ref v]) Q E s := by
  obtain ⟨ep, hat⟩ := (kda_dict N hm ho).dictAt
  refine kdl_N (kdl_values (knd := intKind prog w) (kvs := kvs) (ep := ep)) hh F N ⟨⟨_, N.get hv, rfl, rfl⟩, hat⟩ (by have := hT.1; rw [sizeLine_eq]; lia) fun D c h' tk vs F' N' l1 hl hv => h D c h' tk vs F' N' l1 ?_
  have := ints_of (val := fun i => (valsI kvs).getD i 0) vs 0 fun j v hv' => hT.vals j v (hv j v hv')
  have e : (List.range vs.length).map (fun j => (fun i => (valsI kvs).getD i 0) (j + 0)) = valsI kvs := by
    apply List.ext_getElem
    · simp [hl, vals_len]
    · intro i h1 h2
      simp at h1 h2
      simp [h2]
  rwa [e] at this
end
/- the numbers told are the sorted set of the values and nought, but for nought -/
theorem nums_same {kvs : List (Int × Value)} {ns ms : List Int} (hT : Told kvs) (h1 : ns.Pairwise (· < ·)) (h2 : ms.Pairwise (· < ·)) (m1 : ∀ k, k ∈ ns ↔ k ∈ valsI kvs ∧ k ≠ 0) (m2 : ∀ k, k ∈ ms ↔ k ∈ valsI kvs ++ [0]) : ns = ms.drop 1 := by
  cases ms with
  | nil => exact absurd ((m2 0).mpr (by simp)) (by nofun)
  | cons y r =>
    obtain ⟨p1, p2⟩ := List.pairwise_cons.mp h2
    have hy : y = 0 := by
      have h0 : (0 : Int) ∈ y :: r := (m2 0).mpr (by simp)
      have hy := (m2 y).mp (List.mem_cons_self ..)
      have hy0 : 0 ≤ y := by
        rcases List.mem_append.mp hy with h | h
        · exact (vals_mem h hT).1
        · rw [List.mem_singleton.mp h]; exact Int.le_refl _
      rcases List.mem_cons.mp h0 with e | h0
      · exact e.symm
      · have := p1 0 h0; lia
    subst hy
    refine strict_eq h1 p2 fun k => ?_
    rw [m1]
    have := m2 k
    constructor
    · rintro ⟨hk, hn⟩
      rcases List.mem_cons.mp (this.mpr (List.mem_append_left _ hk)) with e | h
      · exact absurd e hn
      · exact h
    · intro hk
      have := p1 k hk
      rcases List.mem_append.mp ((m2 k).mp (.tail _ hk)) with h | h
      · exact ⟨h, by lia⟩
      · rw [List.mem_singleton.mp h] at this; lia
noncomputable def Sel (kvs : List (Int × Value)) : Prop := ∃ ns : List Int, ∀ k, k ∈ ns ↔ k ∈ kvs.map (·.1)
theorem z_one {ns : List Int} {kvs : List (Int × Value)} (h : ns.length = kvs.length) (hT : Told kvs) : ns.length ≤ 1000 := by have := hT.1; lia
theorem z_add {ns : List Int} {kvs : List (Int × Value)} {x : Int} (h : ns.length = kvs.length) (hT : Told kvs) : ns.length + [x].length ≤ 1000 := by have := hT.1; simp; lia
theorem z_app {ns : List Int} {kvs : List (Int × Value)} {x : Int} (h : ns.length = kvs.length) (hT : Told kvs) : (ns ++ [x]).length ≤ 1000 := by have := hT.1; simp; lia
theorem z_map {ns : List Int} {kvs : List (Int × Value)} {x : Int} {f : Int → Int} (h : ns.length = kvs.length) (hT : Told kvs) : (ns.map f).length + [x].length ≤ 1000 := by have := hT.1; simp; lia
theorem z_vals {kvs : List (Int × Value)} {x : Int} (hT : Told kvs) : (valsI kvs).length + [x].length ≤ 1000 := by have := hT.1; simp [vals_len]; lia
theorem z_four {kvs : List (Int × Value)} {x : Int} (hT : Told kvs) : (valsI kvs ++ [x]).length ≤ 4 := by have := hT.1; simp [vals_len]; lia
theorem look_same {kvs : List (Int × Value)} {ns ms : List Int} (hT : Told kvs) (p1 : ns.Pairwise (· < ·)) (p2 : ms.Pairwise (· < ·)) (m1 : ∀ k, k ∈ ns ↔ k ∈ kvs.map (·.1)) (m2 : ∀ k, k ∈ ms ↔ k ∈ kvs.map (·.1)) : (ns ++ [0]).map (lookI kvs) = ms.map (lookI kvs) ++ [0] := by
  have e : ns = ms := strict_eq p1 p2 fun k => (m1 k).trans (m2 k).symm
  rw [e, List.map_append, mapc, mapn, hT.zero]
theorem nums_same2 {kvs : List (Int × Value)} {ns ms ls : List Int} (m1 : ∀ k, k ∈ ns ↔ k ∈ valsI kvs ∧ k ≠ 0) (m2 : ∀ k, k ∈ ms ↔ k ∈ ls) (m3 : ∀ k, k ∈ ls ↔ k ∈ valsI kvs ++ [0]) (hT : Told kvs) (h1 : ns.Pairwise (· < ·)) (h2 : ms.Pairwise (· < ·)) : ns = ms.drop 1 := nums_same hT h1 h2 m1 fun k => (m2 k).trans (m3 k)
section
open PyProof.Rows.LCg
variable {prog : Program} {w : World} {A : Around} {E : Value → Shared → Prop} {s : Shared} {h₀ : Heap} {L I C D d : Addr} {m : Str → Option Value} {rest src news : List (Addr × Obj)} {env : Env} {n : Nat} {oI oC od : Obj} {elt iter : PySem.Expr} {scope : Scope} {cl : List (Str × Addr)} {pos px : Pos} {x : Str} {R : Result → Shared → Prop} {us : List Value} {ks ns : List Int} {kvs : List (Int × Value)} {value slice : PySem.Expr}
theorem mints_look (hh : A.handled = none) (S : Steps prog w I src us.toArray.size (fun i v => us.toArray[i]? = some v) 0 oI) (hi : IntsAre us ks) (hz : ks.length ≤ 1000) (F : Fr h₀ L s.heap m) (N : News h₀ L s.heap ((C, oC) :: (D, lst []) :: (I, oI) :: rest)) (hC : NsObj oC (fun _ => none)) (hx : scope.names.lookup x = some .local) (hk : scope.kind = .function)
    (hsr : ∀ h, Fr h₀ L h m → News h₀ L h rest → SrcIn src h) (aC : Aps C (D :: I :: rest.map (·.1))) (aD : Aps D (I :: rest.map (·.1))) (aI : Aps I (rest.map (·.1))) (hs : Sel kvs)
    (el : ∀ k t h tk oC' oI' vs c (E' : Value → Shared → Prop), k ∈ ks → Fr h₀ L h m → News h₀ L h ((C, oC') :: (D, listOf vs c) :: (I, oI') :: rest) → NsObj oC' (fun z => if z = x then some (.int k t) else none) →
      wpAny (model prog w) A (eval elt (compEnvC scope cl C env)) (EndI h₀ L m ((C, oC') :: (D, listOf vs c) :: (I, oI') :: rest) s (lookI kvs k)) E' { s with heap := h, toks := tk })
    (fin : ∀ h tk oC' oN vs c, Fr h₀ L h m → News h₀ L h ((C, oC') :: (D, listOf vs.toArray c) :: rest) → NsObj oC' oN → IntsAre vs (ks.map (lookI kvs)) → R (.ok .next) { s with heap := h, toks := tk }) :
    MLoop prog w A (.ListComp elt [⟨.Name x px, iter, [], 0⟩] scope pos) (.ref I) (.ref D) (compEnvC scope cl C env) R s :=
  mints_L hh S (by rw [List.size_toArray, hi.length]; exact hz) F N hC hx hk hsr (aC.all _ (.head _)) (aC.all _ (.tail _ (.head _))) (aD.all _ (.head _)) (fun p hp => aC.all _ (.tail _ (.tail _ (List.mem_map_of_mem hp)))) (fun p hp => aD.all _ (.tail _ (List.mem_map_of_mem hp))) (fun p hp => aI.all _ (List.mem_map_of_mem hp)) (lookI kvs) ks (by rw [List.size_toArray, hi.length]) (fun i v _ h => ints_at9 hi i v h) el fin
end
end
theorem lines_p43regs : True := by
  w_top off
  k_extra "S"
  k_extra "ld:pre"
  k_extra "ld:take"
  k_extra "ld:one"
  k_extra "ld:massign"
  k_extra "ld:bytes"
  k_extra "ld:be"
  k_extra "ld:item"
  k_extra "ld:fold"
  k_extra "ld:cls"
  k_extra "ld:put16"
  k_extra "ld:sorted"
  k_extra "ld:rdef"
  k_extra "ld:region"
  k_extra "ld:text"
  k_extra "ld:locts"
  k_extra "ld:octs"
  k_extra "ld:same"
  k_extra "ld:dloop"
  k_extra "ld:check"
  k_extra "ld:newreg"
  k_extra "ld:lookd"
  k_extra "ld:inst"
  k_extra "ld:nums"
  k_extra "ld:bstr"
  k_extra "ld:get16"
  k_extra "ld:rreg"
  k_extra "ld:eqs"
  k_extra "ld:tcut"
  k_extra "ld:lists"
  k_extra "ld:o_regs"
  trivial
section
theorem way4 {d : Int} (h0 : 0 ≤ d) (h1 : d < 5) : d < 4 ∨ d = 4 := by lia
theorem lt_known {prog : Program} {w : World} {A : Around} {E : Value → Shared → Prop} {s : Shared} {Q : Value → Shared → Prop} {x y : Int} {t u : Tok} (h : x < y) (q : Q (.bool true) s) : wpAny (model prog w) A (compareOp .Lt (.int x t) (.int y u)) Q E s := lt_int (by rw [decide_eq_true h]; exact q)
noncomputable def cutA (d : Int) (xs : List Value) : List Value := xs.take d.toNat
noncomputable def cutB (d : Int) (xs : List Value) : List Value := (xs.drop d.toNat).take 1
noncomputable def cutC (d : Int) (xs : List Value) : List Value := xs.drop (d.toNat + 1)
section
variable {a b c e : Value} {d : Int}
theorem cut4 {P : Int → Prop} (h0 : 0 ≤ d) (h1 : d < 4) (p0 : P 0) (p1 : P 1) (p2 : P 2) (p3 : P 3) : P d := by
  rcases (by lia : d = 0 ∨ d = 1 ∨ d = 2 ∨ d = 3) with rfl | rfl | rfl | rfl <;> assumption
theorem whA (h0 : 0 ≤ d) (h1 : d < 4) : tupWhole #[a, b, c, e].toList none (some d) = false := cut4 (P := fun d => tupWhole #[a, b, c, e].toList none (some d) = false) h0 h1 (by first | rfl | (simp (decide := true) [tupWhole, tupCut, cutA, cutB, cutC, Builtin.Slice.sliceAdjust, Builtin.Slice.slicePlaces]; done) | (simp (decide := true) [tupWhole, tupCut, cutA, cutB, cutC, Builtin.Slice.sliceAdjust, Builtin.Slice.slicePlaces]; rfl)) (by first | rfl | (simp (decide := true) [tupWhole, tupCut, cutA, cutB, cutC, Builtin.Slice.sliceAdjust, Builtin.Slice.slicePlaces]; done) | (simp (decide := true) [tupWhole, tupCut, cutA, cutB, cutC, Builtin.Slice.sliceAdjust, Builtin.Slice.slicePlaces]; rfl)) (by first | rfl | (simp (decide := true) [tupWhole, tupCut, cutA, cutB, cutC, Builtin.Slice.sliceAdjust, Builtin.Slice.slicePlaces]; done) | (simp (decide := true) [tupWhole, tupCut, cutA, cutB, cutC, Builtin.Slice.sliceAdjust, Builtin.Slice.slicePlaces]; rfl)) (by first | rfl | (simp (decide := true) [tupWhole, tupCut, cutA, cutB, cutC, Builtin.Slice.sliceAdjust, Builtin.Slice.slicePlaces]; done) | (simp (decide := true) [tupWhole, tupCut, cutA, cutB, cutC, Builtin.Slice.sliceAdjust, Builtin.Slice.slicePlaces]; rfl))
theorem whB (h0 : 0 ≤ d) (h1 : d < 4) : tupWhole #[a, b, c, e].toList (some d) (some (d + 1)) = false := cut4 (P := fun d => tupWhole #[a, b, c, e].toList (some d) (some (d + 1)) = false) h0 h1 (by first | rfl | (simp (decide := true) [tupWhole, tupCut, cutA, cutB, cutC, Builtin.Slice.sliceAdjust, Builtin.Slice.slicePlaces]; done) | (simp (decide := true) [tupWhole, tupCut, cutA, cutB, cutC, Builtin.Slice.sliceAdjust, Builtin.Slice.slicePlaces]; rfl)) (by first | rfl | (simp (decide := true) [tupWhole, tupCut, cutA, cutB, cutC, Builtin.Slice.sliceAdjust, Builtin.Slice.slicePlaces]; done) | (simp (decide := true) [tupWhole, tupCut, cutA, cutB, cutC, Builtin.Slice.sliceAdjust, Builtin.Slice.slicePlaces]; rfl)) (by first | rfl | (simp (decide := true) [tupWhole, tupCut, cutA, cutB, cutC, Builtin.Slice.sliceAdjust, Builtin.Slice.slicePlaces]; done) | (simp (decide := true) [tupWhole, tupCut, cutA, cutB, cutC, Builtin.Slice.sliceAdjust, Builtin.Slice.slicePlaces]; rfl)) (by first | rfl | (simp (decide := true) [tupWhole, tupCut, cutA, cutB, cutC, Builtin.Slice.sliceAdjust, Builtin.Slice.slicePlaces]; done) | (simp (decide := true) [tupWhole, tupCut, cutA, cutB, cutC, Builtin.Slice.sliceAdjust, Builtin.Slice.slicePlaces]; rfl))
theorem whC (h0 : 0 ≤ d) (h1 : d < 4) : tupWhole #[a, b, c, e].toList (some (d + 1)) none = false := cut4 (P := fun d => tupWhole #[a, b, c, e].toList (some (d + 1)) none = false) h0 h1 (by first | rfl | (simp (decide := true) [tupWhole, tupCut, cutA, cutB, cutC, Builtin.Slice.sliceAdjust, Builtin.Slice.slicePlaces]; done) | (simp (decide := true) [tupWhole, tupCut, cutA, cutB, cutC, Builtin.Slice.sliceAdjust, Builtin.Slice.slicePlaces]; rfl)) (by first | rfl | (simp (decide := true) [tupWhole, tupCut, cutA, cutB, cutC, Builtin.Slice.sliceAdjust, Builtin.Slice.slicePlaces]; done) | (simp (decide := true) [tupWhole, tupCut, cutA, cutB, cutC, Builtin.Slice.sliceAdjust, Builtin.Slice.slicePlaces]; rfl)) (by first | rfl | (simp (decide := true) [tupWhole, tupCut, cutA, cutB, cutC, Builtin.Slice.sliceAdjust, Builtin.Slice.slicePlaces]; done) | (simp (decide := true) [tupWhole, tupCut, cutA, cutB, cutC, Builtin.Slice.sliceAdjust, Builtin.Slice.slicePlaces]; rfl)) (by first | rfl | (simp (decide := true) [tupWhole, tupCut, cutA, cutB, cutC, Builtin.Slice.sliceAdjust, Builtin.Slice.slicePlaces]; done) | (simp (decide := true) [tupWhole, tupCut, cutA, cutB, cutC, Builtin.Slice.sliceAdjust, Builtin.Slice.slicePlaces]; rfl))
theorem eqA (h0 : 0 ≤ d) (h1 : d < 4) : tupCut #[a, b, c, e].toList none (some d) = cutA d [a, b, c, e] := cut4 (P := fun d => tupCut #[a, b, c, e].toList none (some d) = cutA d [a, b, c, e]) h0 h1 (by first | rfl | (simp (decide := true) [tupWhole, tupCut, cutA, cutB, cutC, Builtin.Slice.sliceAdjust, Builtin.Slice.slicePlaces]; done) | (simp (decide := true) [tupWhole, tupCut, cutA, cutB, cutC, Builtin.Slice.sliceAdjust, Builtin.Slice.slicePlaces]; rfl)) (by first | rfl | (simp (decide := true) [tupWhole, tupCut, cutA, cutB, cutC, Builtin.Slice.sliceAdjust, Builtin.Slice.slicePlaces]; done) | (simp (decide := true) [tupWhole, tupCut, cutA, cutB, cutC, Builtin.Slice.sliceAdjust, Builtin.Slice.slicePlaces]; rfl)) (by first | rfl | (simp (decide := true) [tupWhole, tupCut, cutA, cutB, cutC, Builtin.Slice.sliceAdjust, Builtin.Slice.slicePlaces]; done) | (simp (decide := true) [tupWhole, tupCut, cutA, cutB, cutC, Builtin.Slice.sliceAdjust, Builtin.Slice.slicePlaces]; rfl)) (by first | rfl | (simp (decide := true) [tupWhole, tupCut, cutA, cutB, cutC, Builtin.Slice.sliceAdjust, Builtin.Slice.slicePlaces]; done) | (simp (decide := true) [tupWhole, tupCut, cutA, cutB, cutC, Builtin.Slice.sliceAdjust, Builtin.Slice.slicePlaces]; rfl))
theorem eqB (h0 : 0 ≤ d) (h1 : d < 4) : tupCut #[a, b, c, e].toList (some d) (some (d + 1)) = cutB d [a, b, c, e] := cut4 (P := fun d => tupCut #[a, b, c, e].toList (some d) (some (d + 1)) = cutB d [a, b, c, e]) h0 h1 (by first | rfl | (simp (decide := true) [tupWhole, tupCut, cutA, cutB, cutC, Builtin.Slice.sliceAdjust, Builtin.Slice.slicePlaces]; done) | (simp (decide := true) [tupWhole, tupCut, cutA, cutB, cutC, Builtin.Slice.sliceAdjust, Builtin.Slice.slicePlaces]; rfl)) (by first | rfl | (simp (decide := true) [tupWhole, tupCut, cutA, cutB, cutC, Builtin.Slice.sliceAdjust, Builtin.Slice.slicePlaces]; done) | (simp (decide := true) [tupWhole, tupCut, cutA, cutB, cutC, Builtin.Slice.sliceAdjust, Builtin.Slice.slicePlaces]; rfl)) (by first | rfl | (simp (decide := true) [tupWhole, tupCut, cutA, cutB, cutC, Builtin.Slice.sliceAdjust, Builtin.Slice.slicePlaces]; done) | (simp (decide := true) [tupWhole, tupCut, cutA, cutB, cutC, Builtin.Slice.sliceAdjust, Builtin.Slice.slicePlaces]; rfl)) (by first | rfl | (simp (decide := true) [tupWhole, tupCut, cutA, cutB, cutC, Builtin.Slice.sliceAdjust, Builtin.Slice.slicePlaces]; done) | (simp (decide := true) [tupWhole, tupCut, cutA, cutB, cutC, Builtin.Slice.sliceAdjust, Builtin.Slice.slicePlaces]; rfl))
theorem eqC (h0 : 0 ≤ d) (h1 : d < 4) : tupCut #[a, b, c, e].toList (some (d + 1)) none = cutC d [a, b, c, e] := cut4 (P := fun d => tupCut #[a, b, c, e].toList (some (d + 1)) none = cutC d [a, b, c, e]) h0 h1 (by first | rfl | (simp (decide := true) [tupWhole, tupCut, cutA, cutB, cutC, Builtin.Slice.sliceAdjust, Builtin.Slice.slicePlaces]; done) | (simp (decide := true) [tupWhole, tupCut, cutA, cutB, cutC, Builtin.Slice.sliceAdjust, Builtin.Slice.slicePlaces]; rfl)) (by first | rfl | (simp (decide := true) [tupWhole, tupCut, cutA, cutB, cutC, Builtin.Slice.sliceAdjust, Builtin.Slice.slicePlaces]; done) | (simp (decide := true) [tupWhole, tupCut, cutA, cutB, cutC, Builtin.Slice.sliceAdjust, Builtin.Slice.slicePlaces]; rfl)) (by first | rfl | (simp (decide := true) [tupWhole, tupCut, cutA, cutB, cutC, Builtin.Slice.sliceAdjust, Builtin.Slice.slicePlaces]; done) | (simp (decide := true) [tupWhole, tupCut, cutA, cutB, cutC, Builtin.Slice.sliceAdjust, Builtin.Slice.slicePlaces]; rfl)) (by first | rfl | (simp (decide := true) [tupWhole, tupCut, cutA, cutB, cutC, Builtin.Slice.sliceAdjust, Builtin.Slice.slicePlaces]; done) | (simp (decide := true) [tupWhole, tupCut, cutA, cutB, cutC, Builtin.Slice.sliceAdjust, Builtin.Slice.slicePlaces]; rfl))
theorem lnA : (cutA d [a, b, c, e]).length ≤ 1000 := by unfold cutA; rw [List.length_take]; exact Nat.le_trans (Nat.min_le_right _ _) (Nat.le_of_ble_eq_true rfl)
theorem lnB : (cutB d [a, b, c, e]).length ≤ 1000 := by unfold cutB; rw [List.length_take]; exact Nat.le_trans (Nat.min_le_left _ _) (Nat.le_of_ble_eq_true rfl)
theorem lnC : (cutC d [a, b, c, e]).length ≤ 1000 := by unfold cutC; rw [List.length_drop]; exact Nat.le_trans (Nat.sub_le _ _) (Nat.le_of_ble_eq_true rfl)
end
section
variable {prog : Program} {w : World} {A : Around} {E : Value → Shared → Prop} {s : Shared} {h₀ : Heap} {L : Addr} {m : Str → Option Value} {news : List (Addr × Obj)}
/- the sum of two tuples, be one of them empty or not: the tuple stands in the ledger, old or new -/
theorem addT_any {t b : Addr} {its its2 zs : List Value} {n n2 : Nat} {as : List Addr} {ps : List (Addr × Obj)} {Q : Value → Shared → Prop} (F : Fr h₀ L s.heap m) (N : News h₀ L s.heap news) (mt : (t, ({ cls := .type "tuple", data := .seq its.toArray n } : Obj)) ∈ news) (mb : (b, ({ cls := .type "tuple", data := .seq its2.toArray n2 } : Obj)) ∈ news) (e : its ++ its2 = zs) (hz : its.length + its2.length ≤ 16384) (At : Aps t as) (Ab : Aps b as) (pm : ps.map (·.1) = as) (hs : ∀ p ∈ ps, p ∈ news)
    (h : ∀ D h' n', Fr h₀ L h' m → News h₀ L h' ((D, ({ cls := .type "tuple", data := .seq zs.toArray n' } : Obj)) :: news) → Aps D as → Q (.ref D) { s with heap := h' }) : wpAny (model prog w) A (binaryOp .Add (.ref t) (.ref b)) Q E s := by
  subst e pm
  refine add_tuples F N (N.isTup mt) (N.isTup mb) (fun q => ?_) (fun _ q => ?_) (fun _ _ h' F' N' => ?_) (by rw [sizeLine_eq]; lia)
  · subst q
    exact h b s.heap n2 F (fun p hp => by rcases List.mem_cons.mp hp with rfl | hp; exact N _ mb; exact N p hp) Ab
  · subst q
    rw [List.append_nil] at h
    exact h t s.heap n F (fun p hp => by rcases List.mem_cons.mp hp with rfl | hp; exact N _ mt; exact N p hp) At
  · exact h _ h' _ F' N' ⟨fun a ha => by
      obtain ⟨p, hp, rfl⟩ := List.mem_map.mp ha
      exact Nat.ne_of_lt (Heap.lt_size (N p (hs p hp)).1)⟩
theorem lnA4 {d : Int} {a b c e : Value} {ys : List Value} (h : ys.length ≤ 1000) : (cutA d [a, b, c, e]).length + ys.length ≤ 16384 := Nat.le_trans (Nat.add_le_add lnA h) (Nat.le_of_ble_eq_true rfl)
theorem lnB4 {d : Int} {a b c e a2 b2 c2 e2 : Value} {ys : List Value} (h : ys.length ≤ 1000) : (cutA d [a, b, c, e] ++ cutB d [a2, b2, c2, e2]).length + ys.length ≤ 16384 := by rw [List.length_append]; exact Nat.le_trans (Nat.add_le_add (Nat.add_le_add lnA lnB) h) (Nat.le_of_ble_eq_true rfl)
variable {M : Str → Option Value} {ap : List Addr} {led big : List (Addr × Obj)} {h' : Heap} {tk n : Nat} {q dd1 dd2 : Addr} {x1 x2 : Str} {r1 r2 d : Int} {t1 t2 t3 u1 u2 u3 : Tok} {b1 b2 : Array UInt8} {od1 od2 : Obj} {kvs1 kvs2 : List (Int × Value)} {ks1 ks2 : List Int}
/- the way's row, put together, is a row -/
theorem joinr_way (h0 : 0 ≤ d) (h1 : d < 4) (N : News h₀ L h' big) (F : Fr h₀ L h' (fun z => if z = Str.ofString "other" then some (.ref q) else M z))
    (mq : (q, ({ cls := .type "tuple", data := .seq (cutA d [.str x1 t1, .int r1 t2, .ref dd1, .bytes b1 t3] ++ cutB d [.str x2 u1, .int r2 u2, .ref dd2, .bytes b2 u3] ++ cutC d [.str x1 t1, .int r1 t2, .ref dd1, .bytes b1 t3]).toArray n } : Obj)) ∈ big) (md1 : (dd1, od1) ∈ big) (md2 : (dd2, od2) ∈ big) (ml : ∀ p ∈ led, p ∈ big)
    (c1 : x1 ∈ names4) (c2 : 0 ≤ r1 ∧ r1 < 65536) (c3 : od1.IsDictOf (PySem.intKind prog w) kvs1) (c4 : Told kvs1) (c5 : (dd1 == sysModules) = false) (c6 : KBw.bInts b1 = ks1) (c7 : ks1.length = 16)
    (e1 : x2 ∈ names4) (e2 : 0 ≤ r2 ∧ r2 < 65536) (e3 : od2.IsDictOf (PySem.intKind prog w) kvs2) (e4 : Told kvs2) (e5 : (dd2 == sysModules) = false) (e6 : KBw.bInts b2 = ks2) (e7 : ks2.length = 16) (c8 : Aps q ap) (c9 : Aps dd1 ap) (e9 : Aps dd2 ap) :
    JoinR prog w h₀ L M ap led s .next { s with heap := h', toks := tk } := by
  have hd : d = 0 ∨ d = 1 ∨ d = 2 ∨ d = 3 := by lia
  rcases hd with rfl | rfl | rfl | rfl
  · exact joinr_ N F mq md1 ml e1 c2 c3 c4 c5 c6 c7 c8 c9
  · exact joinr_ N F mq md1 ml c1 e2 c3 c4 c5 c6 c7 c8 c9
  · exact joinr_ N F mq md2 ml c1 c2 e3 e4 e5 c6 c7 c8 e9
  · exact joinr_ N F mq md1 ml c1 c2 c3 c4 c5 e6 e7 c8 c9
end
section
variable {prog : Program} {w : World} {A : Around} {E : Value → Shared → Prop} {s : Shared} {h₀ : Heap} {L d : Addr} {news : List (Addr × Obj)} {od : Obj} {ns : List Int} {kvs : List (Int × Value)}
theorem item_told {value slice : PySem.Expr} {k : Int} {t : Tok} {Q : Value → Shared → Prop} (N : News h₀ L s.heap news) (hp : (d, od) ∈ news) (hd : od.IsDictOf (intKind prog w) kvs) (hT : Told kvs) (hk : k ∈ ns) (hm : ∀ k, k ∈ ns ↔ k ∈ kvs.map (·.1)) (h : ∀ t' tk, Q (.int (lookI kvs k) t') { s with toks := tk })
    (hs : subscripted slice false (.ref d) (.int k t) = operate [.ref d, .int k t] (getItem (.ref d) (.int k t)) := by with_unfolding_all rfl) (hg : ∀ r, letTemporaryGo value (.ref d) r = pure () := by intro _; with_unfolding_all rfl) :
    wpAny (model prog w) A (subscriptTail value slice (.ref d) (.int k t)) Q E s := by
  obtain ⟨p, hpm, e⟩ := List.mem_map.mp ((hm k).mp hk)
  obtain ⟨_, y, u, ey, _⟩ := hT.2.2 p hpm
  obtain ⟨i, hi, he⟩ := List.mem_iff_getElem.mp hpm
  have hv : valueAt kvs k = some (.int y u) := by
    refine valueAt_of_get (nodup_of hd) (i := i) ?_
    rw [List.getElem?_eq_getElem hi, he, ← e, ← ey]
  have hl : lookI kvs k = y := by unfold lookI; rw [hv]
  exact kda_item N hp hd (intKind_is _ _ _ _) hv (hl ▸ h _ _) hs hg
theorem meth_values {pl : Sem Bool} {Q : Value × List Value → Shared → Prop} (N : News h₀ L s.heap news) (hp : (d, od) ∈ news) (hd : od.IsDictOf (intKind prog w) kvs) (h : Q (.builtin "dict.values", [.ref d]) s) : wpAny (model prog w) A (getMethod (.ref d) "values" pl) Q E s :=
  have hD := kda_dict N hp hd
  getMethod_builtin hD.typeIs PySem.F.plainAttrs_dict PySem.F.slot_dict_values PySem.F.type_dict_values hD.mapOf.noDict h
end
set_option maxHeartbeats 100000000 in
theorem c_regs (w : World) (src l : Addr) (o1 o2 : Obj) (hS : SrcObj l o1 o2) (hlt : @LT.lt Nat _ l src) : TellN w (.ref 397) [.ref src] 40 1500 [(src, (o1 : Obj)), (l, (o2 : Obj))] (fun v news' => ∃ new o1' o2', (v = .bool true ∧ new = []) ∧ SrcObj l o1' o2' ∧ news' = (src, o1') :: (l, o2') :: new) := by
  unfold TellN
  intro mean mg mb dp un gd cn cs a ccd cl outer A₀ base h₀ L m s Q E B F X N T hk hd hu hret
  refine wpAny_call ?_
  k_dflt cell_enter
  k_steps
  all_goals (
    refine' finM (small := [(src, _), (l, _)]) hret ?H ?F' ?F ?N ?NG ?S ?R
    case H => k_asm
    case F' => k_asm
    case F => k_asm
    case N => k_asm
    case NG => k_asm
    case S => repeat' (first | exact List.forall_mem_nil _ | refine' List.forall_mem_cons.mpr ⟨?_, ?_⟩ | exact List.Mem.head _ | refine' List.Mem.tail _ ?_)
    case R => (exact ⟨_, _, _, ⟨rfl, rfl⟩, by assumption, rfl⟩))
theorem use_regs {w : World} {full : List (Addr × Obj)} (src l : Addr) (o1 o2 : Obj) (hS : SrcObj l o1 o2) (hlt : @LT.lt Nat _ l src) {r1 rest : List (Addr × Obj)} (P1 : Pick src o1 full r1) (P2 : Pick l o2 r1 rest) (hr1 : ∀ p ∈ rest, p.1 ≠ src) (hr2 : ∀ p ∈ rest, p.1 ≠ l) {mean : ExcName → Option Value} {mg mb : Str → Option Value} {dp un : Nat} {gd : Option (List Code)} {cn : Str} {cs : Scope} {a : Addr} {ccd : Value} {cl : List (Str × Addr)} {outer : List Env} {A₀ : Around} {base h₀ : Heap} {L : Addr} {m : Str → Option Value} {s0 : Heap} {s1 : Array GenState} {s2 : Drawn} {s3 : Nat} {s4 : OsState} {Q E : Value → Shared → Prop}
    (B : Below A₀ base outer h₀) (F : Fr h₀ L s0 m) (X : (Mine.hd.heap_39 w.params).In h₀) (N : News h₀ L s0 full) (T : Top topProg loose mean mg mb h₀) (hk : cs.kind = .function) (hd : dp + 40 < recursionLimit) (hu : un + 1500 < cLine)
    (h : let R := rest; (∀ p ∈ R, p.1 ≠ src) → (∀ p ∈ R, p.1 ≠ l) → ∀  (o1' o2' : Obj) (h' : Heap) (tk' : Nat), SrcObj l o1' o2' → Fr h₀ L h' m → News h₀ L h' ((src, o1') :: (l, o2') :: R) → Q (.bool true) (Shared.mk h' s1 s2 tk' s4)) :
    wpAny (model PySem.Challenge.pw_pc0377_01 w) (ktrTop dp un gd cn cs L a ccd cl outer) (call (.ref 397) [.ref src]) Q E (Shared.mk s0 s1 s2 s3 s4) := by
  refine TellN.draw P1 P2 hr1 hr2 (c_regs w src l o1 o2 hS hlt) B F X N T hk hd hu fun v h' tk' new o1' o2' hP hS' hA F' N' => ?_
  obtain ⟨rfl, rfl⟩ := hP
  exact h hr1 hr2  o1' o2' h' tk' hS'   F' N'
end
theorem lines_p44bdeep : True := by
  w_top off
  k_extra "S"
  k_extra "ld:pre"
  trivial
section
section
open PySem.SeqAt
open AutoSeq1 (wpAny_loadPart')
variable {prog : Program} {w : World} {A : Around} {E : Value → Shared → Prop} {l b : Addr} {items items2 : Array Value} {n n2 : Nat} {dd dd2 : Option Addr} {sl sl2 : Array (Option Value)}
/- these two are told equal, in this world -/
noncomputable def Same (prog : Program) (w : World) (A : Around) (s : Shared) (y x : Value) : Prop := ∀ (E : Value → Shared → Prop) (Q : Bool → Shared → Prop), Q true s → wpAny (model prog w) A (eqBool y x) Q E s
theorem Same.of {s : Shared} {y x : Value} {r : Bool} (h : EqAt A s y x r) (e : r = true) : Same prog w A s y x := fun E Q hq => h prog w E Q (e ▸ hq)
theorem tup_eq_in {s : Shared} {Q : Value → Shared → Prop} (hl : s.heap.get? l = some { cls := .type "tuple", dict := dd, data := .seq items n, slots := sl }) (hb : s.heap.get? b = some { cls := .type "tuple", dict := dd2, data := .seq items2 n2, slots := sl2 })
    (hsz : items.size = items2.size) (he : ∀ p ∈ items.toList.zip items2.toList, Same prog w A s p.1 p.2) (h : Q (.bool true) s) :
    wpAny (model prog w) A (Builtin.«tuple.__eq__» ⟨[.ref l, .ref b], []⟩) (fun fin s' => ∃ v, fin = .done (.ret v) ∧ Q v s') E s := by
  obtain ⟨hp, g, d, tk, os⟩ := s
  have f2 := AutoSeq1.sub_tuple_tuple
  repeat (first | with_reducible apply wpAny_loadPart' hl | with_reducible apply wpAny_loadPart' hb | with_reducible apply wpAny_forIn_list _ (fun rest b s' => b.1 = none ∧ s' = ⟨hp, g, d, tk, os⟩ ∧ ∀ p ∈ rest, Same prog w A s' p.1 p.2) _ | walk_at "wpstep")
  case turn =>
    rintro p rest b s' ⟨hb', rfl, hz⟩
    refine wpAny_bind (hz p (.head _) _ _ ?_)
    repeat walk_at "wpstep"
    exact ⟨rfl, rfl, fun q hq => hz q (.tail _ hq)⟩
  case fin =>
    rintro ⟨b1, b2⟩ s' ⟨hb', rfl, hz⟩
    simp only at hb'
    subst hb'
    repeat walk_at "wpstep"
    exact ⟨_, rfl, by simpa [Builtin.Tuple.tupleCompareSizes, hsz] using h⟩
  case h => exact ⟨rfl, rfl, he⟩
theorem tup_ne_in {s : Shared} {Q : Value → Shared → Prop} (hl : s.heap.get? l = some { cls := .type "tuple", dict := dd, data := .seq items n, slots := sl }) (hb : s.heap.get? b = some { cls := .type "tuple", dict := dd2, data := .seq items2 n2, slots := sl2 })
    (hsz : items.size = items2.size) (he : ∀ p ∈ items.toList.zip items2.toList, Same prog w A s p.1 p.2) (h : Q (.bool false) s) :
    wpAny (model prog w) A (Builtin.«tuple.__ne__» ⟨[.ref l, .ref b], []⟩) (fun fin s' => ∃ v, fin = .done (.ret v) ∧ Q v s') E s := by
  obtain ⟨hp, g, d, tk, os⟩ := s
  have f2 := AutoSeq1.sub_tuple_tuple
  repeat (first | with_reducible apply wpAny_loadPart' hl | with_reducible apply wpAny_loadPart' hb | with_reducible apply wpAny_forIn_list _ (fun rest b s' => b.1 = none ∧ s' = ⟨hp, g, d, tk, os⟩ ∧ ∀ p ∈ rest, Same prog w A s' p.1 p.2) _ | walk_at "wpstep")
  case turn =>
    rintro p rest b s' ⟨hb', rfl, hz⟩
    refine wpAny_bind (hz p (.head _) _ _ ?_)
    repeat walk_at "wpstep"
    exact ⟨rfl, rfl, fun q hq => hz q (.tail _ hq)⟩
  case fin =>
    rintro ⟨b1, b2⟩ s' ⟨hb', rfl, hz⟩
    simp only at hb'
    subst hb'
    repeat walk_at "wpstep"
    exact ⟨_, rfl, by simpa [Builtin.Tuple.tupleCompareSizes, hsz] using h⟩
  case h => exact ⟨rfl, rfl, he⟩
theorem eq_tup_same {s : Shared} {Q : Value → Shared → Prop} (hl : s.heap.IsTuple l items) (hb : s.heap.IsTuple b items2) (hu : A.units < cLine) (hsz : items.size = items2.size) (he : ∀ p ∈ items.toList.zip items2.toList, Same prog w A.in1 s p.1 p.2) (h : Q (.bool true) s) :
    wpAny (model prog w) A (richCompare .Eq (.ref l) (.ref b)) Q E s := by
  obtain ⟨⟨c1, d1, t1, s1⟩, ho, hc, n, hd⟩ := hl
  obtain ⟨⟨c2, d2, t2, s2⟩, ho2, hc2, n2, hd2⟩ := hb
  simp only at hc hd hc2 hd2
  subst hc hd hc2 hd2
  exact wpAny_richCompare_same_room (op := .Eq) ⟨_, ho, rfl⟩ ⟨_, ho2, rfl⟩ PySem.F.slot_tuple_eq (wpAny_call_entry PySem.F.slot_tuple_eq ⟨_, ho, rfl⟩ PySem.F.entry_tuple_eq (tup_eq_in ho ho2 hsz he ⟨(fun x => nomatch x), h⟩) (PySem.F.args_tuple_eq_2 _ _)) hu
theorem ne_tup_same {s : Shared} {Q : Value → Shared → Prop} (hl : s.heap.IsTuple l items) (hb : s.heap.IsTuple b items2) (hu : A.units < cLine) (hsz : items.size = items2.size) (he : ∀ p ∈ items.toList.zip items2.toList, Same prog w A.in1 s p.1 p.2) (h : Q (.bool false) s) :
    wpAny (model prog w) A (compareOp .NotEq (.ref l) (.ref b)) Q E s := by
  obtain ⟨⟨c1, d1, t1, s1⟩, ho, hc, n, hd⟩ := hl
  obtain ⟨⟨c2, d2, t2, s2⟩, ho2, hc2, n2, hd2⟩ := hb
  simp only at hc hd hc2 hd2
  subst hc hd hc2 hd2
  exact wpAny_richCompare_same_room (op := .NotEq) ⟨_, ho, rfl⟩ ⟨_, ho2, rfl⟩ PySem.F.slot_tuple_ne (wpAny_call_entry PySem.F.slot_tuple_ne ⟨_, ho, rfl⟩ PySem.F.entry_tuple_ne (tup_ne_in ho ho2 hsz he ⟨(fun x => nomatch x), h⟩) (PySem.F.args_tuple_ne_2 _ _)) hu
theorem Same.refs {s : Shared} (h : ∀ (E Q : Value → Shared → Prop), Q (.bool true) s → wpAny (model prog w) A (richCompare .Eq (.ref l) (.ref b)) Q E s) : Same prog w A s (.ref l) (.ref b) := by
  by_cases e : l = b
  · subst e; exact Same.of (EqAt.same _) rfl
  · intro E Q hq
    unfold eqBool
    refine wpAny_holding ?_
    refine wpAny_ite_split (fun hab => absurd (by have := eq_of_beq hab; injection this) e) (fun _ => ?_)
    exact wpAny_bind (h E _ (wpAny_truthy_bool hq))
theorem Same.tup {s : Shared} (hl : s.heap.IsTuple l items) (hb : s.heap.IsTuple b items2) (hu : A.units < cLine) (hsz : items.size = items2.size) (he : ∀ p ∈ items.toList.zip items2.toList, Same prog w A.in1 s p.1 p.2) : Same prog w A s (.ref l) (.ref b) :=
  Same.refs fun _ _ hq => eq_tup_same hl hb hu hsz he hq
end
end
theorem lines_p45rows : True := by
  w_top off
  k_extra "S"
  k_extra "ld:pre"
  k_extra "ld:massign"
  k_extra "ld:bytes"
  k_extra "ld:be"
  k_extra "ld:bits"
  k_extra "ld:role"
  trivial
section
section
/- a row of a tail as it stands in the heap -/
structure RowE where
  (x d q f : Addr)
  (n : Nat)
  (t1 t2 : Tok)
  (τ : Nat → Tok)
  (D : RowD)
  (fl : Obj)
noncomputable abbrev RowE.od (w : World) (e : RowE) : Obj := dictOf (rowEs w e.D.inst e.q e.D.cost (4096 * e.D.own) (16 * e.D.port) e.D.hops (roleL.getD e.D.place.toNat Str.empty) e.f e.τ) 8
noncomputable abbrev RowE.oq (e : RowE) : Obj := tup2 (.int (regP e.D) e.t1) (.int e.D.mac e.t2) e.n
noncomputable def RowE.led (w : World) (e : RowE) : List (Addr × Obj) := [(e.x, instObj 296 e.d), (e.d, e.od w), (e.q, e.oq), (e.f, e.fl)]
structure RowE.Ok (w : World) (e : RowE) : Prop where
  ok : RowOk e.D
  fl : e.fl.IsDictOf (PySem.strKind PySem.Challenge.pw_pc0377_01 w) (flagsL e.D.f1 e.D.f2 e.D.f3 e.D.f4 e.D.f5)
  sm : (e.f == sysModules) = false
noncomputable def rowsLed (w : World) (Es : List RowE) : List (Addr × Obj) := Es.flatMap (RowE.led w)
theorem rowsLed_mem {w : World} {Es : List RowE} {e : RowE} (h : e ∈ Es) : ∀ p ∈ e.led w, p ∈ rowsLed w Es := fun p hp => List.mem_flatMap.mpr ⟨e, h, hp⟩
theorem rowsLed_x {w : World} {Es : List RowE} {e : RowE} (h : e ∈ Es) : (e.x, (instObj 296 e.d : Obj)) ∈ rowsLed w Es := rowsLed_mem h _ (.head _)
theorem rowsLed_d {w : World} {Es : List RowE} {e : RowE} (h : e ∈ Es) : (e.d, e.od w) ∈ rowsLed w Es := rowsLed_mem h _ (.tail _ (.head _))
theorem rowsLed_q {w : World} {Es : List RowE} {e : RowE} (h : e ∈ Es) : (e.q, e.oq) ∈ rowsLed w Es := rowsLed_mem h _ (.tail _ (.tail _ (.head _)))
theorem rowsLed_f {w : World} {Es : List RowE} {e : RowE} (h : e ∈ Es) : (e.f, e.fl) ∈ rowsLed w Es := rowsLed_mem h _ (.tail _ (.tail _ (.tail _ (.head _))))
noncomputable abbrev rowRefs (Es : List RowE) : List Value := Es.map fun e => .ref e.x
/- what told gives of a row -/
noncomputable abbrev told8 (e : RowE) (u1 u2 u3 u4 u5 u6 : Tok) : Array Value := #[.int e.D.inst u1, .ref e.q, .int e.D.cost u2, .int (4096 * e.D.own) u3, .int (16 * e.D.port) u4, .int e.D.hops u5, .str (roleL.getD e.D.place.toNat Str.empty) u6, .ref e.f]
noncomputable abbrev tup8 (e : RowE) (u1 u2 u3 u4 u5 u6 : Tok) (n : Nat) : Obj := { cls := .type "tuple", data := .seq (told8 e u1 u2 u3 u4 u5 u6) n }
section
open PySem.SeqAt
variable {w : World} {A : Around} {s : Shared} {h₀ : Heap} {L : Addr} {news : List (Addr × Obj)}
theorem same_flags {a b : Addr} {oa ob : Obj} {f1 f2 f3 f4 f5 : Bool} (N : News h₀ L s.heap news) (pa : (a, oa) ∈ news) (pb : (b, ob) ∈ news) (da : oa.IsDictOf (PySem.strKind PySem.Challenge.pw_pc0377_01 w) (flagsL f1 f2 f3 f4 f5)) (db : ob.IsDictOf (PySem.strKind PySem.Challenge.pw_pc0377_01 w) (flagsL f1 f2 f3 f4 f5)) (la : (a == sysModules) = false) (lb : (b == sysModules) = false) (hu : A.units < cLine) :
    Same PySem.Challenge.pw_pc0377_01 w A s (.ref a) (.ref b) := Same.refs fun E Q hq => by
  refine keq_pairs (r := true) N pa pb da db la lb rfl hu ?_ hq
  have e : ∀ f : Bool, (f == f) = true := fun f => by cases f <;> rfl
  have key : KeqHits A.in1 s (flagsL f1 f2 f3 f4 f5) (flagsL f1 f2 f3 f4 f5) (((f1 == f1)) && ((f2 == f2) && ((f3 == f3) && ((f4 == f4) && ((f5 == f5) && true))))) :=
    .hit (y := .bool f1) (by rfl) (EqAt.bool_bool _ _) (.hit (y := .bool f2) (by rfl) (EqAt.bool_bool _ _) (.hit (y := .bool f3) (by rfl) (EqAt.bool_bool _ _) (.hit (y := .bool f4) (by rfl) (EqAt.bool_bool _ _) (.hit (y := .bool f5) (by rfl) (EqAt.bool_bool _ _) .nil))))
  simp only [e, Bool.and_true] at key
  exact key
theorem same_int {i : Int} {t u : Tok} : Same PySem.Challenge.pw_pc0377_01 w A s (.int i t) (.int i u) := Same.of (EqAt.int_int _ _ _ _) (by simp)
theorem same_str {x : Str} {t u : Tok} : Same PySem.Challenge.pw_pc0377_01 w A s (.str x t) (.str x u) := Same.of (EqAt.str_str _ _ _ _) (by simp)
theorem same_tup2 {a b : Addr} {i j : Int} {t1 t2 u1 u2 : Tok} {n k : Nat} (N : News h₀ L s.heap news) (pa : (a, tup2 (.int i t1) (.int j t2) n) ∈ news) (pb : (b, tup2 (.int i u1) (.int j u2) k) ∈ news) (hu : A.units < cLine) : Same PySem.Challenge.pw_pc0377_01 w A s (.ref a) (.ref b) :=
  Same.tup (items := #[.int i t1, .int j t2]) (items2 := #[.int i u1, .int j u2]) ⟨_, N.get pa, rfl, _, rfl⟩ ⟨_, N.get pb, rfl, _, rfl⟩ hu rfl fun p hp => by
    rcases List.mem_cons.mp hp with rfl | hp
    · exact same_int
    rcases List.mem_cons.mp hp with rfl | hp
    · exact same_int
    cases hp
/- two rows of the same data are told the same -/
theorem same_told {a b : Addr} {e e' : RowE} {u1 u2 u3 u4 u5 u6 v1 v2 v3 v4 v5 v6 : Tok} {n k : Nat} (N : News h₀ L s.heap news) (pa : (a, tup8 e u1 u2 u3 u4 u5 u6 n) ∈ news) (pb : (b, tup8 e' v1 v2 v3 v4 v5 v6 k) ∈ news) (he : ∀ p ∈ e.led w, p ∈ news) (he' : ∀ p ∈ e'.led w, p ∈ news) (ok : e.Ok w) (ok' : e'.Ok w) (eD : e.D = e'.D) (hu : A.in1.units < cLine) (hu' : A.units < cLine) :
    Same PySem.Challenge.pw_pc0377_01 w A s (.ref a) (.ref b) :=
  Same.tup (items := told8 e u1 u2 u3 u4 u5 u6) (items2 := told8 e' v1 v2 v3 v4 v5 v6) ⟨_, N.get pa, rfl, _, rfl⟩ ⟨_, N.get pb, rfl, _, rfl⟩ hu' rfl fun p hp => by
    have q1 := he _ (.tail _ (.tail _ (.head _)))
    have q2 := he' _ (.tail _ (.tail _ (.head _)))
    have f1 := he _ (.tail _ (.tail _ (.tail _ (.head _))))
    have f2 := he' _ (.tail _ (.tail _ (.tail _ (.head _))))
    have d1 := ok.fl
    have d2 := ok'.fl
    have o := ok.sm
    have o' := ok'.sm
    obtain ⟨x, d, q, f, n, t1, t2, τ, D, fl⟩ := e
    obtain ⟨x', d', q', f', n', t1', t2', τ', D', fl'⟩ := e'
    dsimp only at *
    subst eD
    rcases List.mem_cons.mp hp with rfl | hp
    · exact same_int
    rcases List.mem_cons.mp hp with rfl | hp
    · exact same_tup2 N q1 q2 hu
    rcases List.mem_cons.mp hp with rfl | hp
    · exact same_int
    rcases List.mem_cons.mp hp with rfl | hp
    · exact same_int
    rcases List.mem_cons.mp hp with rfl | hp
    · exact same_int
    rcases List.mem_cons.mp hp with rfl | hp
    · exact same_int
    rcases List.mem_cons.mp hp with rfl | hp
    · exact same_str
    rcases List.mem_cons.mp hp with rfl | hp
    · exact same_flags N f1 f2 d1 d2 o o' hu
    cases hp
end
end
end
theorem lines_p45btold8 : True := by
  w_top off
  k_extra "S"
  k_extra "ld:pre"
  k_extra "ld:massign"
  k_extra "ld:bytes"
  k_extra "ld:be"
  k_extra "ld:bits"
  k_extra "ld:item"
  k_extra "ld:role"
  trivial
section
inductive Ret_told8 (D : RowD) (x d q f : Addr) (v : Value) (new : List (Addr × Obj)) : Prop
  | mk : ∀ (z : Addr) (u1 u2 u3 u4 u5 u6 : Tok) (n : Nat), (v = .ref z) → (new = [(z, ({ cls := .type "tuple", data := .seq #[.int D.inst u1, .ref q, .int D.cost u2, .int (4096 * D.own) u3, .int (16 * D.port) u4, .int D.hops u5, .str (roleL.getD D.place.toNat Str.empty) u6, .ref f] n } : Obj))]) → (Aps z ([] ++ [x, d])) → Ret_told8 D x d q f v new
set_option maxHeartbeats 8000000 in
theorem c_told8 (w : World) (D : RowD) (x d q f : Addr) (τ : Nat → Tok) : TellN w (.ref 293) [.ref x] 20 300 [(x, (instObj 296 d : Obj)), (d, (dictOf (rowEs w D.inst q D.cost (4096 * D.own) (16 * D.port) D.hops (roleL.getD D.place.toNat Str.empty) f τ) 8 : Obj))] (fun v news' => ∃ new, Ret_told8 D x d q f v new ∧ news' = new ++ [(x, (instObj 296 d : Obj)), (d, (dictOf (rowEs w D.inst q D.cost (4096 * D.own) (16 * D.port) D.hops (roleL.getD D.place.toNat Str.empty) f τ) 8 : Obj))]) := by
  unfold TellN
  intro mean mg mb dp un gd cn cs a ccd cl outer A₀ base h₀ L m s Q E B F X N T hk hd hu hret
  refine letN1 N ?_
  clear N
  intro oB1 N
  refine wpAny_call ?_
  k_dflt cell_enter
  k_steps
  all_goals (
    refine' finM (small := [(_, _), (x, _), (d, _)]) hret ?H ?F' ?F ?N ?NG ?S ?R
    case H => k_asm
    case F' => k_asm
    case F => k_asm
    case N => k_asm
    case NG => k_asm
    case S => repeat' (first | exact List.forall_mem_nil _ | refine' subc ?_ ?_ | (with_reducible first | exact mm0 | exact mm1 | exact mm2 | exact mm3 | exact mm4 | exact mm5 | exact mm6 | exact mm7 | exact mm8 | exact mm9 | exact mm10 | exact mm11) | exact List.Mem.head _ | refine' List.Mem.tail _ ?_)
    case R => (exact ⟨_, ⟨_, _, _, _, _, _, _, _, rfl, rfl, (Aps.c (by k_ne) (Aps.c (by k_ne) Aps.n))⟩, rfl⟩))
theorem use_told8 {w : World} {full : List (Addr × Obj)} (D : RowD) (x d q f : Addr) (τ : Nat → Tok) (hp : ∀ p ∈ ([(x, (instObj 296 d : Obj)), (d, (dictOf (rowEs w D.inst q D.cost (4096 * D.own) (16 * D.port) D.hops (roleL.getD D.place.toNat Str.empty) f τ) 8 : Obj))] : List (Addr × Obj)), p ∈ full) {mean : ExcName → Option Value} {mg mb : Str → Option Value} {dp un : Nat} {gd : Option (List Code)} {cn : Str} {cs : Scope} {a : Addr} {ccd : Value} {cl : List (Str × Addr)} {outer : List Env} {A₀ : Around} {base h₀ : Heap} {L : Addr} {m : Str → Option Value} {s0 : Heap} {s1 : Array GenState} {s2 : Drawn} {s3 : Nat} {s4 : OsState} {Q E : Value → Shared → Prop}
    (B : Below A₀ base outer h₀) (F : Fr h₀ L s0 m) (X : (Mine.hd.heap_39 w.params).In h₀) (N : News h₀ L s0 full) (T : Top topProg loose mean mg mb h₀) (hk : cs.kind = .function) (hd : dp + 20 < recursionLimit) (hu : un + 300 < cLine)
    (h : ∀ (z : Addr) (u1 u2 u3 u4 u5 u6 : Tok) (n : Nat)  (h' : Heap) (tk' : Nat), Aps z ([] ++ full.map (·.1)) → let ob0 : Obj := { cls := .type "tuple", data := .seq #[.int D.inst u1, .ref q, .int D.cost u2, .int (4096 * D.own) u3, .int (16 * D.port) u4, .int D.hops u5, .str (roleL.getD D.place.toNat Str.empty) u6, .ref f] n }; Fr h₀ L h' m → News h₀ L h' ((z, ob0) :: full) → Q (.ref z) (Shared.mk h' s1 s2 tk' s4)) :
    wpAny (model PySem.Challenge.pw_pc0377_01 w) (ktrTop dp un gd cn cs L a ccd cl outer) (call (.ref 293) [.ref x]) Q E (Shared.mk s0 s1 s2 s3 s4) := by
  refine (c_told8 w D x d q f τ).read hp B F X N T hk hd hu fun v h' tk' new hP hA F' N' => ?_
  obtain ⟨z, u1, u2, u3, u4, u5, u6, n, rfl, rfl, g0⟩ := hP
  exact h z u1 u2 u3 u4 u5 u6 n  h' tk'  (g0.join (part := [(x, (instObj 296 d : Obj)), (d, (dictOf (rowEs w D.inst q D.cost (4096 * D.own) (16 * D.port) D.hops (roleL.getD D.place.toNat Str.empty) f τ) 8 : Obj))]) rfl (hA _ (.head _)))  F' N'
end
theorem lines_p45cvector : True := by
  w_top off
  k_extra "S"
  k_extra "ld:pre"
  k_extra "ld:massign"
  k_extra "ld:bytes"
  k_extra "ld:be"
  k_extra "ld:bits"
  k_extra "ld:item"
  k_extra "ld:role"
  trivial
section
inductive Ret_vector (D : RowD) (x d q : Addr) (mac num : Int) (v : Value) (new : List (Addr × Obj)) : Prop
  | mk : ∀ (z br pp : Addr) (u1 u2 u3 u4 u5 : Tok) (n n2 n3 : Nat), (v = .ref z) → (new = [(z, ({ cls := .type "tuple", data := .seq #[.ref q, .int D.cost u1, .ref br, .ref pp] n } : Obj)), (pp, (tup2 (.int (16 * D.port) u4) (.int num u5) n3 : Obj)), (br, (tup2 (.int (4096 * D.own + D.inst) u2) (.int mac u3) n2 : Obj))]) → (Aps z ([pp, br] ++ [x, d])) → (Aps pp ([br] ++ [x, d])) → (Aps br ([] ++ [x, d])) → Ret_vector D x d q mac num v new
set_option maxHeartbeats 8000000 in
theorem c_vector (w : World) (D : RowD) (x d q f : Addr) (τ : Nat → Tok) (mac num : Int) (tm tn : Tok) : TellN w (.ref 286) [.ref x, .int mac tm, .int num tn] 20 300 [(x, (instObj 296 d : Obj)), (d, (dictOf (rowEs w D.inst q D.cost (4096 * D.own) (16 * D.port) D.hops (roleL.getD D.place.toNat Str.empty) f τ) 8 : Obj))] (fun v news' => ∃ new, Ret_vector D x d q mac num v new ∧ news' = new ++ [(x, (instObj 296 d : Obj)), (d, (dictOf (rowEs w D.inst q D.cost (4096 * D.own) (16 * D.port) D.hops (roleL.getD D.place.toNat Str.empty) f τ) 8 : Obj))]) := by
  unfold TellN
  intro mean mg mb dp un gd cn cs a ccd cl outer A₀ base h₀ L m s Q E B F X N T hk hd hu hret
  refine letN1 N ?_
  clear N
  intro oB1 N
  refine wpAny_call ?_
  k_dflt cell_enter
  k_steps
  all_goals (
    refine' finM (small := [(_, { cls := _, data := .seq #[_, _, _, _] _ }), (_, tup2 (.int (16 * _) _) _ _), (_, tup2 (.int (_ + _) _) _ _), (x, _), (d, _)]) hret ?H ?F' ?F ?N ?NG ?S ?R
    case H => k_asm
    case F' => k_asm
    case F => k_asm
    case N => k_asm
    case NG => k_asm
    case S => repeat' (first | exact List.forall_mem_nil _ | refine' subc ?_ ?_ | (with_reducible first | exact mm0 | exact mm1 | exact mm2 | exact mm3 | exact mm4 | exact mm5 | exact mm6 | exact mm7 | exact mm8 | exact mm9 | exact mm10 | exact mm11) | exact List.Mem.head _ | refine' List.Mem.tail _ ?_)
    case R => (exact ⟨_, ⟨_, _, _, _, _, _, _, _, _, _, _, rfl, rfl, (Aps.c (by k_ne) (Aps.c (by k_ne) (Aps.c (by k_ne) (Aps.c (by k_ne) Aps.n)))), (Aps.c (by k_ne) (Aps.c (by k_ne) (Aps.c (by k_ne) Aps.n))), (Aps.c (by k_ne) (Aps.c (by k_ne) Aps.n))⟩, rfl⟩))
theorem use_vector {w : World} {full : List (Addr × Obj)} (D : RowD) (x d q f : Addr) (τ : Nat → Tok) (mac num : Int) (tm tn : Tok) (hp : ∀ p ∈ ([(x, (instObj 296 d : Obj)), (d, (dictOf (rowEs w D.inst q D.cost (4096 * D.own) (16 * D.port) D.hops (roleL.getD D.place.toNat Str.empty) f τ) 8 : Obj))] : List (Addr × Obj)), p ∈ full) {mean : ExcName → Option Value} {mg mb : Str → Option Value} {dp un : Nat} {gd : Option (List Code)} {cn : Str} {cs : Scope} {a : Addr} {ccd : Value} {cl : List (Str × Addr)} {outer : List Env} {A₀ : Around} {base h₀ : Heap} {L : Addr} {m : Str → Option Value} {s0 : Heap} {s1 : Array GenState} {s2 : Drawn} {s3 : Nat} {s4 : OsState} {Q E : Value → Shared → Prop}
    (B : Below A₀ base outer h₀) (F : Fr h₀ L s0 m) (X : (Mine.hd.heap_39 w.params).In h₀) (N : News h₀ L s0 full) (T : Top topProg loose mean mg mb h₀) (hk : cs.kind = .function) (hd : dp + 20 < recursionLimit) (hu : un + 300 < cLine)
    (h : ∀ (z br pp : Addr) (u1 u2 u3 u4 u5 : Tok) (n n2 n3 : Nat)  (h' : Heap) (tk' : Nat), Aps z ([pp, br] ++ full.map (·.1)) → Aps pp ([br] ++ full.map (·.1)) → Aps br ([] ++ full.map (·.1)) → let ob0 : Obj := { cls := .type "tuple", data := .seq #[.ref q, .int D.cost u1, .ref br, .ref pp] n }; let ob1 : Obj := tup2 (.int (16 * D.port) u4) (.int num u5) n3; let ob2 : Obj := tup2 (.int (4096 * D.own + D.inst) u2) (.int mac u3) n2; Fr h₀ L h' m → News h₀ L h' ((z, ob0) :: (pp, ob1) :: (br, ob2) :: full) → Q (.ref z) (Shared.mk h' s1 s2 tk' s4)) :
    wpAny (model PySem.Challenge.pw_pc0377_01 w) (ktrTop dp un gd cn cs L a ccd cl outer) (call (.ref 286) [.ref x, .int mac tm, .int num tn]) Q E (Shared.mk s0 s1 s2 s3 s4) := by
  refine (c_vector w D x d q f τ mac num tm tn).read hp B F X N T hk hd hu fun v h' tk' new hP hA F' N' => ?_
  obtain ⟨z, br, pp, u1, u2, u3, u4, u5, n, n2, n3, rfl, rfl, g0, g1, g2⟩ := hP
  exact h z br pp u1 u2 u3 u4 u5 n n2 n3  h' tk'  (g0.join (part := [(x, (instObj 296 d : Obj)), (d, (dictOf (rowEs w D.inst q D.cost (4096 * D.own) (16 * D.port) D.hops (roleL.getD D.place.toNat Str.empty) f τ) 8 : Obj))]) rfl (hA _ (.head _))) (g1.join (part := [(x, (instObj 296 d : Obj)), (d, (dictOf (rowEs w D.inst q D.cost (4096 * D.own) (16 * D.port) D.hops (roleL.getD D.place.toNat Str.empty) f τ) 8 : Obj))]) rfl (hA _ (.tail _ (.head _)))) (g2.join (part := [(x, (instObj 296 d : Obj)), (d, (dictOf (rowEs w D.inst q D.cost (4096 * D.own) (16 * D.port) D.hops (roleL.getD D.place.toNat Str.empty) f τ) 8 : Obj))]) rfl (hA _ (.tail _ (.tail _ (.head _)))))  F' N'
end
theorem lines_p46toldt : True := by
  w_top off
  k_extra "S"
  k_extra "ld:pre"
  k_extra "ld:massign"
  k_extra "ld:bytes"
  k_extra "ld:be"
  k_extra "ld:bits"
  k_extra "ld:item"
  k_extra "ld:role"
  k_extra "ld:told8"
  k_extra "ld:o_toldt"
  trivial
section
/- a row's told tuple as it stands in the heap -/
structure ToldE where
  (z : Addr)
  (e : RowE)
  (u1 u2 u3 u4 u5 u6 : Tok)
  (n : Nat)
noncomputable def ToldE.ob (t : ToldE) : Obj := tup8 t.e t.u1 t.u2 t.u3 t.u4 t.u5 t.u6 t.n
noncomputable def toldLed (Zs : List ToldE) : List (Addr × Obj) := Zs.map fun t => (t.z, t.ob)
noncomputable abbrev toldRefs (Zs : List ToldE) : List Value := Zs.map fun t => .ref t.z
noncomputable abbrev tailEs (w : World) (b : Array UInt8) (cost : Int) (br : Addr) (hops : Int) (rl : Addr) (τ : Nat → Tok) : List DictEntry :=
  [ent w "region" (τ 0) (.bytes b (τ 1)), ent w "cost" (τ 2) (.int cost (τ 3)), ent w "bridge" (τ 4) (.ref br), ent w "hops" (τ 5) (.int hops (τ 6)), ent w "rows" (τ 7) (.ref rl)]
theorem rowRefs_at {Es : List RowE} {i : Nat} {v : Value} (h : (rowRefs Es).toArray[i]? = some v) : ∃ e, Es[i]? = some e ∧ e ∈ Es ∧ v = .ref e.x := by
  rw [List.getElem?_toArray, List.getElem?_map] at h
  obtain ⟨e, he, rfl⟩ := Option.map_eq_some_iff.mp h
  exact ⟨e, he, List.mem_of_getElem? he, rfl⟩
inductive JT (Es : List RowE) (C D I : Addr) (rest : List (Addr × Obj)) (i : Nat) (vs : List Value) (T : List (Addr × Obj)) : Prop
  | mk : ∀ Zs : List ToldE, (vs = toldRefs Zs) → (Zs.map (·.e) = Es.take i) → (T = rest ++ toldLed Zs) → (∀ t ∈ Zs, Aps t.z (C :: D :: I :: rest.map (·.1))) → JT Es C D I rest i vs T
section
variable {Es : List RowE} {C D I : Addr} {rest T : List (Addr × Obj)} {i : Nat} {vs : List Value} {h₀ : Heap} {L : Addr}
theorem JT.nil : JT Es C D I rest 0 [] rest := ⟨[], rfl, by simp, by simp [toldLed], fun _ h => nomatch h⟩
theorem JT.ok {a : Addr} {o : Obj} (j : JT Es C D I rest i vs T) (hm : (a, o) ∈ rest) (b1 : ∀ p ∈ rest, p.1 ≠ C) (b2 : ∀ p ∈ rest, p.1 ≠ D) (b3 : ∀ p ∈ rest, p.1 ≠ I) : (∀ h, News h₀ L h T → SrcIn [(a, o)] h) ∧ (∀ p ∈ T, p.1 ≠ C) ∧ (∀ p ∈ T, p.1 ≠ D) ∧ (∀ p ∈ T, p.1 ≠ I) := by
  obtain ⟨Zs, _, _, rfl, hz⟩ := j
  have key : ∀ q, (∀ p ∈ rest, p.1 ≠ q) → (∀ t ∈ Zs, t.z ≠ q) → ∀ p ∈ rest ++ toldLed Zs, p.1 ≠ q := fun q k1 k2 p hp => by
    rcases List.mem_append.mp hp with hp | hp
    · exact k1 p hp
    · obtain ⟨t, ht, rfl⟩ := List.mem_map.mp hp
      exact k2 t ht
  exact ⟨fun h N => srcIn_news N (List.mem_append_left _ hm), key C b1 fun t ht => Ne.symm ((hz t ht).ne (.head _)), key D b2 fun t ht => Ne.symm ((hz t ht).ne (.tail _ (.head _))), key I b3 fun t ht => Ne.symm ((hz t ht).ne (.tail _ (.tail _ (.head _))))⟩
theorem JT.mem (j : JT Es C D I rest i vs T) : ∀ p ∈ rest, p ∈ T := by
  obtain ⟨Zs, _, _, rfl, hz⟩ := j
  exact fun p hp => List.mem_append_left _ hp
theorem JT.step {t : ToldE} (j : JT Es C D I rest i vs T) (he : Es[i]? = some t.e) (hz : Aps t.z (C :: D :: I :: T.map (·.1))) : JT Es C D I rest (i + 1) (vs ++ [.ref t.z]) (T ++ [(t.z, t.ob)]) := by
  obtain ⟨Zs, rfl, h1, rfl, h3⟩ := j
  refine ⟨Zs ++ [t], by simp [toldRefs], ?_, by simp [toldLed], fun t' ht => ?_⟩
  · rw [List.take_add_one, List.map_append, h1, he]; rfl
  · rcases List.mem_append.mp ht with ht | ht
    · exact h3 t' ht
    · rw [List.mem_singleton.mp ht]
      refine ⟨fun a ha => hz.all a ?_⟩
      rcases List.mem_cons.mp ha with rfl | ha
      · exact .head _
      rcases List.mem_cons.mp ha with rfl | ha
      · exact .tail _ (.head _)
      rcases List.mem_cons.mp ha with rfl | ha
      · exact .tail _ (.tail _ (.head _))
      · exact .tail _ (.tail _ (.tail _ (by rw [List.map_append]; exact List.mem_append_left _ ha)))
end
theorem swap4 {a c d i : Addr × Obj} {T : List (Addr × Obj)} : ∀ p ∈ c :: d :: i :: (T ++ [a]), p ∈ a :: c :: d :: i :: T := fun p hp => by
  simp only [List.mem_cons, List.mem_append, List.mem_singleton, List.not_mem_nil, or_false] at hp ⊢
  rcases hp with h | h | h | h | h <;> simp [h]
theorem perm_told {z zt c t d r : Addr × Obj} {R Z : List (Addr × Obj)} : ∀ p ∈ z :: zt :: (Z ++ (t :: d :: r :: R)), p ∈ z :: zt :: c :: t :: d :: r :: (R ++ Z) := fun p hp => by
  simp only [List.mem_cons, List.mem_append] at hp ⊢
  rcases hp with h | h | h | h | h | h | h <;> simp [h]
inductive Ret_toldt (w : World) (t dt br rl : Addr) (b : Array UInt8) (cost hops : Int) (τ : Nat → Tok) (Es : List RowE) (k : Nat) (v : Value) (news' : List (Addr × Obj)) : Prop
  | mk : ∀ (z zt : Addr) (u1 u2 u3 : Tok) (n k2 : Nat) (Zs : List ToldE), (v = .ref z) → (Zs.map (·.e) = Es) → (news' = (z, ({ cls := .type "tuple", data := .seq #[.bytes b u1, .int cost u2, .ref br, .int hops u3, .ref zt] n } : Obj)) :: (zt, ({ cls := .type "tuple", data := .seq (toldRefs Zs).toArray k2 } : Obj)) :: (toldLed Zs ++ ((t, (instObj 322 dt : Obj)) :: (dt, (dictOf (tailEs w b cost br hops rl τ) 5 : Obj)) :: (rl, (listOf (rowRefs Es).toArray k : Obj)) :: rowsLed w Es))) → Ret_toldt w t dt br rl b cost hops τ Es k v news'
set_option maxHeartbeats 8000000 in
theorem c_toldt (w : World) (t dt br rl : Addr) (b : Array UInt8) (cost hops : Int) (τ : Nat → Tok) (Es : List RowE) (k : Nat) (hE : Es.length ≤ 3) : TellN w (.ref 319) [.ref t] 40 800 ((t, (instObj 322 dt : Obj)) :: (dt, (dictOf (tailEs w b cost br hops rl τ) 5 : Obj)) :: (rl, (listOf (rowRefs Es).toArray k : Obj)) :: rowsLed w Es) (Ret_toldt w t dt br rl b cost hops τ Es k) := by
  unfold TellN
  intro mean mg mb dp un gd cn cs a ccd cl outer A₀ base h₀ L m s Q E B F X N T hk hd hu hret
  refine letN1 N ?_
  clear N
  intro oB1 N
  refine wpAny_call ?_
  k_dflt cell_enter
  k_steps
  refine Dbg.mk ?_
  refine letML ?_
  intro sM
  refine' mind_L ?hh ?S ?hn ?F ?N ?hC ?a1 ?a2 ?a3 (JT Es _ _ _ _) JT.nil ?hJ ?turn ?fin
  case hh => exact rfl
  case S => assumption
  case hn => (rw [List.size_toArray, List.length_map]; lia)
  case F => k_asm
  case N => k_asm
  case hC => assumption
  case a1 => k_ne
  case a2 => k_ne
  case a3 => k_ne
  case hJ => exact fun i vs T j => j.ok (by k_mem) (by k_all) (by k_all) (by k_all)
  case turn =>
    intro i v vs T k9 h tk oC' oI' mC E' hi hv hj hl S1 F1 N1 hC1
    obtain ⟨e, he, hm, rfl⟩ := rowRefs_at hv
    have mT := hj.mem
    have mx := mT _ (.tail _ (.tail _ (.tail _ (rowsLed_x (w := w) hm))))
    have md := mT _ (.tail _ (.tail _ (.tail _ (rowsLed_d (w := w) hm))))
    obtain ⟨_, b1, b2, b3⟩ := hj.ok (h₀ := h₀) (L := L) (by k_mem) (by k_all) (by k_all) (by k_all)
    clear mT
    k_steps
    all_goals exact ⟨_, _, _, _, _, rfl, by k_asm, News.sub (by k_asm) swap4, by assumption, JT.step (t := ⟨_, e, _, _, _, _, _, _, _⟩) hj he (by assumption)⟩
  case fin =>
    intro h tk oC' mC vs k9 T F' N' hC hj hl
    obtain ⟨_, b1, b2, _⟩ := hj.ok (h₀ := h₀) (L := L) (by k_mem) (by k_all) (by k_all) (by k_all)
    obtain ⟨Zs, rfl, hz, rfl, hap⟩ := hj
    simp only [List.cons_append] at N'
    simp only [List.cons_append, List.forall_mem_cons] at b1 b2
    replace b1 := b1.2.2.2
    replace b2 := b2.2.2.2
    have hzE : Zs.map (·.e) = Es := by rw [hz, List.size_toArray, List.length_map, List.take_length]
    have hzl : Zs.length ≤ 3 := by rw [← hzE, List.length_map] at hE; exact hE
    clear hap hz
    (try dsimp only)
    k_steps
    all_goals (
      refine' finM (s := s) (small := (_, { cls := .type "tuple", data := .seq #[_, _, _, _, _] _ }) :: (_, { cls := .type "tuple", data := .seq (toldRefs Zs).toArray _ }) :: (toldLed Zs ++ ((t, (instObj 322 dt : Obj)) :: (dt, (dictOf (tailEs w b cost br hops rl τ) 5 : Obj)) :: (rl, (listOf (rowRefs Es).toArray k : Obj)) :: rowsLed w Es))) hret ?H ?F' ?F ?N ?NG ?S ?R
      case H => k_asm
      case F' => k_asm
      case F => k_asm
      case N => k_asm
      case NG => k_asm
      case S => exact perm_told
      case R => exact ⟨_, _, _, _, _, _, _, Zs, rfl, hzE, rfl⟩)
theorem use_toldt {w : World} {full : List (Addr × Obj)} (t dt br rl : Addr) (b : Array UInt8) (cost hops : Int) (τ : Nat → Tok) (Es : List RowE) (k : Nat) (hE : Es.length ≤ 3) (hp : ∀ p ∈ (t, (instObj 322 dt : Obj)) :: (dt, (dictOf (tailEs w b cost br hops rl τ) 5 : Obj)) :: (rl, (listOf (rowRefs Es).toArray k : Obj)) :: rowsLed w Es, p ∈ full) {mean : ExcName → Option Value} {mg mb : Str → Option Value} {dp un : Nat} {gd : Option (List Code)} {cn : Str} {cs : Scope} {a : Addr} {ccd : Value} {cl : List (Str × Addr)} {outer : List Env} {A₀ : Around} {base h₀ : Heap} {L : Addr} {m : Str → Option Value} {s0 : Heap} {s1 : Array GenState} {s2 : Drawn} {s3 : Nat} {s4 : OsState} {Q E : Value → Shared → Prop}
    (B : Below A₀ base outer h₀) (F : Fr h₀ L s0 m) (X : (Mine.hd.heap_39 w.params).In h₀) (N : News h₀ L s0 full) (T : Top topProg loose mean mg mb h₀) (hk : cs.kind = .function) (hd : dp + 40 < recursionLimit) (hu : un + 800 < cLine)
    (h : ∀ (z zt : Addr) (u1 u2 u3 : Tok) (n k2 : Nat) (Zs : List ToldE) (h' : Heap) (tk' : Nat), Zs.map (·.e) = Es → Fr h₀ L h' m → News h₀ L h' ((z, ({ cls := .type "tuple", data := .seq #[.bytes b u1, .int cost u2, .ref br, .int hops u3, .ref zt] n } : Obj)) :: (zt, ({ cls := .type "tuple", data := .seq (toldRefs Zs).toArray k2 } : Obj)) :: (full ++ toldLed Zs)) → Q (.ref z) (Shared.mk h' s1 s2 tk' s4)) :
    wpAny (model PySem.Challenge.pw_pc0377_01 w) (ktrTop dp un gd cn cs L a ccd cl outer) (call (.ref 319) [.ref t]) Q E (Shared.mk s0 s1 s2 s3 s4) := by
  have c := (c_toldt w t dt br rl b cost hops τ Es k hE).weaken (R' := fun v news' => ∃ new, (∃ (z zt : Addr) (u1 u2 u3 : Tok) (n k2 : Nat) (Zs : List ToldE), v = .ref z ∧ Zs.map (·.e) = Es ∧ new = (z, ({ cls := .type "tuple", data := .seq #[.bytes b u1, .int cost u2, .ref br, .int hops u3, .ref zt] n } : Obj)) :: (zt, ({ cls := .type "tuple", data := .seq (toldRefs Zs).toArray k2 } : Obj)) :: toldLed Zs) ∧ news' = new ++ ((t, (instObj 322 dt : Obj)) :: (dt, (dictOf (tailEs w b cost br hops rl τ) 5 : Obj)) :: (rl, (listOf (rowRefs Es).toArray k : Obj)) :: rowsLed w Es)) fun v ns ⟨z, zt, u1, u2, u3, n, k2, Zs, e1, e2, e3⟩ => ⟨_, ⟨z, zt, u1, u2, u3, n, k2, Zs, e1, e2, rfl⟩, e3⟩
  refine c.read hp B F X N T hk hd hu fun v h' tk' new hP hA F' N' => ?_
  obtain ⟨z, zt, u1, u2, u3, n, k2, Zs, rfl, e2, rfl⟩ := hP
  exact h z zt u1 u2 u3 n k2 Zs h' tk' e2 F' (News.sub N' fun p hp => by
    simp only [List.mem_cons, List.mem_append, List.cons_append] at hp ⊢
    rcases hp with h | h | h | h <;> simp [h])
end
theorem lines_p47bjoin : True := by
  w_top off
  k_extra "S"
  k_extra "ld:pre"
  k_extra "ld:massign"
  k_extra "ld:bytes"
  k_extra "ld:be"
  k_extra "ld:item"
  k_extra "ld:rdef"
  k_extra "ld:text"
  k_extra "ld:bstr"
  trivial
section
section
open AutoSeq1 (wpAny_loadPart')
open PySem.Builtin.Bytes
variable {prog : Program} {w : World} {A : Around} {E : Value → Shared → Prop} {a : Addr} {n : Nat} {t t1 t2 t3 : Tok} {b1 b2 b3 : Array UInt8}
theorem take_buf (id : String) (b : Array UInt8) (t : Tok) : takeBufferQuiet? id (.bytes b t) 0 = pure (some (b, none)) := by kernel_rfl
theorem wpAny_tb {M : Model} {s : Shared} {id : String} {x : Value} {b : Array UInt8} {t : Tok} (e : x = .bytes b t) {Q : Option (Array UInt8 × Option Value) → Shared → Prop} (h : Q (some (b, none)) s) : wpAny M A (takeBufferQuiet? id x 0) Q E s := by rw [e, take_buf]; exact wpAny_pure h
/- these values are these bytes -/
inductive BytesAre : List Value → List (Array UInt8) → Prop
  | nil : BytesAre [] []
  | cons {b : Array UInt8} {t : Tok} {vs : List Value} {bs : List (Array UInt8)} : BytesAre vs bs → BytesAre (.bytes b t :: vs) (b :: bs)
theorem BytesAre.length : ∀ {vs : List Value} {bs : List (Array UInt8)}, BytesAre vs bs → vs.length = bs.length
  | _, _, .nil => rfl
  | _, _, .cons h => congrArg (· + 1) h.length
theorem BytesAre.at : ∀ {vs : List Value} {bs : List (Array UInt8)}, BytesAre vs bs → ∀ i, i < vs.length → ∃ b t, vs[i]? = some (.bytes b t) ∧ bs[i]? = some b
  | _, _, .nil, _, h => absurd h (Nat.not_lt_zero _)
  | _, _, .cons (b := b) (t := t) h, 0, _ => ⟨b, t, rfl, rfl⟩
  | _, _, .cons h, i + 1, hi => by
    obtain ⟨b, t, h1, h2⟩ := h.at i (Nat.lt_of_succ_lt_succ hi)
    exact ⟨b, t, h1, h2⟩
theorem not_heap : ∀ {vs : List Value} {bs : List (Array UInt8)}, BytesAre vs bs → ∀ i, ((vs.take i).map fun v => (v, (none : Option Value))).any (fun x => x.1.onHeap) = false
  | _, _, .nil, i => by simp
  | _, _, .cons h, 0 => rfl
  | _, _, .cons h, i + 1 => by
    rw [List.take_succ_cons, mapc, List.any_cons, not_heap h i]; rfl
theorem wpAny_joinLetGo {M : Model} {s : Shared} {Q : Unit → Shared → Prop} {keep : List Value} (h : Q () s) : ∀ ts : List (Value × Option Value), (∀ p ∈ ts, p.2 = none) → wpAny M A (joinLetGo ts keep) Q E s
  | [], _ => by unfold joinLetGo; exact wpAny_pure h
  | (x, u) :: r, hn => by
    have e : u = none := hn _ (.head _)
    subst e
    unfold joinLetGo
    exact wpAny_bind (wpAny_letGo (wpAny_joinLetGo h r fun p hp => hn p (.tail _ hp)))
theorem sum_le_fold : ∀ (bs : List (Array UInt8)) (k : Nat), bs.foldl (fun x1 x2 => x1 + x2.size) k = k + (bs.map (·.size)).sum
  | [], k => by simp
  | b :: r, k => by rw [List.foldl_cons, sum_le_fold r, mapc, List.sum_cons]; lia
theorem joined_from : ∀ (bs : List (Array UInt8)) (i : Nat) (acc : Array UInt8), KBw.bInts ((bs.zipIdx i).foldl (fun out (p, i) => (if i > 0 then out ++ #[] else out) ++ p) acc) = KBw.bInts acc ++ (bs.map KBw.bInts).flatten
  | [], _, acc => by simp
  | b :: r, i, acc => by
    rw [List.zipIdx_cons, List.foldl_cons, joined_from r (i + 1), mapc, List.flatten_cons, ← List.append_assoc]
    congr 1
    have e : (if i > 0 then acc ++ #[] else acc) = acc := by split <;> simp
    show KBw.bInts ((if i > 0 then acc ++ #[] else acc) ++ b) = _
    rw [e]
    exact KBw.ints_app rfl rfl
theorem joined_ints (bs : List (Array UInt8)) : KBw.bInts (joined #[] bs) = (bs.map KBw.bInts).flatten := by
  unfold joined
  rw [joined_from]; rfl
theorem joined_size (bs : List (Array UInt8)) : (joined #[] bs).size = (bs.map (·.size)).sum := by
  rw [← KBw.ints_length, joined_ints, List.length_flatten, List.map_map]
  congr 1
  exact List.map_congr_left fun b _ => KBw.ints_length b
set_option maxHeartbeats 4000000 in
theorem join_more {s : Shared} {v1 v2 : Value} {r : List Value} {bs : List (Array UInt8)} {Q : Value → Shared → Prop} (hl : s.heap.get? a = some (listOf (v1 :: v2 :: r).toArray n)) (hb : BytesAre (v1 :: v2 :: r) bs) (hz : (bs.map (·.size)).sum ≤ sizeLine)
    (h : ∀ t' k, Q (.bytes (joined #[] bs) t') { s with toks := k }) :
    wpAny (model prog w) A (Builtin.«bytes.join» ⟨[.bytes #[] t, .ref a], []⟩) (fun fin s' => ∃ v, fin = .done (.ret v) ∧ Q v s') E s := by
  obtain ⟨hp, g, d, tk, os⟩ := s
  unfold Builtin.«bytes.join» Builtin.Bytes.joinM
  repeat (first | with_reducible apply wpAny_loadPart' hl | walk_at "wpstep")
  show wpAny _ _ (forIn (m := Sem) [:(v1 :: v2 :: r).toArray.size] ((#[] : Array (Array UInt8)), ([] : List (Value × Option Value))) _) _ _ _
  rw [Std.Legacy.Range.forIn_eq_forIn_range']
  refine wpAny_forIn_list _ (fun rest b s' => s' = ⟨hp, g, d, tk, os⟩ ∧ ∃ i, rest = List.range' i ((v1 :: v2 :: r).length - i) ∧ i ≤ (v1 :: v2 :: r).length ∧ b.1.toList = bs.take i ∧ b.2 = ((v1 :: v2 :: r).take i).map fun v => (v, (none : Option Value))) _ ?turn ?fin _ _ ?h0
  case turn =>
    rintro i0 rest ⟨parts, taken⟩ s' ⟨rfl, i, hr, him, hpa, hta⟩
    have hlt : i < (v1 :: v2 :: r).length := by
      rcases Nat.lt_or_ge i (v1 :: v2 :: r).length with h | h
      · exact h
      · rw [Nat.sub_eq_zero_of_le h] at hr; cases hr
    obtain ⟨k, hk⟩ : ∃ k, (v1 :: v2 :: r).length - i = k + 1 := ⟨(v1 :: v2 :: r).length - i - 1, (Nat.sub_add_cancel (Nat.sub_pos_of_lt (by assumption))).symm⟩
    rw [hk, List.range'_succ] at hr
    injection hr with e1 e2
    subst e1 e2
    obtain ⟨b, t1, h1, h2⟩ := hb.at i0 hlt
    have ex : (v1 :: v2 :: r).toArray.getD i0 Value.none = .bytes b t1 := by
      rw [Array.getD_eq_getD_getElem?, List.getElem?_toArray, h1]; rfl
    dsimp only at hpa hta
    have hno := not_heap hb i0
    rw [← hta] at hno
    repeat (first | with_reducible apply wpAny_loadPart' hl | walk_at "wpstep")
    have hcond : ¬ ((Kind.bytes == Kind.bytearray || (parts, taken).snd.any fun x => x.fst.onHeap) = true) := by
      show ¬ ((Kind.bytes == Kind.bytearray || taken.any fun x => x.fst.onHeap) = true)
      rw [hno]; decide
    rw [if_neg hcond]
    repeat (first | with_reducible apply wpAny_loadPart' hl | with_reducible apply wpAny_tb (x := (v1 :: v2 :: r).toArray.getD i0 Value.none) ex | walk_at "wpstep")
    refine ⟨rfl, i0 + 1, ?_, hlt, ?_, ?_⟩
    · congr 1; exact (congrArg Nat.pred hk).symm
    · show (parts.push b).toList = _
      rw [Array.toList_push, hpa, List.take_add_one, h2]; rfl
    · show taken ++ [((v1 :: v2 :: r).toArray.getD i0 Value.none, none)] = _
      rw [hta, ex, List.take_add_one, h1, List.map_append]; rfl
  case fin =>
    rintro ⟨parts, taken⟩ s' ⟨rfl, i, hr, him, hpa, hta⟩
    dsimp only at hpa hta
    have ei : i = (v1 :: v2 :: r).length := by
      rcases Nat.lt_or_ge i (v1 :: v2 :: r).length with h | h
      · obtain ⟨k, hk⟩ : ∃ k, (v1 :: v2 :: r).length - i = k + 1 := ⟨(v1 :: v2 :: r).length - i - 1, (Nat.sub_add_cancel (Nat.sub_pos_of_lt (by assumption))).symm⟩
        rw [hk] at hr; cases hr
      · lia
    rw [ei, hb.length, List.take_length] at hpa
    have hno : ∀ p ∈ taken, p.2 = none := fun p hp => by
      rw [hta] at hp
      obtain ⟨v, _, rfl⟩ := List.mem_map.mp hp
      rfl
    clear hta
    repeat (first | with_reducible apply wpAny_loadPart' hl | walk_at "wpstep")
    refine wpAny_ite_split (fun h => absurd h ?_) fun _ => ?_
    · rw [← Array.foldl_toList, hpa, sum_le_fold]; simp [tooLong]; lia
    repeat (first | with_reducible apply wpAny_loadPart' hl | walk_at "wpstep")
    dsimp only
    rw [hpa]
    refine wpAny_ite_split (fun h => absurd h ?_) fun _ => ?_
    · rw [joined_size]; lia
    repeat walk_at "wpstep"
    refine wpAny_joinLetGo ?_ taken hno
    repeat walk_at "wpstep"
    exact ⟨_, rfl, h _ _⟩
  case h0 =>
    exact ⟨rfl, 0, by simp [Std.Legacy.Range.size], Nat.zero_le _, by simp, by simp⟩
theorem join_one {s : Shared} {b : Array UInt8} {Q : Value → Shared → Prop} (hl : s.heap.get? a = some (listOf [.bytes b t1].toArray n)) (h : Q (.bytes b t1) s) :
    wpAny (model prog w) A (Builtin.«bytes.join» ⟨[.bytes #[] t, .ref a], []⟩) (fun fin s' => ∃ v, fin = .done (.ret v) ∧ Q v s') E s := by
  obtain ⟨hp, g, d, tk, os⟩ := s
  unfold Builtin.«bytes.join» Builtin.Bytes.joinM
  repeat (first | with_reducible apply wpAny_loadPart' hl | walk_at "wpstep")
  exact ⟨_, rfl, h⟩
theorem join_nil {s : Shared} {Q : Value → Shared → Prop} (hl : s.heap.get? a = some (listOf [].toArray n)) (h : ∀ t' k, Q (.bytes #[] t') { s with toks := k }) :
    wpAny (model prog w) A (Builtin.«bytes.join» ⟨[.bytes #[] t, .ref a], []⟩) (fun fin s' => ∃ v, fin = .done (.ret v) ∧ Q v s') E s := by
  obtain ⟨hp, g, d, tk, os⟩ := s
  unfold Builtin.«bytes.join» Builtin.Bytes.joinM
  repeat (first | with_reducible apply wpAny_loadPart' hl | walk_at "wpstep")
  show wpAny _ _ (forIn (m := Sem) [:([] : List Value).toArray.size] ((#[] : Array (Array UInt8)), ([] : List (Value × Option Value))) _) _ _ _
  rw [Std.Legacy.Range.forIn_eq_forIn_range']
  show wpAny _ _ (forIn (m := Sem) [] ((#[] : Array (Array UInt8)), ([] : List (Value × Option Value))) _) _ _ _
  rw [List.forIn_nil]
  repeat (first | with_reducible apply wpAny_loadPart' hl | walk_at "wpstep")
  exact ⟨_, rfl, h _ _⟩
end
namespace BF
theorem slot_join : Slot "bytes" "join" "bytes.join" :=
  .of (owner := "bytes") (n := "join") (by rw [typeLookup_type, builtinLookup_eq_fast]; kernel_rfl) (by decide +kernel) (by decide +kernel) (by decide +kernel)
    (by first | exact .inl (by decide +kernel) | exact .inr (by decide +kernel)) (by rw [isSubtype_type]; kernel_rfl)
theorem type_join : typeOf (.builtin "bytes.join") = pure (.type "method_descriptor") := by show builtinType _ = _; rw [builtinType_eq_fast]; kernel_rfl
theorem entry_join : entryFor table "bytes.join" = some Builtin.«bytes.join» := entryFor_of_tree (by kernel_rfl)
theorem args_join (a b : Value) : argsOk "bytes.join" ⟨[a, b], []⟩ := by
  unfold argsOk; rw [signature?_of (id := "bytes.join") (n := ['n', 'i', 'o', 'j']) (o := ['s', 'e', 't', 'y', 'b']) (by kernel_rfl) FB.owner_bytes]; kernel_rfl
end BF
/- these values are bytes of these ints -/
noncomputable def OctsAre (vs : List Value) (kss : List (List Int)) : Prop := ∃ bs, BytesAre vs bs ∧ bs.map KBw.bInts = kss
theorem OctsAre.nil : OctsAre [] [] := ⟨[], .nil, rfl⟩
theorem BytesAre.snoc {b : Array UInt8} {t : Tok} : ∀ {vs : List Value} {bs : List (Array UInt8)}, BytesAre vs bs → BytesAre (vs ++ [.bytes b t]) (bs ++ [b])
  | _, _, .nil => .cons .nil
  | _, _, .cons h => .cons h.snoc
theorem OctsAre.snoc {vs : List Value} {kss : List (List Int)} {b : Array UInt8} {t : Tok} {ks : List Int} (h : OctsAre vs kss) (hb : KBw.bInts b = ks) : OctsAre (vs ++ [.bytes b t]) (kss ++ [ks]) := by
  obtain ⟨bs, h1, h2⟩ := h
  exact ⟨bs ++ [b], h1.snoc, by rw [List.map_append, h2, ← hb]; rfl⟩
theorem OctsAre.length {vs : List Value} {kss : List (List Int)} (h : OctsAre vs kss) : vs.length = kss.length := by
  obtain ⟨bs, h1, h2⟩ := h
  rw [h1.length, ← h2, List.length_map]
theorem join_K {prog : Program} {w : World} {A : Around} {E Q : Value → Shared → Prop} {s : Shared} {a : Addr} {n : Nat} {t : Tok} {h₀ : Heap} {L : Addr} {news : List (Addr × Obj)} {vs : List Value} {kss : List (List Int)} (N : News h₀ L s.heap news) (hm : (a, listOf vs.toArray n) ∈ news) (ho : OctsAre vs kss) (hz : kss.flatten.length ≤ 1000)
    (h : ∀ b t' k, KBw.bInts b = kss.flatten → Q (.bytes b t') { s with toks := k }) : wpAny (model prog w) A (call (.builtin "bytes.join") [.bytes #[] t, .ref a]) Q E s := by
  obtain ⟨bs, h1, rfl⟩ := ho
  have hl := N.get hm
  have hz' : (bs.map (·.size)).sum ≤ sizeLine := by
    rw [List.length_flatten, List.map_map] at hz
    have e : bs.map (List.length ∘ KBw.bInts) = bs.map (·.size) := List.map_congr_left fun b _ => KBw.ints_length b
    rw [e] at hz
    rw [sizeLine_eq]; lia
  refine wpAny_call_entry BF.slot_join (PySem.W.typeIs_bytes s _ t) BF.entry_join ?_ (BF.args_join _ _)
  cases h1 with
  | nil => exact wpAny_mono (join_nil hl fun t' k => h _ t' k rfl) (fun f s' ⟨v, e, q⟩ => ⟨v, e, q⟩) fun _ _ e => e
  | cons h1 =>
    cases h1 with
    | nil => exact wpAny_mono (join_one hl (h _ _ s.toks (by simp))) (fun f s' ⟨v, e, q⟩ => ⟨v, e, q⟩) fun _ _ e => e
    | cons h1 => exact wpAny_mono (join_more hl (.cons (.cons h1)) hz' fun t' k => h _ t' k (joined_ints _)) (fun f s' ⟨v, e, q⟩ => ⟨v, e, q⟩) fun _ _ e => e
end
theorem lines_p48tocts : True := by
  w_top off
  k_extra "S"
  k_extra "ld:pre"
  k_extra "ld:massign"
  k_extra "ld:bytes"
  k_extra "ld:be"
  k_extra "ld:bits"
  k_extra "ld:item"
  k_extra "ld:num"
  k_extra "ld:bridge"
  k_extra "ld:role"
  k_extra "ld:sum"
  k_extra "ld:rocts"
  k_extra "ld:rdef"
  k_extra "ld:text"
  k_extra "ld:bstr"
  k_extra "ld:bjoin"
  k_extra "ld:o_tocts"
  trivial
section
theorem rowOcts_len (D : RowD) : (rowOcts D).length = 16 := rfl
theorem rows_len (Ds : List RowD) : (Ds.map rowOcts).flatten.length = 16 * Ds.length := by
  induction Ds with
  | nil => rfl
  | cons D r ih => rw [mapc, List.flatten_cons, List.length_append, ih, rowOcts_len, List.length_cons]; lia
noncomputable def JO (Es : List RowE) (rest : List (Addr × Obj)) (i : Nat) (vs : List Value) (T : List (Addr × Obj)) : Prop := T = rest ∧ OctsAre vs ((Es.take i).map fun e => rowOcts e.D)
theorem JO.step {Es : List RowE} {rest T : List (Addr × Obj)} {i : Nat} {vs : List Value} {e : RowE} {b : Array UInt8} {t : Tok} (j : JO Es rest i vs T) (he : Es[i]? = some e) (hb : KBw.bInts b = rowOcts e.D) : JO Es rest (i + 1) (vs ++ [.bytes b t]) T := by
  refine ⟨j.1, ?_⟩
  rw [List.take_add_one, he, List.map_append]
  exact j.2.snoc hb
set_option maxHeartbeats 8000000 in
theorem c_tocts (w : World) (t dt br rl : Addr) (b : Array UInt8) (reg : List Int) (hb : KBw.bInts b = reg) (hr : reg.length = 51) (cost hops bp mac : Int) (tb1 tb2 : Tok) (nb : Nat) (hc : 0 ≤ cost ∧ cost < 4294967296) (hh : 0 ≤ hops ∧ hops < 256) (hp : 0 ≤ bp ∧ bp < 65536) (hm : 0 ≤ mac ∧ mac < 281474976710656) (τ : Nat → Tok) (Es : List RowE) (k : Nat) (hE : Es.length ≤ 3) (hok : ∀ e ∈ Es, e.Ok w) : Tell w 342 [.ref t] 60 1200 ((t, (instObj 322 dt : Obj)) :: (dt, (dictOf (tailEs w b cost br hops rl τ) 5 : Obj)) :: (br, (tup2 (.int bp tb1) (.int mac tb2) nb : Obj)) :: (rl, (listOf (rowRefs Es).toArray k : Obj)) :: rowsLed w Es) (RetV (IsB (reg ++ be4 cost ++ (be2 bp ++ be6 mac) ++ [hops] ++ (Es.map fun e => rowOcts e.D).flatten)) ((t, (instObj 322 dt : Obj)) :: (dt, (dictOf (tailEs w b cost br hops rl τ) 5 : Obj)) :: (br, (tup2 (.int bp tb1) (.int mac tb2) nb : Obj)) :: (rl, (listOf (rowRefs Es).toArray k : Obj)) :: rowsLed w Es)) := by
  unfold Tell
  intro mean mg mb dp un gd cn cs a ccd cl outer A₀ base h₀ L m s Q E B F X N T hk hd hu hret
  refine letN1 N ?_
  clear N
  intro oB1 N
  refine letN2 N ?_
  clear N
  intro oB2 N
  refine wpAny_call ?_
  k_dflt cell_enter
  k_steps
  refine Dbg.mk ?_
  refine letML ?_
  intro sM
  refine' mind_L ?hh ?S ?hn ?F ?N ?hC ?a1 ?a2 ?a3 (JO Es _) ⟨rfl, OctsAre.nil⟩ ?hJ ?turn ?fin
  case hh => exact rfl
  case S => assumption
  case hn => (rw [List.size_toArray, List.length_map]; lia)
  case F => k_asm
  case N => k_asm
  case hC => assumption
  case a1 => k_ne
  case a2 => k_ne
  case a3 => k_ne
  case hJ =>
    rintro i vs T ⟨rfl, _⟩
    exact ⟨fun h N => srcIn_news N (by k_mem), by k_all, by k_all, by k_all⟩
  case turn =>
    intro i v vs T k9 h tk oC' oI' mC E' hi hv hj hl S1 F1 N1 hC1
    obtain ⟨e, he, hm9, rfl⟩ := rowRefs_at hv
    have hj' := hj
    obtain ⟨rfl, _⟩ := hj
    have mx := rowsLed_x (w := w) hm9
    have md := rowsLed_d (w := w) hm9
    have mq := rowsLed_q (w := w) hm9
    have mf := rowsLed_f (w := w) hm9
    obtain ⟨ok1, ok2, ok3⟩ := hok e hm9
    k_steps
    all_goals exact ⟨_, _, _, _, _, rfl, by k_asm, by k_asm, by assumption, hj'.step he (by assumption)⟩
  case fin =>
    intro h tk oC' mC vs k9 T F' N' hC hj hl
    obtain ⟨rfl, ho⟩ := hj
    rw [List.size_toArray, List.length_map, List.take_length] at ho
    have hz : ((Es.map fun e => rowOcts e.D).flatten).length ≤ 48 := by
      have := rows_len (Es.map (·.D))
      rw [List.map_map, List.length_map] at this
      exact this ▸ (by lia)
    have hz2 : ((Es.map fun e => rowOcts e.D).flatten).length ≤ 1000 := by lia
    (try dsimp only)
    k_steps
    all_goals (
      refine' fin_ (s := s) (small := (t, (instObj 322 dt : Obj)) :: (dt, (dictOf (tailEs w b cost br hops rl τ) 5 : Obj)) :: (br, (tup2 (.int bp tb1) (.int mac tb2) nb : Obj)) :: (rl, (listOf (rowRefs Es).toArray k : Obj)) :: rowsLed w Es) hret ?H ?F' ?F ?N ?S ?R
      case H => k_asm
      case F' => k_asm
      case F => k_asm
      case N => k_asm
      case S => repeat' (first | exact Sub.refl | refine' Sub.keep ?_ | refine' Sub.skip ?_ | exact Sub.nil)
      case R => (rename KBw.bInts _ = _ => hbb); rw [Int.emod_eq_of_lt hh.1 hh.2] at hbb; exact ⟨⟨_, _, rfl, hbb⟩, rfl⟩)
end
theorem lines_p48bminte : True := by
  w_top off
  k_extra "S"
  k_extra "ld:pre"
  k_extra "ld:massign"
  k_extra "ld:bytes"
  k_extra "ld:be"
  k_extra "ld:item"
  k_extra "ld:sorted"
  k_extra "ld:rdef"
  k_extra "ld:lookd"
  k_extra "ld:lists"
  trivial
section
section
open PyProof.Rows.LCg
variable {prog : Program} {w : World} {A : Around} {E : Value → Shared → Prop} {s : Shared} {h₀ : Heap} {L I C D : Addr} {m : Str → Option Value} {rest src : List (Addr × Obj)} {env : Env} {n : Nat} {P : Nat → Value → Prop} {oI oC oD : Obj}
  {elt kx vx iter : Expr} {scope : Scope} {cl : List (Str × Addr)} {pos px : Pos} {x : Str} {R : Result → Shared → Prop}
/- a dict comprehension with a test over ints, of any length: what a turn holds is walked once -/
theorem mints_E (hh : A.handled = none) (S : Steps prog w I src n P 0 oI) (hn : n ≤ 900) (F : Fr h₀ L s.heap m) (N : News h₀ L s.heap ((C, oC) :: (D, oD) :: (I, oI) :: rest)) (hD : oD.IsDictOf (intKind prog w) []) (hC : NsObj oC (fun _ => none)) (hx : scope.names.lookup x = some .local) (hk : scope.kind = .function)
    (hsr : ∀ h, Fr h₀ L h m → News h₀ L h rest → SrcIn src h) (a1 : D ≠ C) (a2 : I ≠ C) (a3 : I ≠ D) (a4 : ∀ p ∈ rest, p.1 ≠ C) (a5 : ∀ p ∈ rest, p.1 ≠ D) (a6 : ∀ p ∈ rest, p.1 ≠ I)
    (vv : Value) (ks : List Int) (hlen : ks.length = n) (hP : ∀ i v, P i v → ∃ t, v = .int (ks.getD i 0) t)
    (kel : ∀ k t h tk oC' oI' oD' (Qe E' : Value → Shared → Prop), k ∈ ks → Fr h₀ L h m → News h₀ L h ((C, oC') :: (D, oD') :: (I, oI') :: rest) → NsObj oC' (fun z => if z = x then some (.int k t) else none) →
      (∀ t' h' tk', Fr h₀ L h' m → News h₀ L h' ((C, oC') :: (D, oD') :: (I, oI') :: rest) → Qe (.int k t') { s with heap := h', toks := tk' }) → wpAny (model prog w) A (eval kx (compEnvC scope cl C env)) Qe E' { s with heap := h, toks := tk })
    (vel : ∀ k t h tk oC' oI' oD' (Qe E' : Value → Shared → Prop), k ∈ ks → Fr h₀ L h m → News h₀ L h ((C, oC') :: (D, oD') :: (I, oI') :: rest) → NsObj oC' (fun z => if z = x then some (.int k t) else none) →
      (∀ h' tk', Fr h₀ L h' m → News h₀ L h' ((C, oC') :: (D, oD') :: (I, oI') :: rest) → Qe vv { s with heap := h', toks := tk' }) → wpAny (model prog w) A (eval vx (compEnvC scope cl C env)) Qe E' { s with heap := h, toks := tk })
    (fin : ∀ h tk oC' oN oD' kvs, Fr h₀ L h m → News h₀ L h ((C, oC') :: (D, oD') :: rest) → NsObj oC' oN → oD'.IsDictOf (intKind prog w) kvs → kvs.length ≤ n → (∀ k, k ∈ kvs.map (·.1) ↔ k ∈ ks) → R (.ok .next) { s with heap := h, toks := tk }) :
    MLoop prog w A (.DictComp kx vx [⟨.Name x px, iter, [], 0⟩] scope pos) (.ref I) (.ref D) (compEnvC scope cl C env) R s := by
  have key : ∀ (d i : Nat) (h : Heap) (tk : Nat) (oI oC oD : Obj) (kvs : List (Int × Value)) (o : Option Value), i + d = n → Steps prog w I src n P i oI → oD.IsDictOf (intKind prog w) kvs → kvs.length ≤ i → (∀ k, k ∈ kvs.map (·.1) ↔ k ∈ ks.take i) → Fr h₀ L h m → News h₀ L h ((C, oC) :: (D, oD) :: (I, oI) :: rest) → NsObj oC (fun z => if z = x then o else none) →
      MLoop prog w A (.DictComp kx vx [⟨.Name x px, iter, [], 0⟩] scope pos) (.ref I) (.ref D) (compEnvC scope cl C env) R { s with heap := h, toks := tk } := by
    intro d
    induction d with
    | zero =>
      intro i h tk oI oC oD kvs o hi S hd hl hm F N hC
      have : i = n := by lia
      subst this
      refine mloop_end_D hh S F N (.tail (.tail .head)) (fun p hp => ?_) (hsr h F (News.sub N fun p hp => .tail _ (.tail _ (.tail _ hp)))) fun h' tk' F' N' => fin h' tk' oC _ oD kvs F' N' hC hd hl ?_
      · rcases List.mem_cons.mp hp with rfl | hp
        · exact Ne.symm a2
        · rcases List.mem_cons.mp hp with rfl | hp
          · exact Ne.symm a3
          · exact a6 p hp
      · rwa [List.take_of_length_le (by lia)] at hm
    | succ d ih =>
      intro i h tk oI oC oD kvs o hi S hd hl hm F N hC
      have hil : i < ks.length := by lia
      have e : ks.take (i + 1) = ks.take i ++ [ks.getD i 0] := by
        rw [List.take_add_one, List.getElem?_eq_getElem hil, List.getD_eq_getElem?_getD, List.getElem?_eq_getElem hil]; rfl
      refine mloop_D0 hh S (by lia) F N (.tail a2.symm (.tail a3.symm (.head a6))) (hsr h F (News.sub N fun p hp => .tail _ (.tail _ (.tail _ hp)))) fun v h1 tk1 oI1 hp S1 F1 N1 => ?_
      obtain ⟨t, rfl⟩ := hP i v hp
      refine massign_name F1 N1 (.head (fun p hp => ?_)) hC hx hk fun h2 oC2 F2 N2 hC2 => ?_
      · rcases List.mem_cons.mp hp with rfl | hp
        · exact a1
        · rcases List.mem_cons.mp hp with rfl | hp
          · exact a2
          · exact a4 p hp
      have eC : (fun z => if z = x then some (Value.int (ks.getD i 0) t) else if z = x then o else none) = fun z => if z = x then some (Value.int (ks.getD i 0) t) else none := by
        funext z
        by_cases e : z = x
        · rw [if_pos e, if_pos e]
        · rw [if_neg e, if_neg e, if_neg e]
      rw [eC] at hC2
      have hmem : ks.getD i 0 ∈ ks := by rw [List.getD_eq_getElem?_getD, List.getElem?_eq_getElem hil]; exact List.getElem_mem hil
      refine kel _ t h2 _ oC2 oI1 oD _ _ hmem F2 N2 hC2 fun t' h4 tk4 F4 N4 => ?_
      refine vel _ t h4 _ oC2 oI1 oD _ _ hmem F4 N4 hC2 fun h5 tk5 F5 N5 => ?_
      refine dset_K F5 N5 (.tail a1.symm (.head (fun p hp => ?_))) hd (intKind_is _ _ _ _) (by lia) fun h6 oD6 F6 N6 hd6 => ?_
      · rcases List.mem_cons.mp hp with rfl | hp
        · exact a3
        · exact a5 p hp
      refine ih (i + 1) h6 _ oI1 oC2 oD6 _ _ (by lia) S1 hd6 (len_stored hl) (fun k => ?_) F6 N6 hC2
      rw [keys_stored, hm, e, List.mem_append, List.mem_singleton]
  have := key n 0 s.heap s.toks oI oC oD [] none (by lia) S hD (Nat.le_refl _) (fun k => by simp) F N (by
    have e : (fun z => if z = x then none else none) = fun _ : Str => (none : Option Value) := by funext z; split <;> rfl
    rw [e]; exact hC)
  exact this
end
theorem strict_iff {ns ms : List Int} (h : ms.Pairwise (· < ·)) (hm : ∀ k, k ∈ ms ↔ k ∈ ns) : ns = ms ↔ ns.Pairwise (· < ·) :=
  ⟨fun e => e ▸ h, fun p => strict_eq p h fun k => (hm k).symm⟩
section
variable {prog : Program} {w : World} {A : Around} {E : Value → Shared → Prop} {s : Shared} {h₀ : Heap} {L a b : Addr} {news : List (Addr × Obj)} {vs ws : List Value} {ns ms : List Int} {n k : Nat} {Q : Value → Shared → Prop}
/- these ints and the sorted set of them are told the same just if they rise -/
theorem lne_sorted {G : Prop} {ls : List Int} (N : News h₀ L s.heap news) (ha : (a, listOf vs.toArray n) ∈ news) (hb : (b, listOf ws.toArray k) ∈ news) (hi : IntsAre vs ns) (hj : IntsAre ws ms) (hg : G ↔ ns.Pairwise (· < ·)) (h : ms.Pairwise (· < ·)) (hm1 : ∀ k, k ∈ ms ↔ k ∈ ls) (hm2 : ∀ k, k ∈ ls ↔ k ∈ ns) (hu : A.units + 64 < cLine) (h1 : G → Q (.bool false) s) (h2 : ¬ G → Q (.bool true) s) :
    wpAny (model prog w) A (compareOp .NotEq (.ref a) (.ref b)) Q E s :=
  ke_ne_ints (listAt N ha) (listAt N hb) hi hj hu (by
    have hm := fun k => (hm1 k).trans (hm2 k)
    by_cases g : G
    · rw [decide_eq_true ((strict_iff h hm).mpr (hg.mp g))]; exact h1 g
    · rw [decide_eq_false (fun e => g (hg.mpr ((strict_iff h hm).mp e)))]; exact h2 g)
end
end
theorem lines_p49rtail : True := by
  w_top off
  k_extra "S"
  k_extra "ld:pre"
  k_extra "ld:exset"
  k_extra "ld:swinit"
  k_extra "ld:tellx"
  k_extra "ld:massign"
  k_extra "ld:bytes"
  k_extra "ld:be"
  k_extra "ld:bits"
  k_extra "ld:item"
  k_extra "ld:cls"
  k_extra "ld:onum"
  k_extra "ld:rbridge"
  k_extra "ld:role"
  k_extra "ld:ttail"
  k_extra "ld:rrow"
  k_extra "ld:sorted"
  k_extra "ld:rdef"
  k_extra "ld:text"
  k_extra "ld:bstr"
  k_extra "ld:lenb"
  k_extra "ld:lists"
  k_extra "ld:o_rtail"
  trivial
section
/- a call that gives back, or ends in an exception of the own class C, as G says -/
noncomputable def TellB (w : World) (f : Value) (vs : List Value) (d u : Nat) (news : List (Addr × Obj)) (G : Prop) (Ret : Value → List (Addr × Obj) → Prop) (C : Addr) : Prop :=
  ∀ (mean : ExcName → Option Value) (mg mb : Str → Option Value) (dp un : Nat) (gd : Option (List Code)) (cn : Str) (cs : Scope) (a : Addr) (ccd : Value) (cl : List (Str × Addr)) (outer : List Env) (A₀ : Around) (base h₀ : Heap) (L : Addr) (m : Str → Option Value) (s : Shared) (Q E : Value → Shared → Prop),
    Below A₀ base outer h₀ → Fr h₀ L s.heap m → (Mine.hd.heap_39 w.params).In h₀ → News h₀ L s.heap news → Top topProg loose mean mg mb h₀ → cs.kind = .function → dp + d < recursionLimit → un + u < cLine →
    (G → ∀ (v : Value) (h' : Heap) (tk' : Nat) (news' : List (Addr × Obj)), Ret v news' → Fresh s.heap news news' → Hid s.heap news h' → Fr h₀ L h' m → News h₀ L h' news' → Q v { s with heap := h', toks := tk' }) →
    (¬ G → ∀ (e : Addr) (h' G : Heap) (tk : Nat), Hid s.heap news G → Fr h₀ L G m → G.UpToSlots h' → FliesV base G (envX cn cs L a ccd cl :: outer) e (.ref C) news h' → E (.ref e) { s with heap := h', toks := tk }) →
    wpAny (model PySem.Challenge.pw_pc0377_01 w) (ktrTop dp un gd cn cs L a ccd cl outer) (call f vs) Q E s
theorem TellB.good {w : World} {f : Value} {vs : List Value} {d u : Nat} {news : List (Addr × Obj)} {G : Prop} {Ret : Value → List (Addr × Obj) → Prop} {C : Addr} (T : TellB w f vs d u news G Ret C) (g : G) : TellN w f vs d u news Ret := by
  intro mean mg mb dp un gd cn cs a ccd cl outer A₀ base h₀ L m s Q E B F X N Tp hk hd hu hret
  exact T mean mg mb dp un gd cn cs a ccd cl outer A₀ base h₀ L m s Q E B F X N Tp hk hd hu (fun _ => hret) fun n => absurd g n
theorem TellB.bad {w : World} {f : Value} {vs : List Value} {d u : Nat} {news : List (Addr × Obj)} {G : Prop} {Ret : Value → List (Addr × Obj) → Prop} {C : Addr} (T : TellB w f vs d u news G Ret C) (g : ¬ G) : TellX w f vs d u news C := by
  intro mean mg mb dp un gd cn cs a ccd cl outer A₀ base h₀ L m s Q E B F X N Tp hk hd hu hret
  exact T mean mg mb dp un gd cn cs a ccd cl outer A₀ base h₀ L m s Q E B F X N Tp hk hd hu (fun g' => absurd g' g) fun _ => hret
/- what the octets of a tail of trees hold, when their size is right -/
structure TailIs (ns : List Int) (Ds : List RowD) (c0 c1 c2 c3 g0 g1 g2 g3 g4 g5 g6 g7 hops : Int) (reg : List Int) : Prop where
  len : ns.length = 64 + 16 * Ds.length
  few : Ds.length ≤ 4
  ok : ∀ D ∈ Ds, RowOk D
  row : ∀ (i : Nat) (D : RowD), Ds[i]? = some D → List.take (clipAt ns.length (64 + 16 * ((i : Int) + 1)) - clipAt ns.length (64 + 16 * (i : Int))) (List.drop (clipAt ns.length (64 + 16 * (i : Int))) ns) = rowOcts D
  cost : List.take (clipAt ns.length (51 + 4) - clipAt ns.length 51) (List.drop (clipAt ns.length 51) ns) = [c0, c1, c2, c3]
  bri : List.take (clipAt ns.length (51 + 12) - clipAt ns.length (51 + 4)) (List.drop (clipAt ns.length (51 + 4)) ns) = [g0, g1, g2, g3, g4, g5, g6, g7]
  hop : ns[Int.toNat (51 + 12)]? = some hops
  reg : List.take (clipAt ns.length 51) ns = reg
inductive JR (w : World) (Ds : List RowD) (C D I : Addr) (rest : List (Addr × Obj)) (i : Nat) (vs : List Value) (T : List (Addr × Obj)) : Prop
  | mk : ∀ Es : List RowE, (vs = rowRefs Es) → (Es.map (·.D) = Ds.take i) → ((∀ e ∈ Es, e.Ok w)) → (T = rest ++ rowsLed w Es) → (∀ e ∈ Es, ∀ p ∈ e.led w, Aps p.1 (C :: D :: I :: rest.map (·.1))) → JR w Ds C D I rest i vs T
section
variable {w : World} {Ds : List RowD} {C D I : Addr} {rest T : List (Addr × Obj)} {i : Nat} {vs : List Value} {h₀ : Heap} {L : Addr}
theorem JR.nil : JR w Ds C D I rest 0 [] rest := ⟨[], rfl, by simp, (fun _ h => nomatch h), by simp [rowsLed], (fun _ h => nomatch h)⟩
theorem JR.ok (j : JR w Ds C D I rest i vs T) (b1 : ∀ p ∈ rest, p.1 ≠ C) (b2 : ∀ p ∈ rest, p.1 ≠ D) (b3 : ∀ p ∈ rest, p.1 ≠ I) : (∀ p ∈ T, p.1 ≠ C) ∧ (∀ p ∈ T, p.1 ≠ D) ∧ (∀ p ∈ T, p.1 ≠ I) := by
  obtain ⟨Es, _, _, _, rfl, hz⟩ := j
  have key : ∀ q, (∀ p ∈ rest, p.1 ≠ q) → (∀ e ∈ Es, ∀ p ∈ e.led w, p.1 ≠ q) → ∀ p ∈ rest ++ rowsLed w Es, p.1 ≠ q := fun q k1 k2 p hp => by
    rcases List.mem_append.mp hp with hp | hp
    · exact k1 p hp
    · obtain ⟨e, he, hp⟩ := List.mem_flatMap.mp hp
      exact k2 e he p hp
  exact ⟨key C b1 fun t ht p hp => Ne.symm ((hz t ht p hp).ne (.head _)), key D b2 fun t ht p hp => Ne.symm ((hz t ht p hp).ne (.tail _ (.head _))), key I b3 fun t ht p hp => Ne.symm ((hz t ht p hp).ne (.tail _ (.tail _ (.head _))))⟩
theorem JR.mem (j : JR w Ds C D I rest i vs T) : ∀ p ∈ rest, p ∈ T := by
  obtain ⟨Es, _, _, _, rfl, hz⟩ := j
  exact fun p hp => List.mem_append_left _ hp
theorem Aps.sub3 {q C D I : Addr} {l : List Addr} {rest : List (Addr × Obj)} {Es : List RowE} {l1 : List Addr} (h : Aps q (l1 ++ (C :: D :: I :: (rest ++ rowsLed w Es).map (·.1)))) : Aps q (C :: D :: I :: rest.map (·.1)) :=
  ⟨fun a ha => h.all a (List.mem_append_right _ (by
      simp only [List.mem_cons, List.map_append, List.mem_append] at ha ⊢
      rcases ha with h | h | h | h <;> simp [h]))⟩
theorem JR.step {e : RowE} (j : JR w Ds C D I rest i vs T) (he : Ds[i]? = some e.D) (ok : e.Ok w) (z1 : Aps e.x ([e.d, e.q, e.f] ++ (C :: D :: I :: T.map (·.1)))) (z2 : Aps e.d ([e.q, e.f] ++ (C :: D :: I :: T.map (·.1)))) (z3 : Aps e.q ([e.f] ++ (C :: D :: I :: T.map (·.1)))) (z4 : Aps e.f ([] ++ (C :: D :: I :: T.map (·.1)))) : JR w Ds C D I rest (i + 1) (vs ++ [.ref e.x]) (T ++ e.led w) := by
  obtain ⟨Es, rfl, h1, h2, rfl, h3⟩ := j
  refine ⟨Es ++ [e], by simp [rowRefs], ?_, fun e' he' => ?_, by simp [rowsLed], fun e' he' p hp => ?_⟩
  · rw [List.take_add_one, List.map_append, h1, he]; rfl
  · rcases List.mem_append.mp he' with h | h
    · exact h2 e' h
    · rw [List.mem_singleton.mp h]; exact ok
  · rcases List.mem_append.mp he' with h | h
    · exact h3 e' h p hp
    · rw [List.mem_singleton.mp h] at hp
      unfold RowE.led at hp
      simp only [List.mem_cons, List.not_mem_nil, or_false] at hp
      rcases hp with rfl | rfl | rfl | rfl
      · exact Aps.sub3 (l := []) z1
      · exact Aps.sub3 (l := []) z2
      · exact Aps.sub3 (l := []) z3
      · exact Aps.sub3 (l := []) z4
end
theorem swap7 {a1 a2 a3 a4 c d i : Addr × Obj} {T : List (Addr × Obj)} : ∀ p ∈ c :: d :: i :: (T ++ [a1, a2, a3, a4]), p ∈ a1 :: a2 :: a3 :: a4 :: c :: d :: i :: T := fun p hp => by
  simp only [List.mem_cons, List.mem_append, List.not_mem_nil, or_false] at hp ⊢
  rcases hp with h | h | h | h | h | h | h | h <;> simp [h]
noncomputable def JN (Es : List RowE) (rest : List (Addr × Obj)) (i : Nat) (vs : List Value) (T : List (Addr × Obj)) : Prop := T = rest ∧ IntsAre vs ((Es.take i).map fun e => e.D.inst)
theorem JN.step {Es : List RowE} {rest T : List (Addr × Obj)} {i : Nat} {vs : List Value} {e : RowE} {t : Tok} (j : JN Es rest i vs T) (he : Es[i]? = some e) : JN Es rest (i + 1) (vs ++ [.int e.D.inst t]) T := by
  refine ⟨j.1, ?_⟩
  rw [List.take_add_one, he, List.map_append]
  exact j.2.append (.cons _ _ .nil)
theorem fr_gen {h₀ h : Heap} {L : Addr} {x1 x2 : Str} {i1 i2 j2 : Int} {T1 T2 : Tok} {m0 : Str → Option Value} (F : Fr h₀ L h (fun y => if y = x1 then some (.int i1 T1) else if y = x2 then some (.int i2 T2) else m0 y)) (e : i2 = j2) :
    ∃ (r : Int) (t1 t2 : Tok), Fr h₀ L h (fun y => if y = x1 then some (.int r t1) else if y = x2 then some (.int j2 t2) else m0 y) := by
  subst e; exact ⟨_, _, _, F⟩
inductive Ret_rtail (w : World) (Ds : List RowD) (c0 c1 c2 c3 g0 g1 g2 g3 g4 g5 g6 g7 hops : Int) (reg : List Int) (v : Value) (new : List (Addr × Obj)) : Prop
  | mk : ∀ (x dx br rl : Addr) (b2 : Array UInt8) (τ : Nat → Tok) (t1 t2 : Tok) (n k : Nat) (Es : List RowE), (v = .ref x) → (new = (x, (instObj 322 dx : Obj)) :: (dx, (dictOf (tailEs w b2 (ob4 c0 c1 c2 c3) br hops rl τ) 5 : Obj)) :: (br, (tup2 (.int (ob2 g0 g1) t1) (.int (ob6 g2 g3 g4 g5 g6 g7) t2) n : Obj)) :: (rl, (listOf (rowRefs Es).toArray k : Obj)) :: rowsLed w Es) → (KBw.bInts b2 = reg) → (Es.map (·.D) = Ds) → (∀ e ∈ Es, e.Ok w) → Ret_rtail w Ds c0 c1 c2 c3 g0 g1 g2 g3 g4 g5 g6 g7 hops reg v new
set_option maxHeartbeats 8000000 in
theorem c_rtail0 (w : World) (b : Array UInt8) (tb : Tok) (ns : List Int) (y0 : Int) (Ds : List RowD) (c0 c1 c2 c3 g0 g1 g2 g3 g4 g5 g6 g7 hops : Int) (reg : List Int) (hb : KBw.bInts b = ns) (hz : ns.length ≤ 1000) (h0 : ns[Int.toNat 0]? = some y0) (hG : 64 ≤ ns.length → ((ns.length : Int) - 64).fmod 16 = 0 → y0 = 0 → TailIs ns Ds c0 c1 c2 c3 g0 g1 g2 g3 g4 g5 g6 g7 hops reg) : TellB w (.ref 352) [.bytes b tb] 60 1200 [] (64 ≤ ns.length ∧ ((ns.length : Int) - 64).fmod 16 = 0 ∧ y0 = 0 ∧ (Ds.map fun D => D.inst).Pairwise (· < ·)) (fun v news' => ∃ new, Ret_rtail w Ds c0 c1 c2 c3 g0 g1 g2 g3 g4 g5 g6 g7 hops reg v new ∧ news' = new ++ []) 51 := by
  unfold TellB
  intro mean mg mb dp un gd cn cs a ccd cl outer A₀ base h₀ L m s Q E B F X N T hk hd hu hret hrex
  refine wpAny_call ?_
  k_dflt cell_enter
  k_steps
  iterate 3 exact finx_ (s := s) (hrex (fun ⟨g1, g2, g3, g4⟩ => by first | lia | contradiction)) (by k_asm) (by k_asm) (by k_asm) (by k_asm) Sub.nil
  refine Dbg.mk ?_
  have tl := hG (by lia) (by assumption) (by first | assumption | lia)
  have hlen := tl.len
  have hfew := tl.few
  have hcost := tl.cost
  have hbri := tl.bri
  have hhop := tl.hop
  have hreg := tl.reg
  have hq : ((ns.length : Int) - 64).fdiv 16 = (Ds.length : Int) := by rw [Int.fdiv_eq_ediv_of_nonneg _ (by decide)]; lia
  obtain ⟨r9, t91, t92, F9⟩ := fr_gen (by with_reducible assumption) hq
  have N9 : News g' L' _ [(L' + 1, _)] := News.sub (by with_reducible assumption) (subc mm1 (fun _ h => nomatch h))
  clear hq
  (rename ((ns.length : Int) - 64).fmod 16 = 0 => z9; have y9 := Fin9.mk z9; clear z9)
  (try (rename ¬ ((ns.length : Int) < 64) => z9; clear z9))
  (refine' massign_list ?w ?c ?k ?n ?_; (case w => with_unfolding_all rfl); (case c => with_unfolding_all rfl); (case k => exact rfl); (case n => decide))
  k_steps
  refine Dbg.mk ?_
  refine letML ?_
  intro sM
  refine' mind_L ?hh ?S ?hn ?F ?N ?hC ?a1 ?a2 ?a3 (JR w Ds _ _ _ _) JR.nil ?hJ ?turn ?fin
  case hh => exact rfl
  case S => assumption
  case hn => lia
  case F => k_asm
  case N => k_asm
  case hC => assumption
  case a1 => k_ne
  case a2 => k_ne
  case a3 => k_ne
  case hJ => exact fun i vs T j => ⟨fun h N => srcIn_nil, j.ok (by k_all) (by k_all) (by k_all)⟩
  case turn =>
    intro i v vs T k9 h tk oC' oI' mC E' hi hv hj hl S1 F1 N1 hC1
    obtain ⟨t9, rfl⟩ := hv
    obtain ⟨D, hD⟩ : ∃ D, Ds[i]? = some D := ⟨_, List.getElem?_eq_getElem hi⟩
    have hokD := tl.ok D (List.mem_of_getElem? hD)
    have hcut := tl.row i D hD
    obtain ⟨b1, b2, b3⟩ := hj.ok (by k_all) (by k_all) (by k_all)
    have mc := hj.mem _ (.head _)
    have hi4 : (i : Int) < 4 := by lia
    k_steps
    all_goals exact ⟨_, _, _, _, _, rfl, by k_asm, News.sub (by k_asm) swap7, by assumption, JR.step (e := ⟨_, _, _, _, _, _, _, _, D, _⟩) hj hD ⟨hokD, by assumption, by assumption⟩ (by assumption) (by assumption) (by assumption) (by assumption)⟩
  case fin =>
    intro h tk oC' mC vs k9 T F' N' hC hj hl
    obtain ⟨b1, b2, _⟩ := hj.ok (by k_all) (by k_all) (by k_all)
    obtain ⟨Es, rfl, hzD, hzok, rfl, hap⟩ := hj
    simp only [List.cons_append, List.nil_append] at N'
    simp only [List.cons_append, List.nil_append, List.forall_mem_cons] at b1 b2
    replace b1 := b1.2
    replace b2 := b2.2
    rw [List.take_length] at hzD
    have hzl : Es.length ≤ 4 := by rw [← hzD, List.length_map] at hfew; exact hfew
    clear hap
    (try dsimp only)
    k_steps
    refine Dbg.mk ?_
    have mks := fun (e : RowE) (he : e ∈ Es) => (⟨rowsLed_x (w := w) he, rowsLed_d (w := w) he⟩ : (e.x, (instObj 296 e.d : Obj)) ∈ rowsLed w Es ∧ (e.d, e.od w) ∈ rowsLed w Es)
    refine letML ?_
    intro sM
    refine' mind_L ?hh ?S ?hn ?F ?N ?hC ?a1 ?a2 ?a3 (JN Es _) ⟨rfl, .nil⟩ ?hJ ?turn ?fin
    case hh => exact rfl
    case S => assumption
    case hn => (rw [List.size_toArray, List.length_map]; lia)
    case F => k_asm
    case N => k_asm
    case hC => assumption
    case a1 => k_ne
    case a2 => k_ne
    case a3 => k_ne
    case hJ =>
      rintro i vs T ⟨rfl, _⟩
      exact ⟨fun h N => srcIn_news N (by k_mem), by k_all, by k_all, by k_all⟩
    case turn =>
      intro i v vs T k9 h tk oC' oI' mC E' hi hv hj hl S1 F1 N1 hC1
      obtain ⟨e, he, hm9, rfl⟩ := rowRefs_at hv
      have hj' := hj
      obtain ⟨rfl, _⟩ := hj
      obtain ⟨mx, md⟩ := mks e hm9
      k_steps
      all_goals exact ⟨_, _, _, _, _, rfl, by k_asm, by k_asm, by assumption, hj'.step he⟩
    case fin =>
      intro h tk oC' mC vs k9 T F' N' hC hj hl
      obtain ⟨rfl, hiN⟩ := hj
      rw [List.size_toArray, List.length_map, List.take_length] at hiN
      have hiD : IntsAre vs (Ds.map fun D => D.inst) := by rw [← hzD, List.map_map]; exact hiN
      clear hiN
      (try dsimp only)
      k_steps
      refine Dbg.mk ?_
      refine letML ?_
      intro sM
      refine' mints_E ?hh ?S ?hn ?F ?N ?hD ?hC ?hx ?hk ?hsr ?a1 ?a2 ?a3 ?a4 ?a5 ?a6 _ (Ds.map fun D => D.inst) ?hl ?hP ?kel ?vel ?fin
      case hh => exact rfl
      case S => assumption
      case hn => (rw [List.size_toArray, hiD.length, List.length_map]; lia)
      case F => k_asm
      case N => k_asm
      case hC => assumption
      case a1 => k_ne
      case a2 => k_ne
      case a3 => k_ne
      case hD => assumption
      case hx => exact rfl
      case hk => exact rfl
      case hsr => exact fun h F N => srcIn_news N (by k_mem)
      case a4 => k_all
      case a5 => k_all
      case a6 => k_all
      case hl => (rw [List.size_toArray, hiD.length])
      case hP => exact fun i v hv => ints_at9 hiD i v hv
      case kel =>
        intro k t h tk oC' oI' oD' Qe E' hk' F' N' hC' hret'
        k_steps
        all_goals exact hret' _ _ _ (by k_asm) (by k_asm)
      case vel =>
        intro k t h tk oC' oI' oD' Qe E' hk' F' N' hC' hret'
        k_steps
        all_goals exact hret' _ _ (by k_asm) (by k_asm)
      case fin =>
        intro h tk oC' oN oD' kvs F' N' hC hdD hkl hkm
        rw [List.size_toArray, hiD.length, List.length_map] at hkl
        have hkl9 : kvs.length < 64 := by lia
        (try dsimp only)
        k_steps
        · have z9 := y9.1
          refine' finM (s := s) (small := (_, instObj 322 _) :: (_, dictOf _ 5) :: (_, tup2 (.int (ob2 g0 g1) _) _ _) :: (_, listOf (rowRefs Es).toArray _) :: rowsLed w Es) (hret ⟨by lia, by assumption, by first | assumption | lia, by assumption⟩) ?H ?F' ?F ?N ?NG ?S ?R
          case H => k_asm
          case F' => k_asm
          case F => k_asm
          case N => k_asm
          case NG => k_asm
          case S =>
            refine List.forall_mem_cons.mpr ⟨?_, List.forall_mem_cons.mpr ⟨?_, List.forall_mem_cons.mpr ⟨?_, List.forall_mem_cons.mpr ⟨?_, ?_⟩⟩⟩⟩
            · repeat' (first | (with_reducible first | exact mm0 | exact mm1 | exact mm2 | exact mm3 | exact mm4 | exact mm5 | exact mm6 | exact mm7 | exact mm8 | exact mm9 | exact mm10 | exact mm11) | exact List.Mem.head _ | refine' List.Mem.tail _ ?_)
            · repeat' (first | (with_reducible first | exact mm0 | exact mm1 | exact mm2 | exact mm3 | exact mm4 | exact mm5 | exact mm6 | exact mm7 | exact mm8 | exact mm9 | exact mm10 | exact mm11) | exact List.Mem.head _ | refine' List.Mem.tail _ ?_)
            · repeat' (first | (with_reducible first | exact mm0 | exact mm1 | exact mm2 | exact mm3 | exact mm4 | exact mm5 | exact mm6 | exact mm7 | exact mm8 | exact mm9 | exact mm10 | exact mm11) | exact List.Mem.head _ | refine' List.Mem.tail _ ?_)
            · repeat' (first | (with_reducible first | exact mm0 | exact mm1 | exact mm2 | exact mm3 | exact mm4 | exact mm5 | exact mm6 | exact mm7 | exact mm8 | exact mm9 | exact mm10 | exact mm11) | exact List.Mem.head _ | refine' List.Mem.tail _ ?_)
            · intro p hp; (repeat' (first | exact hp | refine' List.mem_cons_of_mem _ ?_))
          case R =>
            refine ⟨_, ⟨_, _, _, _, _, tk14 _ _ _ _ _ _ _ _ 0 0 0 0 0 0, _, _, _, _, Es, rfl, rfl, Eq.trans ?_ hreg, hzD, hzok⟩, (List.append_nil _).symm⟩
            assumption
        · exact finx_ (s := s) (hrex (fun g => absurd g.2.2.2 (by assumption))) (by k_asm) (by k_asm) (by k_asm) (by k_asm) Sub.nil
end
theorem lines_p50tailis : True := by
  w_top off
  k_extra "S"
  k_extra "ld:pre"
  k_extra "ld:massign"
  k_extra "ld:bytes"
  k_extra "ld:be"
  k_extra "ld:bits"
  k_extra "ld:role"
  k_extra "ld:tocts"
  trivial
section
noncomputable abbrev tailReg : List Int := [0] ++ List.replicate 50 7
noncomputable def tailHead (cost bp mac hops : Int) : List Int := tailReg ++ be4 cost ++ (be2 bp ++ be6 mac) ++ [hops]
noncomputable def tailO (cost bp mac hops : Int) (Ds : List RowD) : List Int := tailHead cost bp mac hops ++ (Ds.map rowOcts).flatten
theorem tailHead_len (cost bp mac hops : Int) : (tailHead cost bp mac hops).length = 64 := rfl
theorem tailO_len (cost bp mac hops : Int) (Ds : List RowD) : (tailO cost bp mac hops Ds).length = 64 + 16 * Ds.length := by
  unfold tailO; rw [List.length_append, tailHead_len, rows_len]
theorem rows_cut : ∀ (Ds : List RowD) (i : Nat) (D : RowD), Ds[i]? = some D → ((Ds.map rowOcts).flatten.drop (16 * i)).take 16 = rowOcts D
  | [], _, _, h => by simp at h
  | D0 :: r, 0, D, h => by
    have e : D0 = D := by simpa using h
    subst e
    rw [mapc, List.flatten_cons, Nat.mul_zero, List.drop_zero]
    exact List.take_left' (rowOcts_len D0)
  | D0 :: r, i + 1, D, h => by
    rw [mapc, List.flatten_cons, show 16 * (i + 1) = (rowOcts D0).length + 16 * i by rw [rowOcts_len]; lia, List.drop_append]
    rw [List.drop_eq_nil_of_le (by lia), List.nil_append, Nat.add_sub_cancel_left]
    exact rows_cut r i D (by simpa using h)
theorem cut_head {H R : List Int} {lo k : Nat} (h : lo + k ≤ H.length) : ((H ++ R).drop lo).take k = (H.drop lo).take k := by
  rw [List.drop_append_of_le_length (by lia), List.take_append_of_le_length (by rw [List.length_drop]; lia)]
theorem clip_nat (n k : Nat) (h : k ≤ n) : clipAt n (k : Int) = k := by rw [clipAt_nat]; exact Nat.min_eq_left h
theorem tail_is {cost bp mac hops : Int} {Ds : List RowD} (ok : ∀ D ∈ Ds, RowOk D) (few : Ds.length ≤ 4) :
    TailIs (tailO cost bp mac hops Ds) Ds (cost / 16777216 % 256) (cost / 65536 % 256) (cost / 256 % 256) (cost % 256) (bp / 256 % 256) (bp % 256) (mac / 1099511627776 % 256) (mac / 4294967296 % 256) (mac / 16777216 % 256) (mac / 65536 % 256) (mac / 256 % 256) (mac % 256) hops tailReg where
  len := tailO_len ..
  few := few
  ok := ok
  row := fun i D h => by
    have hi : i < Ds.length := by
      rcases Nat.lt_or_ge i Ds.length with h' | h'
      · exact h'
      · rw [List.getElem?_eq_none h'] at h; cases h
    have e1 : (64 + 16 * ((i : Int) + 1)) = ((64 + 16 * (i + 1) : Nat) : Int) := by lia
    have e2 : (64 + 16 * (i : Int)) = ((64 + 16 * i : Nat) : Int) := by lia
    rw [e1, e2, tailO_len, clip_nat _ _ (by lia), clip_nat _ _ (by lia), show 64 + 16 * (i + 1) - (64 + 16 * i) = 16 by lia]
    unfold tailO
    rw [show 64 + 16 * i = (tailHead cost bp mac hops).length + 16 * i by rw [tailHead_len], List.drop_append, List.drop_eq_nil_of_le (by lia), List.nil_append, Nat.add_sub_cancel_left]
    exact rows_cut Ds i D h
  cost := by
    have e1 : ((51 : Int) + 4) = ((55 : Nat) : Int) := rfl
    have e2 : (51 : Int) = ((51 : Nat) : Int) := rfl
    rw [e1, e2, tailO_len, clip_nat _ _ (by lia), clip_nat _ _ (by lia)]
    unfold tailO
    rw [cut_head (by rw [tailHead_len]; decide)]
    rfl
  bri := by
    have e1 : ((51 : Int) + 12) = ((63 : Nat) : Int) := rfl
    have e2 : ((51 : Int) + 4) = ((55 : Nat) : Int) := rfl
    rw [e1, e2, tailO_len, clip_nat _ _ (by lia), clip_nat _ _ (by lia)]
    unfold tailO
    rw [cut_head (by rw [tailHead_len]; decide)]
    rfl
  hop := by
    unfold tailO
    rw [List.getElem?_append_left (by rw [tailHead_len]; decide)]
    rfl
  reg := by
    have e2 : (51 : Int) = ((51 : Nat) : Int) := rfl
    rw [e2, tailO_len, clip_nat _ _ (by lia)]
    unfold tailO
    have := cut_head (H := tailHead cost bp mac hops) (R := (Ds.map rowOcts).flatten) (lo := 0) (k := 51) (by rw [tailHead_len]; decide)
    rw [List.drop_zero, List.drop_zero] at this
    rw [this]
    rfl
end
theorem lines_p51lam : True := by
  w_top off
  k_extra "S"
  k_extra "ld:pre"
  k_extra "ld:massign"
  trivial
section
section
variable {M : Model} {A : Around} {E Q : Value → Shared → Prop} {s : Shared} {name qual : Str} {params : Arguments} {b : Expr} {scope sc cs : Scope} {cn : Str} {L a C : Addr} {ccd : Value} {cl clC : List (Str × Addr)} {pos : Pos} {fl : Nat}
theorem makeTail_congr {body : FuncBody} {e1 e2 : Env} {d k : Value} {an : Option Addr} (h1 : closureFor scope e1 = closureFor scope e2) (h2 : e1.globals = e2.globals) (h3 : e1.code = e2.code) (h4 : e1.builtins = e2.builtins) (h5 : e1.scope.kind = e2.scope.kind) :
    makeTail name qual params body scope e1 d k an pos fl = makeTail name qual params body scope e2 d k an pos fl := by
  unfold makeTail functionCode codeAt
  rw [h1, h2, h3, h4, h5]
/- a lambda made in a comprehension, as one made in the frame with the comprehension's cells -/
theorem lam_comp (hk : sc.kind = cs.kind) (h : wpAny M A (makeFunction name qual params (.expr b) scope (envX cn cs L a ccd clC) [] [] [] pos fl) Q E s) :
    wpAny M A (makeFunction name qual params (.expr b) scope (compEnvC sc clC C (envX cn cs L a ccd cl)) [] [] [] pos fl) Q E s := by
  rw [makeFunction_eq] at h ⊢
  simp only [List.zip_nil_right, List.filterMap_nil, List.isEmpty_nil, if_true, pure_bind] at h ⊢
  have e := makeTail_congr (name := name) (qual := qual) (params := params) (scope := scope) (pos := pos) (fl := fl) (body := .expr b) (e1 := compEnvC sc clC C (envX cn cs L a ccd cl)) (e2 := envX cn cs L a ccd clC) (d := .none) (k := .none) (an := none) rfl rfl rfl rfl hk
  rw [e]
  exact h
end
end
theorem lines_p52entert : True := by
  w_top off
  k_extra "S"
  k_extra "ld:pre"
  k_extra "ld:enters"
  trivial
section
section
variable {prog : Program} {w : World} {A A₀ : Around} {s : Shared} {K : Frag} {L : Addr} {h₀ base g₀ : Heap} {m mg mb : Str → Option Value} {news : List (Addr × Obj)} {p : Program} {loose : List Str} {mean : ExcName → Option Value}
  {env : Env} {outer : List Env} {R : Result → Shared → Prop} {name qual : Str} {params : Arguments} {body : List Stmt} {scope : Scope} {dV kV doc pm cdv ct oc : Value} {an od : Option Addr} {osl : Array (Option Value)} {f : Addr} {args : Args}
/- a def with cells whose frame catches; the frame's first names written out -/
theorem enterTC3 {binds₀ : List (Str × Value)} {vs : List Value} {fs : List Bool} (B : Below A₀ base outer h₀) (F : Fr h₀ L s.heap m) (X₀ : K.In h₀) (N : News h₀ L s.heap news) (T : Top p loose mean mg mb h₀) (XB : K.In base) (TB : Top p loose mean mg mb base) (T0 : KtsTurn (outer.filterMap (·.frame)) g₀ h₀) (hA : A.frames = some (env :: outer)) (hf : env.frame = some L) (hke : env.scope.kind = .function)
    (ho : K.lookup f = some ⟨oc, od, .func (fnOf name qual params body scope dV kV doc pm an cdv ct), osl⟩) (hcd : codeIn K cdv qual = true) (hroom : A.depth < recursionLimit)
    (hbind : BindsTo s (fnOf name qual params body scope dV kV doc pm an cdv ct) args binds₀) (hkind : (binds₀.all fun y => scope.names.lookup y.1 == some .local || scope.names.lookup y.1 == some .cell) = true)
    (hnd : ((cellsFrom 0 scope.names []).map (·.1)).Nodup) (hfs : ((paramNames params).zip vs).map (fun b => (envOfC qual scope 0 f cdv).kindOf b.1 == some .local) = fs)
    (h : ∀ g L' h₁ tk cells, Hid s.heap news g → Fr h₀ L g m → Fr g L' h₁ (fun y => (sel fs ((paramNames params).zip vs)).reverse.lookup y) → News g L' h₁ (cells ++ news) →
      CellsAre (bindC (envOfC qual scope L' f cdv).kindOf ((paramNames params).zip vs) fun _ => none) (cellsFrom (L' + 1) scope.names []) cells → Below A base (env :: outer) g → K.In g → Top p loose mean mg mb g → (∀ p ∈ news, p.1 < L') →
      wpAny (model prog w) (A.deeper (envOfC qual scope L' f cdv)) (execs body (envOfC qual scope L' f cdv))
        (fun fl s' => LeaveT ((env :: outer).filterMap (·.frame)) A₀ base outer K p loose mean mg mb g₀ L m g R (match fl with | .ret v => v | _ => .none) s')
        (fun e s' => wpAny (model prog w) (A.deeper (envOfC qual scope L' f cdv)) (leaving (envOfC qual scope L' f cdv) e) (fun _ s'' => R (.error e) s'') (fun e' s'' => R (.error e') s'') s')
        { s with heap := h₁, toks := tk })
    (e1 : binds₀.map (·.1) = paramNames params) (e2 : binds₀.map (·.2) = vs) (hco : scope.isCoroutine = false) (hgen : scope.isGenerator = false) (hk : scope.kind = .function) : codeAny (model prog w) A (.call (.ref f) args) R s := by
  have eb : binds₀ = (paramNames params).zip vs := by rw [← e1, ← e2]; exact (List.zip_map' (f := Prod.fst) (g := Prod.snd) (l := binds₀)).symm ▸ (by simp)
  refine enterTC B F X₀ N T XB TB T0 hA hf hke ho hcd hroom hbind hkind hnd (fun g L' h₁ tk cells a1 a2 a3 a4 a5 a6 a7 a8 a9 => ?_) hco hgen hk
  rw [eb] at a3 a5
  refine h g L' h₁ tk cells a1 a2 ?_ a4 a5 a6 a7 a8 a9
  have hfs' : ((paramNames params).zip vs).map (fun b => (envOfC qual scope L' f cdv).kindOf b.1 == some .local) = fs := hfs
  have e : bindL (envOfC qual scope L' f cdv).kindOf ((paramNames params).zip vs) (fun _ => none) = fun y => (sel fs ((paramNames params).zip vs)).reverse.lookup y := by
    rw [bindL_sel _ fs _ _ hfs']
    funext y
    simp
  rw [e] at a3
  exact a3
end
end
theorem lines_p53pairs : True := by
  w_top off
  k_extra "S"
  k_extra "ld:pre"
  k_extra "ld:massign"
  k_extra "ld:bytes"
  k_extra "ld:be"
  k_extra "ld:bits"
  k_extra "ld:item"
  k_extra "ld:role"
  k_extra "ld:rdef"
  k_extra "ld:text"
  k_extra "ld:bstr"
  k_extra "ld:bjoin"
  trivial
section
/- a row drawn by the law, with its octets, as it stands in the heap -/
structure PairE where
  (p : Addr)
  (k : Nat)
  (tb : Tok)
  (b : Array UInt8)
  (e : RowE)
noncomputable abbrev PairE.ob (P : PairE) : Obj := tup2 (.ref P.e.x) (.bytes P.b P.tb) P.k
noncomputable def PairE.led (w : World) (P : PairE) : List (Addr × Obj) := (P.p, P.ob) :: P.e.led w
noncomputable def pairsLed (w : World) (Ps : List PairE) : List (Addr × Obj) := Ps.flatMap (PairE.led w)
structure PairE.Ok (w : World) (P : PairE) : Prop where
  ok : P.e.Ok w
  oct : KBw.bInts P.b = rowOcts P.e.D
noncomputable abbrev pairRefs (Ps : List PairE) : List Value := Ps.map fun P => .ref P.p
noncomputable abbrev pairRows (Ps : List PairE) : List RowE := Ps.map fun P => P.e
theorem pairsLed_p {w : World} {Ps : List PairE} {P : PairE} (h : P ∈ Ps) : (P.p, P.ob) ∈ pairsLed w Ps := List.mem_flatMap.mpr ⟨P, h, .head _⟩
theorem pairsLed_rows {w : World} {Ps : List PairE} : ∀ p ∈ rowsLed w (pairRows Ps), p ∈ pairsLed w Ps := fun p hp => by
  obtain ⟨e, he, hp⟩ := List.mem_flatMap.mp hp
  obtain ⟨P, hP, rfl⟩ := List.mem_map.mp he
  exact List.mem_flatMap.mpr ⟨P, hP, .tail _ hp⟩
theorem pairRefs_at {Ps : List PairE} {i : Nat} {v : Value} (h : (pairRefs Ps).toArray[i]? = some v) : ∃ P, Ps[i]? = some P ∧ P ∈ Ps ∧ v = .ref P.p := by
  rw [List.getElem?_toArray, List.getElem?_map] at h
  obtain ⟨e, he, rfl⟩ := Option.map_eq_some_iff.mp h
  exact ⟨e, he, List.mem_of_getElem? he, rfl⟩
/- the law of the walk over the numbers drawn -/
inductive JS (src l : Addr) (rest : List (Addr × Obj)) (i : Nat) (vs : List Value) (T : List (Addr × Obj)) : Prop
  | mk : ∀ o1 o2 ks, (SrcObj l o1 o2) → (IntsAre vs ks) → (ks.length = i) → ((∀ k ∈ ks, 1 ≤ k ∧ k < 4095)) → (T = (src, o1) :: (l, o2) :: rest) → JS src l rest i vs T
theorem JS.step {src l : Addr} {rest : List (Addr × Obj)} {i : Nat} {vs : List Value} {ks : List Int} {k : Int} {t : Tok} {o1 o2 : Obj} (hi : IntsAre vs ks) (hl : ks.length = i) (hk : ∀ k ∈ ks, 1 ≤ k ∧ k < 4095) (hS : SrcObj l o1 o2) (h1 : 1 ≤ k) (h2 : k < 4095) : JS src l rest (i + 1) (vs ++ [.int k t]) ((src, o1) :: (l, o2) :: rest) :=
  ⟨o1, o2, ks ++ [k], hS, hi.append (.cons _ _ .nil), by rw [List.length_append, hl]; rfl, fun j hj => by
    rcases List.mem_append.mp hj with hj | hj
    · exact hk j hj
    · rw [List.mem_singleton.mp hj]; exact ⟨h1, h2⟩, rfl⟩
theorem swapS {c d i s l : Addr × Obj} {T : List (Addr × Obj)} : ∀ p ∈ c :: d :: i :: s :: l :: T, p ∈ s :: l :: c :: d :: i :: T := by
  repeat' (first | exact List.forall_mem_nil _ | refine' subc (by ((repeat' (first | exact List.mem_cons_self | refine List.mem_cons_of_mem _ ?_)); done)) ?_ | exact (fun p hp => by ((repeat' (first | exact hp | refine List.mem_cons_of_mem _ ?_)); done)))
/- the law of the walk over the rows drawn -/
inductive JP (w : World) (ns : List Int) (src l C D I : Addr) (rest : List (Addr × Obj)) (i : Nat) (vs : List Value) (T : List (Addr × Obj)) : Prop
  | mk : ∀ o1 o2 Ps, (SrcObj l o1 o2) → (vs = pairRefs Ps) → (Ps.map (fun P => P.e.D.inst) = ns.take i) → ((∀ P ∈ Ps, P.Ok w)) → (T = (src, o1) :: (l, o2) :: (rest ++ pairsLed w Ps)) → (∀ P ∈ Ps, ∀ p ∈ P.led w, Aps p.1 (C :: D :: I :: src :: l :: rest.map (·.1))) → JP w ns src l C D I rest i vs T
section
variable {w : World} {ns : List Int} {src l C D I : Addr} {rest T : List (Addr × Obj)} {i : Nat} {vs : List Value}
theorem JP.nil {o1 o2 : Obj} (hS : SrcObj l o1 o2) : JP w ns src l C D I rest 0 [] ((src, o1) :: (l, o2) :: rest) := ⟨o1, o2, [], hS, rfl, by simp, (fun _ h => nomatch h), by simp [pairsLed], (fun _ h => nomatch h)⟩
theorem JP.off {Ps : List PairE} (hz : ∀ P ∈ Ps, ∀ p ∈ P.led w, Aps p.1 (C :: D :: I :: src :: l :: rest.map (·.1))) : (∀ p ∈ pairsLed w Ps, p.1 ≠ C) ∧ (∀ p ∈ pairsLed w Ps, p.1 ≠ D) ∧ (∀ p ∈ pairsLed w Ps, p.1 ≠ I) ∧ (∀ p ∈ pairsLed w Ps, p.1 ≠ src) ∧ (∀ p ∈ pairsLed w Ps, p.1 ≠ l) := by
  have key : ∀ a ∈ C :: D :: I :: src :: l :: rest.map (·.1), ∀ p ∈ pairsLed w Ps, p.1 ≠ a := fun a ha p hp => by
    obtain ⟨P, hP, hp⟩ := List.mem_flatMap.mp hp
    exact Ne.symm ((hz P hP p hp).ne ha)
  exact ⟨key _ (.head _), key _ (.tail _ (.head _)), key _ (.tail _ (.tail _ (.head _))), key _ (.tail _ (.tail _ (.tail _ (.head _)))), key _ (.tail _ (.tail _ (.tail _ (.tail _ (.head _)))))⟩
theorem all_app {P : Addr × Obj → Prop} {a b : List (Addr × Obj)} (h1 : ∀ p ∈ a, P p) (h2 : ∀ p ∈ b, P p) : ∀ p ∈ a ++ b, P p := fun p hp => by
  rcases List.mem_append.mp hp with h | h
  · exact h1 p h
  · exact h2 p h
theorem JP.ok (j : JP w ns src l C D I rest i vs T) (b1 : ∀ p ∈ rest, p.1 ≠ C) (b2 : ∀ p ∈ rest, p.1 ≠ D) (b3 : ∀ p ∈ rest, p.1 ≠ I) (c1 : src ≠ C) (c2 : l ≠ C) (c3 : src ≠ D) (c4 : l ≠ D) (c5 : src ≠ I) (c6 : l ≠ I) : (∀ p ∈ T, p.1 ≠ C) ∧ (∀ p ∈ T, p.1 ≠ D) ∧ (∀ p ∈ T, p.1 ≠ I) := by
  obtain ⟨o1, o2, Ps, _, _, _, _, rfl, hz⟩ := j
  obtain ⟨k1, k2, k3, _, _⟩ := JP.off hz
  exact ⟨List.forall_mem_cons.mpr ⟨c1, List.forall_mem_cons.mpr ⟨c2, all_app b1 k1⟩⟩, List.forall_mem_cons.mpr ⟨c3, List.forall_mem_cons.mpr ⟨c4, all_app b2 k2⟩⟩, List.forall_mem_cons.mpr ⟨c5, List.forall_mem_cons.mpr ⟨c6, all_app b3 k3⟩⟩⟩
theorem Aps.subL {q : Addr} {l1 l2 : List Addr} (h : Aps q l1) (hs : ∀ a ∈ l2, a ∈ l1) : Aps q l2 := ⟨fun a ha => h.all a (hs a ha)⟩
theorem JP.step {o1 o2 : Obj} {Ps : List PairE} {P : PairE} {fu : List Addr} {c1 c2 c3 c4 d1 d2 d3 e1 e2 g1 : Addr} (h1 : Ps.map (fun P => P.e.D.inst) = ns.take i) (h2 : ∀ P ∈ Ps, P.Ok w) (hz : ∀ P ∈ Ps, ∀ p ∈ P.led w, Aps p.1 (C :: D :: I :: src :: l :: rest.map (·.1))) (hS : SrcObj l o1 o2) (hn : ns[i]? = some P.e.D.inst) (ok : P.Ok w)
    (z0 : Aps P.p (c1 :: c2 :: c3 :: c4 :: fu)) (z1 : Aps P.e.x (d1 :: d2 :: d3 :: fu)) (z2 : Aps P.e.d (e1 :: e2 :: fu)) (z3 : Aps P.e.q (g1 :: fu)) (z4 : Aps P.e.f fu) (hf : ∀ a ∈ C :: D :: I :: src :: l :: rest.map (·.1), a ∈ fu) : JP w ns src l C D I rest (i + 1) (pairRefs Ps ++ [.ref P.p]) ((src, o1) :: (l, o2) :: (rest ++ (pairsLed w Ps ++ P.led w))) := by
  refine ⟨o1, o2, Ps ++ [P], hS, by simp [pairRefs], ?_, fun P' hP => ?_, by simp [pairsLed], fun P' hP p hp => ?_⟩
  · rw [List.take_add_one, List.map_append, h1, hn]; rfl
  · rcases List.mem_append.mp hP with h | h
    · exact h2 P' h
    · rw [List.mem_singleton.mp h]; exact ok
  · rcases List.mem_append.mp hP with h | h
    · exact hz P' h p hp
    · rw [List.mem_singleton.mp h] at hp
      unfold PairE.led RowE.led at hp
      simp only [List.mem_cons, List.not_mem_nil, or_false] at hp
      rcases hp with rfl | rfl | rfl | rfl | rfl
      · exact z0.subL fun a ha => .tail _ (.tail _ (.tail _ (.tail _ (hf a ha))))
      · exact z1.subL fun a ha => .tail _ (.tail _ (.tail _ (hf a ha)))
      · exact z2.subL fun a ha => .tail _ (.tail _ (hf a ha))
      · exact z3.subL fun a ha => .tail _ (hf a ha)
      · exact z4.subL hf
end
theorem ints_at10 {vs : List Value} {ns : List Int} (h : IntsAre vs ns) {i : Nat} {v : Value} (hv : vs.toArray[i]? = some v) : ∃ k t, ns[i]? = some k ∧ v = .int k t := by
  rw [List.getElem?_toArray] at hv
  induction h generalizing i with
  | nil => simp at hv
  | cons n t h ih =>
    cases i with
    | zero => exact ⟨n, t, rfl, by simpa using hv.symm⟩
    | succ i => exact ih (by simpa using hv)
theorem swapQ {c d i s l a b t e0 e1 e2 e3 e4 : Addr × Obj} {R Z : List (Addr × Obj)} : ∀ p ∈ c :: d :: i :: s :: l :: ((a :: b :: t :: R) ++ (Z ++ [e0, e1, e2, e3, e4])), p ∈ s :: l :: e0 :: e1 :: e2 :: e3 :: e4 :: c :: d :: i :: a :: b :: t :: (R ++ Z) := by
  have hR : ∀ p ∈ R, p ∈ s :: l :: e0 :: e1 :: e2 :: e3 :: e4 :: c :: d :: i :: a :: b :: t :: (R ++ Z) := fun p hp => by
    iterate 13 refine List.mem_cons_of_mem _ ?_
    exact List.mem_append_left _ hp
  have hZ : ∀ p ∈ Z, p ∈ s :: l :: e0 :: e1 :: e2 :: e3 :: e4 :: c :: d :: i :: a :: b :: t :: (R ++ Z) := fun p hp => by
    iterate 13 refine List.mem_cons_of_mem _ ?_
    exact List.mem_append_right _ hp
  have e : ∀ p ∈ [e0, e1, e2, e3, e4], p ∈ s :: l :: e0 :: e1 :: e2 :: e3 :: e4 :: c :: d :: i :: a :: b :: t :: (R ++ Z) := subc mm2 (subc mm3 (subc mm4 (subc mm5 (subc mm6 (List.forall_mem_nil _)))))
  exact subc mm7 (subc mm8 (subc mm9 (subc mm0 (subc mm1 (forall_app (subc mm10 (subc mm11 (subc (List.mem_cons_of_mem _ mm11) hR))) (forall_app hZ e))))))
theorem inFu {C D I src l a b t : Addr} {A B : List Addr} : ∀ x ∈ C :: D :: I :: src :: l :: (a :: b :: t :: A), x ∈ C :: D :: I :: src :: l :: a :: b :: t :: (A ++ B) :=
  fun _ hx => List.mem_append_left B hx
theorem mem_two {ns ms ks : List Int} {P : Int → Prop} (p : ∀ k, k ∈ ns ↔ k ∈ ms) (q : ∀ k, k ∈ ms ↔ k ∈ ks) (h : ∀ k ∈ ks, P k) : ∀ k ∈ ns, P k := fun k hk => h k ((q k).mp ((p k).mp hk))
theorem nodup_len : ∀ (ns ks : List Int), ns.Nodup → (∀ k ∈ ns, k ∈ ks) → ns.length ≤ ks.length
  | [], _, _, _ => Nat.zero_le _
  | a :: r, ks, h, hs => by
    obtain ⟨h1, h2⟩ := List.nodup_cons.mp h
    have ha := hs a (.head _)
    have := nodup_len r (ks.erase a) h2 fun k hk => (List.mem_erase_of_ne (fun e => h1 (by rw [← e]; exact hk))).mpr (hs k (.tail _ hk))
    rw [List.length_erase_of_mem ha] at this
    have hp := List.length_pos_of_mem ha
    rw [List.length_cons]; lia
theorem strict_len {ns ms ks : List Int} (h : ns.Pairwise (· < ·)) (p : ∀ k, k ∈ ns ↔ k ∈ ms) (q : ∀ k, k ∈ ms ↔ k ∈ ks) : ns.length ≤ ks.length :=
  nodup_len ns ks (h.imp fun e => Int.ne_of_lt e) fun k hk => (q k).mp ((p k).mp hk)
theorem JP.offA {w : World} {src l C D I : Addr} {rest : List (Addr × Obj)} {Ps : List PairE} (hz : ∀ P ∈ Ps, ∀ p ∈ P.led w, Aps p.1 (C :: D :: I :: src :: l :: rest.map (·.1))) {a : Addr} (ha : a ∈ rest.map (·.1)) : ∀ p ∈ pairsLed w Ps, p.1 ≠ a := fun p hp => by
  obtain ⟨P, hP, hp⟩ := List.mem_flatMap.mp hp
  exact Ne.symm ((hz P hP p hp).ne (.tail _ (.tail _ (.tail _ (.tail _ (.tail _ ha))))))
noncomputable def JW (Ps : List PairE) (rest : List (Addr × Obj)) (i : Nat) (vs : List Value) (T : List (Addr × Obj)) : Prop := T = rest ∧ vs = rowRefs ((pairRows Ps).take i)
theorem JW.step {Ps : List PairE} {rest T : List (Addr × Obj)} {i : Nat} {vs : List Value} {P : PairE} (j : JW Ps rest i vs T) (hP : Ps[i]? = some P) : JW Ps rest (i + 1) (vs ++ [.ref P.e.x]) T := by
  refine ⟨j.1, ?_⟩
  have e : (pairRows Ps)[i]? = some P.e := by rw [List.getElem?_map, hP]; rfl
  rw [j.2, List.take_add_one, e]
  simp [rowRefs]
noncomputable def JX (Ps : List PairE) (rest : List (Addr × Obj)) (i : Nat) (vs : List Value) (T : List (Addr × Obj)) : Prop := T = rest ∧ OctsAre vs (((pairRows Ps).take i).map fun e => rowOcts e.D)
theorem JX.step {w : World} {Ps : List PairE} {rest T : List (Addr × Obj)} {i : Nat} {vs : List Value} {P : PairE} (j : JX Ps rest i vs T) (hP : Ps[i]? = some P) (ok : P.Ok w) : JX Ps rest (i + 1) (vs ++ [.bytes P.b P.tb]) T := by
  refine ⟨j.1, ?_⟩
  have e : (pairRows Ps)[i]? = some P.e := by rw [List.getElem?_map, hP]; rfl
  rw [List.take_add_one, e, List.map_append]
  exact j.2.snoc ok.oct
end
theorem lines_p53brtuse : True := by
  w_top off
  k_extra "S"
  k_extra "ld:pre"
  k_extra "ld:exset"
  k_extra "ld:swinit"
  k_extra "ld:tellx"
  k_extra "ld:massign"
  k_extra "ld:bytes"
  k_extra "ld:be"
  k_extra "ld:bits"
  k_extra "ld:item"
  k_extra "ld:role"
  k_extra "ld:tocts"
  trivial
section
theorem use_rtail {w : World} {full : List (Addr × Obj)} (b : Array UInt8) (tb : Tok) (cost bp mac hops : Int) (Ds : List RowD) (hb : KBw.bInts b = tailO cost bp mac hops Ds) (hc : 0 ≤ cost ∧ cost < 4294967296) (hbp : 0 ≤ bp ∧ bp < 65536) (hm : 0 ≤ mac ∧ mac < 281474976710656) (ok : ∀ D ∈ Ds, RowOk D) (few : Ds.length ≤ 4) (st : (Ds.map fun D => D.inst).Pairwise (fun p q : Int => p < q)) {mean : ExcName → Option Value} {mg mb : Str → Option Value} {dp un : Nat} {gd : Option (List Code)} {cn : Str} {cs : Scope} {a : Addr} {ccd : Value} {cl : List (Str × Addr)} {outer : List Env} {A₀ : Around} {base h₀ : Heap} {L : Addr} {m : Str → Option Value} {s0 : Heap} {s1 : Array GenState} {s2 : Drawn} {s3 : Nat} {s4 : OsState} {Q E : Value → Shared → Prop}
    (B : Below A₀ base outer h₀) (F : Fr h₀ L s0 m) (X : (Mine.hd.heap_39 w.params).In h₀) (N : News h₀ L s0 full) (T : Top topProg loose mean mg mb h₀) (hk : cs.kind = .function) (hd : dp + 60 < recursionLimit) (hu : un + 1200 < cLine)
    (h : ∀ (x dx br rl : Addr) (b2 : Array UInt8) (τ : Nat → Tok) (t1 t2 : Tok) (n k : Nat) (Es : List RowE) (h' : Heap) (tk' : Nat), Es.map (·.D) = Ds → (∀ e ∈ Es, e.Ok w) → KBw.bInts b2 = tailReg → Fr h₀ L h' m → News h₀ L h' ((x, (instObj 322 dx : Obj)) :: (dx, (dictOf (tailEs w b2 cost br hops rl τ) 5 : Obj)) :: (br, (tup2 (.int bp t1) (.int mac t2) n : Obj)) :: (rl, (listOf (rowRefs Es).toArray k : Obj)) :: (full ++ rowsLed w Es)) → Q (.ref x) (Shared.mk h' s1 s2 tk' s4)) :
    wpAny (model PySem.Challenge.pw_pc0377_01 w) (ktrTop dp un gd cn cs L a ccd cl outer) (call (.ref 352) [.bytes b tb]) Q E (Shared.mk s0 s1 s2 s3 s4) := by
  have hl := tailO_len cost bp mac hops Ds
  have hf : ((tailO cost bp mac hops Ds).length : Int) - 64 = 16 * (Ds.length : Int) := by lia
  have c := (c_rtail0 w b tb (tailO cost bp mac hops Ds) 0 Ds _ _ _ _ _ _ _ _ _ _ _ _ hops tailReg hb (by lia) rfl (fun _ _ _ => tail_is ok few)).good ⟨by lia, by rw [hf, Int.fmod_eq_emod_of_nonneg _ (by decide)]; lia, rfl, st⟩
  refine c.read (fun p hp => nomatch hp) B F X N T hk hd hu fun v h' tk' new hP hA F' N' => ?_
  obtain ⟨x, dx, br, rl, b2, τ, t1, t2, n, k, Es, rfl, rfl, e1, e2, e3⟩ := hP
  rw [ob4_be hc.1 hc.2, ob2_be hbp.1 hbp.2, ob6_be hm.1 hm.2] at N'
  exact h x dx br rl b2 τ t1 t2 n k Es h' tk' e2 e3 e1 F' (News.sub N' fun p hp => by
    simp only [List.mem_cons, List.mem_append, List.cons_append] at hp ⊢
    rcases hp with h | h | h | h | h | h <;> simp [h])
theorem due_is {b : Array UInt8} {L0 : List Int} {cost bp mac hops : Int} {Es : List RowE} (h : KBw.bInts b = L0 ++ be4 cost ++ (be2 bp ++ be6 mac) ++ [hops] ++ (List.map (fun e => rowOcts e.D) Es).flatten) (e0 : L0 = tailReg) : KBw.bInts b = tailO cost bp mac hops (List.map (fun e : RowE => e.D) Es) := by
  rw [h, e0]
  unfold tailO tailHead
  rw [List.map_map]
  rfl
end
theorem lines_p53cnetold : True := by
  w_top off
  k_extra "S"
  k_extra "ld:pre"
  k_extra "ld:massign"
  k_extra "ld:bytes"
  k_extra "ld:be"
  k_extra "ld:bits"
  k_extra "ld:item"
  k_extra "ld:role"
  k_extra "ld:rdef"
  k_extra "ld:text"
  k_extra "ld:bstr"
  k_extra "ld:get16"
  k_extra "ld:rreg"
  k_extra "ld:eqs"
  k_extra "ld:told8"
  trivial
section
noncomputable abbrev tup5 (b : Array UInt8) (u1 : Tok) (cost : Int) (u2 : Tok) (br : Addr) (hops : Int) (u3 : Tok) (zt : Addr) (n : Nat) : Obj := { cls := .type "tuple", data := .seq #[.bytes b u1, .int cost u2, .ref br, .int hops u3, .ref zt] n }
/- what told gives of the rows, as it stands -/
structure ToldIn (w : World) (Zs : List ToldE) (news : List (Addr × Obj)) : Prop where
  z : ∀ t ∈ Zs, (t.z, t.ob) ∈ news
  led : ∀ t ∈ Zs, ∀ p ∈ t.e.led w, p ∈ news
  ok : ∀ t ∈ Zs, t.e.Ok w
theorem ToldIn.of {w : World} {Zs : List ToldE} {Es : List RowE} {news : List (Addr × Obj)} (e : Zs.map (·.e) = Es) (h1 : ∀ p ∈ toldLed Zs, p ∈ news) (h2 : ∀ p ∈ rowsLed w Es, p ∈ news) (h3 : ∀ e ∈ Es, e.Ok w) : ToldIn w Zs news where
  z := fun t ht => h1 _ (List.mem_map_of_mem (f := fun t : ToldE => (t.z, t.ob)) ht)
  led := fun t ht p hp => h2 p (List.mem_flatMap.mpr ⟨t.e, e ▸ List.mem_map_of_mem (f := fun t : ToldE => t.e) ht, hp⟩)
  ok := fun t ht => h3 _ (e ▸ List.mem_map_of_mem (f := fun t : ToldE => t.e) ht)
section
open PySem.SeqAt
variable {w : World} {A : Around} {E Q : Value → Shared → Prop} {s : Shared} {h₀ : Heap} {L : Addr} {news : List (Addr × Obj)}
theorem same_bytes {b c : Array UInt8} {ks : List Int} {t u : Tok} (hb : KBw.bInts b = ks) (hc : KBw.bInts c = ks) : Same PySem.Challenge.pw_pc0377_01 w A s (.bytes b t) (.bytes c u) := by
  have e := bInts_inj hb hc
  subst e
  exact Same.of eqAt_bytes (by simp)
theorem same_tolds {a b : Addr} {Zs Ys : List ToldE} {n k : Nat} (N : News h₀ L s.heap news) (pa : (a, ({ cls := .type "tuple", data := .seq (toldRefs Zs).toArray n } : Obj)) ∈ news) (pb : (b, ({ cls := .type "tuple", data := .seq (toldRefs Ys).toArray k } : Obj)) ∈ news) (hZ : ToldIn w Zs news) (hY : ToldIn w Ys news)
    (eD : Zs.map (fun t => t.e.D) = Ys.map (fun t => t.e.D)) (hu : A.units + 8 < cLine) : Same PySem.Challenge.pw_pc0377_01 w A s (.ref a) (.ref b) := by
  have el : Zs.length = Ys.length := by simpa using congrArg List.length eD
  refine Same.tup (items := (toldRefs Zs).toArray) (items2 := (toldRefs Ys).toArray) ⟨_, N.get pa, rfl, _, rfl⟩ ⟨_, N.get pb, rfl, _, rfl⟩ (by lia) (by simp [el]) fun p hp => ?_
  obtain ⟨i, hi, he⟩ := List.mem_iff_getElem.mp hp
  have hi' : i < Zs.length ∧ i < Ys.length := by have := hi; simp at this; lia
  rw [List.getElem_zip] at he
  have h1 : Zs[i]'(by lia) ∈ Zs := List.getElem_mem _
  have h2 : Ys[i]'(by lia) ∈ Ys := List.getElem_mem _
  have e : (Zs[i]'(by lia)).e.D = (Ys[i]'(by lia)).e.D := by
    have := congrArg (fun l => l[i]?) eD
    simp only [List.getElem?_map] at this
    rw [List.getElem?_eq_getElem (by lia), List.getElem?_eq_getElem (by lia)] at this
    exact Option.some.inj this
  rw [← he]
  have key := same_told (A := A.in1) N (hZ.z _ h1) (hY.z _ h2) (hZ.led _ h1) (hY.led _ h2) (hZ.ok _ h1) (hY.ok _ h2) e (show A.units + 1 + 1 < cLine by lia) (show A.units + 1 < cLine by lia)
  simpa [toldRefs] using key
theorem ne_told {z y zt yt br br2 : Addr} {b c : Array UInt8} {ks : List Int} {u1 u2 u3 v1 v2 v3 q1 q2 r1 r2 : Tok} {cost hops bp mac : Int} {n k n2 k2 n3 k3 : Nat} {Zs Ys : List ToldE} (N : News h₀ L s.heap news) (mz : (z, tup5 b u1 cost u2 br hops u3 zt n) ∈ news) (my : (y, tup5 c v1 cost v2 br2 hops v3 yt k) ∈ news)
    (mzt : (zt, ({ cls := .type "tuple", data := .seq (toldRefs Zs).toArray n2 } : Obj)) ∈ news) (myt : (yt, ({ cls := .type "tuple", data := .seq (toldRefs Ys).toArray k2 } : Obj)) ∈ news) (mb : (br, tup2 (.int bp q1) (.int mac q2) n3) ∈ news) (mb2 : (br2, tup2 (.int bp r1) (.int mac r2) k3) ∈ news)
    (hb : KBw.bInts b = ks) (hc : KBw.bInts c = ks) (hZ : ToldIn w Zs news) (hY : ToldIn w Ys news) (eD : Zs.map (fun t => t.e.D) = Ys.map (fun t => t.e.D)) (hu : A.units + 64 < cLine) (h : Q (.bool false) s) :
    wpAny (model PySem.Challenge.pw_pc0377_01 w) A (compareOp .NotEq (.ref z) (.ref y)) Q E s := by
  refine ne_tup_same (items := #[.bytes b u1, .int cost u2, .ref br, .int hops u3, .ref zt]) (items2 := #[.bytes c v1, .int cost v2, .ref br2, .int hops v3, .ref yt]) ⟨_, N.get mz, rfl, _, rfl⟩ ⟨_, N.get my, rfl, _, rfl⟩ (by lia) rfl (fun p hp => ?_) h
  rcases List.mem_cons.mp hp with rfl | hp
  · exact same_bytes hb hc
  rcases List.mem_cons.mp hp with rfl | hp
  · exact same_int
  rcases List.mem_cons.mp hp with rfl | hp
  · exact same_tup2 (A := A.in1) N mb mb2 (show A.units + 1 < cLine by lia)
  rcases List.mem_cons.mp hp with rfl | hp
  · exact same_int
  rcases List.mem_cons.mp hp with rfl | hp
  · exact same_tolds (A := A.in1) N mzt myt hZ hY eD (show A.units + 1 + 8 < cLine by lia)
  cases hp
end
theorem told_D {Zs Ys : List ToldE} {Es Fs : List RowE} (h1 : Zs.map (·.e) = Es) (h2 : Ys.map (·.e) = Fs) (h : Es.map (·.D) = Fs.map (·.D)) : Zs.map (fun t => t.e.D) = Ys.map (fun t => t.e.D) := by
  subst h1; subst h2
  rw [List.map_map, List.map_map] at h
  exact h
end
theorem lines_p53dforp : True := by
  w_top off
  k_extra "S"
  k_extra "ld:pre"
  k_extra "ld:massign"
  k_extra "ld:bytes"
  k_extra "ld:be"
  k_extra "ld:bits"
  k_extra "ld:item"
  k_extra "ld:role"
  k_extra "ld:rdef"
  k_extra "ld:text"
  k_extra "ld:bstr"
  k_extra "ld:bjoin"
  trivial
section
/- these names' maps are alike but for three names -/
noncomputable def Canon (x1 x2 x3 : Str) (m m' : Str → Option Value) : Prop := ∀ y, y ≠ x1 → y ≠ x2 → y ≠ x3 → m' y = m y
theorem Canon.form {x1 x2 x3 : Str} {m m' : Str → Option Value} (h : Canon x1 x2 x3 m m') : m' = fun y => if y = x1 then m' x1 else if y = x2 then m' x2 else if y = x3 then m' x3 else m y := by
  funext y
  by_cases e1 : y = x1
  · rw [if_pos e1, e1]
  · rw [if_neg e1]
    by_cases e2 : y = x2
    · rw [if_pos e2, e2]
    · rw [if_neg e2]
      by_cases e3 : y = x3
      · rw [if_pos e3, e3]
      · rw [if_neg e3]; exact h y e1 e2 e3
section
variable {prog : Program} {w : World} {A : Around} {E : Value → Shared → Prop} {s : Shared} {h₀ : Heap} {m : Str → Option Value} {news : List (Addr × Obj)} {env : Env} {x1 x2 x3 : Str} {target : Expr} {body : List Stmt} {Q : Flow → Shared → Prop}
/- the end of a turn that stores three names alone -/
inductive TEnd (h₀ : Heap) (L : Addr) (x1 x2 x3 : Str) (m : Str → Option Value) (news : List (Addr × Obj)) (s₁ : Shared) (f : Flow) (s₂ : Shared) : Prop
  | mk : (f = .next) → ∀ h' tk m', (s₂ = { s₁ with heap := h', toks := tk }) → (Fr h₀ L h' m') → (Canon x1 x2 x3 m m') → (News h₀ L h' news) → TEnd h₀ L x1 x2 x3 m news s₁ f s₂
theorem tend_ {L : Addr} {h' : Heap} {tk : Nat} {m' : Str → Option Value} {big : List (Addr × Obj)} {s₁ : Shared} (F : Fr h₀ L h' m') (C : Canon x1 x2 x3 m m') (N : News h₀ L h' big) (S : ∀ p ∈ news, p ∈ big) : TEnd h₀ L x1 x2 x3 m news s₁ .next { s₁ with heap := h', toks := tk } := ⟨rfl, h', tk, m', rfl, F, C, News.sub N S⟩
/- a loop over the rows drawn whose turns store three names alone -/
theorem for_pairs {Ps : List PairE} {l : Addr} {k : Nat} (hh : A.handled = none) (F : Fr h₀ env.locals s.heap m) (N : News h₀ env.locals s.heap news) (hm : (l, listOf (pairRefs Ps).toArray k) ∈ news)
    (step : ∀ P a b c (s₁ : Shared) I oI, P ∈ Ps → Fr h₀ env.locals s₁.heap (fun y => if y = x1 then a else if y = x2 then b else if y = x3 then c else m y) → News h₀ env.locals s₁.heap ((I, oI) :: news) → (∀ p ∈ news, p.1 < I) →
      wpAny (model prog w) A (assign target env (.ref P.p)) (fun _ s₃ => wpAny (model prog w) A (execs body env) (TEnd h₀ env.locals x1 x2 x3 m ((I, oI) :: news) s₁) E s₃) E s₁)
    (done : ∀ a b c h' tk, Fr h₀ env.locals h' (fun y => if y = x1 then a else if y = x2 then b else if y = x3 then c else m y) → News h₀ env.locals h' news → Q .next { s with heap := h', toks := tk }) :
    wpAny (model prog w) A (pyIter (.ref l)) (fun it s₂ => LoopAtT prog w A h₀ env target body Q E it s₂) E s := by
  have hax := N _ hm
  have IL : s.heap.IsList l (pairRefs Ps).toArray := ⟨_, N.get hm, rfl, k, rfl⟩
  have hne : l ≠ s.heap.objs.size := Nat.ne_of_lt (Heap.lt_size hax.1)
  have lt0 : ∀ p ∈ news, p.1 < s.heap.objs.size := fun p hp => Heap.lt_size (N p hp).1
  refine wpAny_pyIter_list IL ?_
  refine ⟨s.heap.objs.size, [s.heap.objs.size, l], [s.heap.objs.size], (pairRefs Ps).toArray.size, _, _, m, news, (fun _ m' news' => Canon x1 x2 x3 m m' ∧ news' = news), rfl,
    Walks.list hh _ l hne (pairRefs Ps).toArray, ?_, ?_, ?_, ⟨⟨_, Heap.get?_push_size _ rfl, rfl, rfl⟩, IL.at fun o e => Heap.get?_push_of_some _ e⟩, F.push _, fun p hp => ⟨Heap.get?_push_of_some _ (N p hp).1, (N p hp).2⟩, fun i s' v Q' st hQ' => letGo_listiter st.1 hQ', ⟨fun _ _ _ _ => rfl, rfl⟩, ?_, ?_⟩
  · intro hI
    rcases List.mem_cons.mp hI with e | e
    · exact absurd F.ns.lt (e ▸ Nat.lt_irrefl _)
    · exact hax.2.1 (List.mem_singleton.mp e).symm
  · intro b hb
    rw [List.mem_singleton.mp hb]; exact next_is_new F
  · intro p hp hI
    exact absurd (lt0 p hp) ((List.mem_singleton.mp hI) ▸ Nat.lt_irrefl _)
  · rintro i v m₁ news₁ s₁ own hi hP ⟨hC, rfl⟩ ha hsub hown hall hst F₁ N₁
    obtain ⟨P, hPi, hPm, rfl⟩ := pairRefs_at hP
    obtain ⟨oI, hI, _⟩ := hst.1
    have inI : (s.heap.objs.size, oI) ∈ own := hall _ (List.mem_cons_self ..) (next_is_new F) _ hI
    have N₂ : News h₀ env.locals s₁.heap ((s.heap.objs.size, oI) :: news₁) := fun p hp => by
      rcases List.mem_cons.mp hp with rfl | hp
      · exact N₁ _ (List.mem_append_left _ inI)
      · exact N₁ _ (List.mem_append_right _ hp)
    rw [hC.form] at F₁
    refine wpAny_mono (step P _ _ _ s₁ _ oI hPm F₁ N₂ lt0) (fun _ s₃ h₃ => wpAny_mono h₃ (fun f s₄ h₄ => ?_) fun _ _ e => e) fun _ _ e => e
    obtain ⟨rfl, h', tk, m', rfl, F₃, C₃, N₃⟩ := h₄
    refine ⟨rfl, h', tk, m', news₁, rfl, F₃, fun p hp => ?_, ha, C₃, rfl⟩
    rcases List.mem_append.mp hp with hp | hp
    · have hg := hown p hp
      rcases List.mem_cons.mp (hsub p hp) with e | e
      · have : p.2 = oI := by rw [e] at hg; exact Option.some.inj (hg.symm.trans hI)
        have : p = (s.heap.objs.size, oI) := Prod.ext e this
        subst this
        exact N₃ _ (.head _)
      · have e := List.mem_singleton.mp e
        have zd := (N₁ _ (List.mem_append_right _ hm)).1
        have : p.2 = listOf (pairRefs Ps).toArray k := by rw [e] at hg; exact Option.some.inj (hg.symm.trans zd)
        have : p = (l, listOf (pairRefs Ps).toArray k) := Prod.ext e this
        subst this
        exact N₃ _ (.tail _ hm)
    · exact N₃ p (.tail _ hp)
  · rintro h' tk m' news' F' N' _ ⟨hC, rfl⟩
    rw [hC.form] at F'
    exact done _ _ _ h' tk F' N'
end
end
theorem lines_p53etbad : True := by
  w_top off
  k_extra "S"
  k_extra "ld:pre"
  k_extra "ld:exset"
  k_extra "ld:swinit"
  k_extra "ld:tellx"
  k_extra "ld:massign"
  k_extra "ld:bytes"
  k_extra "ld:be"
  k_extra "ld:bits"
  k_extra "ld:item"
  k_extra "ld:role"
  k_extra "ld:tocts"
  trivial
section
/- octets of a tail's wrong size or first octet are refused -/
theorem tail_bad {w : World} {b : Array UInt8} {ks : List Int} (hb : KBw.bInts b = ks) (h1 : 1 ≤ ks.length) (hz : ks.length ≤ 1000) (hbad : ks.length < 64 ∨ ((ks.length : Int) - 64) % 16 ≠ 0 ∨ ks.head? ≠ some 0) (t : Tok) : TellX w (.ref 352) [.bytes b t] 60 1200 [] 51 := by
  cases ks with
  | nil => simp at h1
  | cons y r =>
    have key : ¬ (64 ≤ (y :: r).length ∧ (((y :: r).length : Int) - 64).fmod 16 = 0 ∧ y = 0) := fun ⟨g1, g2, g3⟩ => by
      rw [Int.fmod_eq_emod_of_nonneg _ (by decide)] at g2
      rcases hbad with h | h | h
      · lia
      · exact h g2
      · exact h (by rw [g3]; rfl)
    exact (c_rtail0 w b t (y :: r) y [] 0 0 0 0 0 0 0 0 0 0 0 0 0 [] hb hz rfl fun g1 g2 g3 => absurd ⟨g1, g2, g3⟩ key).bad fun g => key ⟨g.1, g.2.1, g.2.2.1⟩
/- rows that do not rise are refused -/
theorem tail_unrisen {w : World} {b : Array UInt8} {cost bp mac hops : Int} {Ds : List RowD} (hb : KBw.bInts b = tailO cost bp mac hops Ds) (ok : ∀ D ∈ Ds, RowOk D) (few : Ds.length ≤ 4) (hs : ¬ (Ds.map fun D => D.inst).Pairwise (fun p q : Int => p < q)) (t : Tok) : TellX w (.ref 352) [.bytes b t] 60 1200 [] 51 :=
  (c_rtail0 w b t (tailO cost bp mac hops Ds) 0 Ds _ _ _ _ _ _ _ _ _ _ _ _ hops tailReg hb (by rw [tailO_len]; lia) rfl (fun _ _ _ => tail_is ok few)).bad fun g => hs g.2.2.2
theorem tailO_more (cost bp mac hops : Int) (Ds : List RowD) (D : RowD) : tailO cost bp mac hops Ds ++ rowOcts D = tailO cost bp mac hops (Ds ++ [D]) := by
  unfold tailO
  rw [List.map_append, List.flatten_append, List.append_assoc]
  simp
section
variable {w : World} {b : Array UInt8} {cost bp mac hops : Int} {Ds : List RowD} {X : List Int}
theorem clip_neg : ∀ {n : Nat}, 1 ≤ n → clipAt n (-1) = n - 1
  | k + 1, _ => by
    show (max (0 : Int) (min (-1 + ((k : Int) + 1)) ((k : Int) + 1))).toNat = k
    rw [Int.add_comm (k : Int) 1, Int.neg_add_cancel_left, Int.min_eq_left (Int.le_add_of_nonneg_left (by decide)), Int.max_eq_right (Int.natCast_nonneg k)]
    rfl
theorem bad_a (hb : KBw.bInts b = List.take (clipAt (tailO cost bp mac hops Ds).length (-1) - 0) (List.drop 0 (tailO cost bp mac hops Ds))) (hl : Ds.length ≤ 4) (t : Tok) : TellX w (.ref 352) [.bytes b t] 60 1200 [] 51 := by
  have e : clipAt (tailO cost bp mac hops Ds).length (-1) = 63 + 16 * Ds.length := by
    rw [tailO_len, clip_neg (by lia)]
    lia
  rw [e, Nat.sub_zero, List.drop_zero] at hb
  have hn : (List.take (63 + 16 * Ds.length) (tailO cost bp mac hops Ds)).length = 63 + 16 * Ds.length := by rw [List.length_take, tailO_len]; lia
  exact tail_bad hb (by lia) (by lia) (by
    rw [hn]
    rcases Nat.eq_zero_or_pos Ds.length with h | h
    · exact .inl (by lia)
    · exact .inr (.inl (by lia))) t
theorem bad_b (hb : KBw.bInts b = tailO cost bp mac hops Ds ++ List.replicate (Int.toNat 15) 0) (hl : Ds.length ≤ 4) (t : Tok) : TellX w (.ref 352) [.bytes b t] 60 1200 [] 51 := by
  have hn : (tailO cost bp mac hops Ds ++ List.replicate (Int.toNat 15) 0).length = 79 + 16 * Ds.length := by
    rw [List.length_append, tailO_len, List.length_replicate]
    have : Int.toNat 15 = 15 := rfl
    lia
  exact tail_bad hb (by lia) (by lia) (.inr (.inl (by rw [hn]; lia))) t
theorem bad_c (hb : KBw.bInts b = [1] ++ X) (hl : X.length ≤ 900) (t : Tok) : TellX w (.ref 352) [.bytes b t] 60 1200 [] 51 :=
  tail_bad hb (by simp) (by simp; lia) (.inr (.inr (by simp))) t
theorem bad_d (hb : KBw.bInts b = List.take (clipAt (tailO cost bp mac hops Ds).length 40 - 0) (List.drop 0 (tailO cost bp mac hops Ds))) (hl : Ds.length ≤ 4) (t : Tok) : TellX w (.ref 352) [.bytes b t] 60 1200 [] 51 := by
  have e : clipAt (tailO cost bp mac hops Ds).length 40 = 40 := by
    have e2 : (40 : Int) = ((40 : Nat) : Int) := rfl
    rw [e2, tailO_len, clip_nat _ _ (by lia)]
  rw [e, Nat.sub_zero, List.drop_zero] at hb
  have hn : (List.take 40 (tailO cost bp mac hops Ds)).length = 40 := by rw [List.length_take, tailO_len]; lia
  exact tail_bad hb (by lia) (by lia) (.inl (by lia)) t
end
end
theorem lines_p53flamrt : True := by
  w_top off
  k_extra "S"
  k_extra "ld:pre"
  k_extra "ld:exset"
  k_extra "ld:swinit"
  k_extra "ld:tellx"
  k_extra "ld:enters"
  k_extra "ld:massign"
  k_extra "ld:o_lamrt"
  trivial
section
noncomputable abbrev args0 : Arguments := { posonlyargs := [], args := [], vararg := none, kwonlyargs := [], kw_defaults := [], kwarg := none, defaults := [] }
noncomputable abbrev lamScope (x g : Str) : Scope := { kind := ScopeKind.function, names := [(x, NameKind.free), (g, NameKind.globalImplicit)], isGenerator := false, isCoroutine := false }
section
variable {prog : Program} {w : World} {A A₀ : Around} {s : Shared} {K : Frag} {L : Addr} {h₀ base : Heap} {m mg mb : Str → Option Value} {news : List (Addr × Obj)} {p : Program} {loose : List Str} {mean : ExcName → Option Value}
/- a lambda of the ledger is entered; what stands outside the ledger is said to stay -/
theorem enterL {env : Env} {outer : List Env} {R : Result → Shared → Prop} {name qual : Str} {params : Arguments} {body : Expr} {scope : Scope} {cl : List (Str × Addr)} {pm ctv : Value} {c' f : Addr} {args : Args} {binds : List (Str × Value)}
    (B : Below A₀ base outer h₀) (F : Fr h₀ L s.heap m) (X₀ : K.In h₀) (N : News h₀ L s.heap news) (T : Top p loose mean mg mb h₀) (hA : A.frames = some (env :: outer)) (hf : env.frame = some L) (hke : env.scope.kind = .function)
    (ho : (f, kla_obj name qual params body scope cl pm c' ctv) ∈ news) (hcd : s.heap.CodeRec (.ref c') qual) (hroom : A.depth < recursionLimit)
    (hbind : bindArgs (kla_fn name qual params body scope cl pm (.ref c') ctv) args = pure binds) (hloc : ∀ y ∈ binds, scope.names.lookup y.1 = some .local)
    (h : ∀ g L' h₁, Hid s.heap news g → Fr h₀ L g m → Fr g L' h₁ (fun y => binds.reverse.lookup y) → News g L' h₁ news → Below A base (env :: outer) g → K.In g → Top p loose mean mg mb g →
      wpAny (model prog w) (A.deeper (envX qual scope L' f (.ref c') cl)) (eval body (envX qual scope L' f (.ref c') cl)) (fun v s' => LeaveK h₀ L m g R v s')
        (fun e s' => wpAny (model prog w) (A.deeper (envX qual scope L' f (.ref c') cl)) (leaving (envX qual scope L' f (.ref c') cl) e) (fun _ s'' => R (.error e) s'') (fun e' s'' => R (.error e') s'') s') { s with heap := h₁, toks := s.toks + binds.length })
    (hco : scope.isCoroutine = false) (hgen : scope.isGenerator = false) (hk : scope.kind = .function) (hcell : ∀ x ∈ scope.names, x.2 ≠ .cell) : codeAny (model prog w) A (.call (.ref f) args) R s := by
  obtain ⟨G, BG, st, back⟩ := groundX (R := R) B F N hA hf hke
  have lt : ∀ q ∈ news, q.1 < s.heap.objs.size := fun q hq => Heap.lt_size (N q hq).1
  refine kla_callFunE hroom (N _ ho).1 rfl hco hgen rfl hcd (hbind ▸ wpAny_pure (wpAny_newFunctionEnv hcell hloc (fun h₁ ns sb => ⟨(T.nolimit.keeps F.keep).fresh _ sb, kla_codeExpr ?_⟩) hk))
  have keep : ∀ b o, s.heap.get? b = some o → h₁.get? b = some o := fun b o e => sb.extBut b o (Nat.ne_of_lt (Heap.lt_size e)) (Heap.get?_push_of_some _ e)
  refine wpAny_mono (h _ _ h₁ (fun b o e hb => hideAll_get _ e hb) G ⟨ns, fun b o e => keep b o (of_hideAll _ e), Nat.le_of_eq (hideAll_size _ _)⟩ (fun q hq => ?_) BG (X₀.keeps st) (T.keeps st)) (fun v s' z => back _ _ z) fun _ _ z => z
  exact ⟨keep _ _ (N q hq).1, Nat.ne_of_lt (lt q hq), hideAll_none _ (List.mem_map_of_mem hq)⟩
end
set_option maxHeartbeats 8000000 in
theorem c_lamrt (w : World) (name qual : Str) (p1 p2 p3 : Pos) (pm ctv : Value) (f c' K : Addr) (oc oK : Obj) (vs : Array Value) (tq : Tok) (b : Array UInt8) (t : Tok) (hX : TellX w (.ref 352) [.bytes b t] 60 1200 [] 51) (h1 : oc.data = .fields vs) (h2 : vs[1]? = some (.str qual tq)) (h3 : oK.data = .cell (some (.bytes b t))) :
    TellX w (.ref f) [] 70 1400 [(f, kla_obj name qual args0 (.Call (.Name (Str.ofString "read_tree_tail") p1) [.Name (Str.ofString "odd") p2] [] p3) (lamScope (Str.ofString "odd") (Str.ofString "read_tree_tail")) [(Str.ofString "odd", K)] pm c' ctv), (c', oc), (K, oK)] 51 := by
  unfold TellX
  intro mean mg mb dp un gd cn cs a ccd cl outer A₀ base h₀ L m s Q E B F X N T hk hd hu hret
  refine wpAny_call ?_
  refine' enterL ?k1 ?k2 ?k3 ?k4 ?k5 ?kA ?kF ?kK ?k6 ?k7 ?k8 ?k9 ?kB ?_ ?c2 ?c3 ?c4 ?c5; (case kA => exact rfl); (case kF => exact rfl); (case kK => exact hk); (case k1 => k_asm); (case k2 => k_asm); (case k3 => k_asm); (case k4 => k_asm); (case k5 => k_asm); (case k6 => k_mem); (case k7 => exact codeRec_news (by k_asm) (by k_mem) (by assumption) (by assumption)); (case k8 => ktr_room); (case k9 => exact rfl); (case c5 => decide); (case kB => exact locs rfl); (case c2 => exact rfl); (case c3 => exact rfl); (case c4 => exact rfl); k_whole; intro g' L' h' H' FG' F' N' B' X' T'; (try dsimp only); (try k_lift B'); (try k_extra "m:fold")
  k_steps
  all_goals exact finx_ hret (by k_asm) (by k_asm) (by k_asm) (by k_asm) (by repeat' (first | exact Sub.refl | refine' Sub.keep ?_ | refine' Sub.skip ?_ | exact Sub.nil))
end
theorem lines_p54tails3 : True := by
  w_top off
  k_extra "S"
  k_extra "ld:pre"
  k_extra "ld:exset"
  k_extra "ld:swinit"
  k_extra "ld:tellx"
  k_extra "ld:enters"
  k_extra "ld:take"
  k_extra "ld:one"
  k_extra "ld:massign"
  k_extra "ld:bytes"
  k_extra "ld:be"
  k_extra "ld:bits"
  k_extra "ld:item"
  k_extra "ld:fold"
  k_extra "ld:cls"
  k_extra "ld:four"
  k_extra "ld:num"
  k_extra "ld:bridge"
  k_extra "ld:lbridge"
  k_extra "ld:onum"
  k_extra "ld:rbridge"
  k_extra "ld:role"
  k_extra "ld:rrow"
  k_extra "ld:sum"
  k_extra "ld:rocts"
  k_extra "ld:lrow"
  k_extra "ld:sorted"
  k_extra "ld:rdef"
  k_extra "ld:text"
  k_extra "ld:lookd"
  k_extra "ld:bstr"
  k_extra "ld:lenb"
  k_extra "ld:eqs"
  k_extra "ld:lists"
  k_extra "ld:told8"
  k_extra "ld:vector"
  k_extra "ld:bjoin"
  k_extra "ld:tocts"
  k_extra "ld:lam"
  k_extra "ld:o_tails3"
  trivial
section
noncomputable def tailsStmts (w : World) (n : Nat) : List Stmt := match (Mine.hd.heap_39 w.params).lookup 417 with
  | some ⟨_, _, .func fd, _⟩ => (match fd.body with | .stmts b => b.drop n | _ => [])
  | _ => []
noncomputable def tailsScope (w : World) (sc0 : Scope) : Scope := match (Mine.hd.heap_39 w.params).lookup 417 with
  | some ⟨_, _, .func fd, _⟩ => fd.scope
  | _ => sc0
theorem aps_lt3 {D C K : Addr} {news : List (Addr × Obj)} (h : ∀ p ∈ news, p.1 < D) (l : @LT.lt Nat _ D C) (l2 : @LT.lt Nat _ C K) : Aps K (C :: D :: news.map (·.1)) := .c (Nat.ne_of_lt l2) (.c (Nat.ne_of_lt (Nat.lt_trans l l2)) (.of fun p hp => Nat.ne_of_lt (Nat.lt_trans (Nat.lt_trans (h p hp) l) l2)))
/- the law of the walk over the odds: none is left in; the lambda's code is made once -/
inductive JT3b (C D I K lo : Addr) (oL oK : Obj) (R : List (Addr × Obj)) (env : Env) (T : List (Addr × Obj)) : Prop
  | mk : ∀ (c' : Addr) (oc' : Obj) (ws : Array Value) (t : Tok), (oc'.data = .fields ws) → (ws[1]? = some (.str (env.qual ++ Str.ofString "<lambda>") t)) → (Aps c' [C, D, I, K]) → (T = (K, oK) :: (lo, oL) :: (414, tabObj (#[] ++ #[rawInt ↑276, rawInt ↑52, Value.ref c'])) :: (c', oc') :: R) → JT3b C D I K lo oL oK R env T
inductive JT3 (C D I K lo : Addr) (oL : Obj) (R : List (Addr × Obj)) (env : Env) (i : Nat) (vs : List Value) (T : List (Addr × Obj)) : Prop
  | mk : (vs = []) → ∀ (oK : Obj) (v0 : Option Value), (oK.data = .cell v0) → (((i = 0 ∧ T = (K, oK) :: (lo, oL) :: (414, tabObj #[]) :: R) ∨ JT3b C D I K lo oL oK R env T)) → JT3 C D I K lo oL R env i vs T
theorem swapK {k c d i : Addr × Obj} {T : List (Addr × Obj)} : ∀ p ∈ c :: d :: i :: k :: T, p ∈ k :: c :: d :: i :: T := by
  repeat' (first | exact List.forall_mem_nil _ | refine' subc (by ((repeat' (first | exact List.mem_cons_self | refine List.mem_cons_of_mem _ ?_)); done)) ?_ | exact (fun p hp => by ((repeat' (first | exact hp | refine List.mem_cons_of_mem _ ?_)); done)))
set_option maxHeartbeats 8000000 in
theorem c_tails3 (w : World) (sc0 : Scope) {st : List Stmt} {sc : Scope} (hst : st = tailsStmts w 10) (hsc : sc = tailsScope w sc0) (lo : Addr) (vs : List Value) (ko : Nat) (R : List (Addr × Obj)) (hvl : vs.length ≤ 5)
    (hvs : ∀ v ∈ vs, ∃ b t, v = .bytes b t ∧ ∀ t, TellX w (.ref 352) [.bytes b t] 60 1200 [] 51) (f6 : ∀ p ∈ R, p.1 ≠ 414) (h4o : @LT.lt Nat _ 414 lo)
    {mean : ExcName → Option Value} {mg mb m0 : Str → Option Value} {dp un : Nat} {gd : Option (List Code)} {outer : List Env} {A₀ : Around} {base h₀ : Heap} {L : Addr} {s : Shared} {E : Value → Shared → Prop}
    (B : Below A₀ base outer h₀) (F : Fr h₀ L s.heap (fun y => if y = Str.ofString "odds" then some (.ref lo) else m0 y)) (X : (Mine.hd.heap_39 w.params).In h₀) (N : News h₀ L s.heap ((lo, listOf vs.toArray ko) :: (414, tabObj #[]) :: R)) (T : Top topProg loose mean mg mb h₀) (h4L : @LT.lt Nat _ 414 L) (XB : (Mine.hd.heap_39 w.params).In base) (TB : Top topProg loose mean mg mb base) (CH : CodeHd base 416 414) (T0 : KtsTurn (outer.filterMap (·.frame)) h₀ h₀) (hd : dp + 130 < recursionLimit) (hu : un + 3800 < cLine) (hE : PassesOwn (model PySem.Challenge.pw_pc0377_01 w) (ktrTop dp un gd (Str.ofString "_law_tails_right") sc L 417 (.ref 416) [(Str.ofString "source", L + 1)] outer) (envX (Str.ofString "_law_tails_right") sc L 417 (.ref 416) [(Str.ofString "source", L + 1)]) E) {QF : Flow → Shared → Prop}
    (hret : ∀ h' tk g' m' ps, KtsTurn (outer.filterMap (·.frame)) h₀ g' → Fr g' L h' m' → News g' L h' ((414, tabObj ps) :: R) → QF (.ret (.bool true)) { s with heap := h', toks := tk }) :
    wpAny (model PySem.Challenge.pw_pc0377_01 w) (ktrTop dp un gd (Str.ofString "_law_tails_right") sc L 417 (.ref 416) [(Str.ofString "source", L + 1)] outer) (execs st (envX (Str.ofString "_law_tails_right") sc L 417 (.ref 416) [(Str.ofString "source", L + 1)])) QF E s := by
  conv at hst => rhs; whnf
  conv at hsc => rhs; whnf
  subst hst hsc
  refine foldA ?_
  intro A1'
  k_steps
  refine Dbg.mk ?_
  refine letML ?_
  intro sM
  refine' mind_Q (G := fun g => Below A₀ base outer g ∧ (Mine.hd.heap_39 w.params).In g ∧ Top topProg loose mean mg mb g ∧ KtsTurn (outer.filterMap (·.frame)) h₀ g) ⟨B, X, T, T0⟩ ?hh ?S ?hn ?F (News.sub N' swapK) ?hC ?a1 ?a2 ?a3 (JT3 C' D' I' K' lo _ R) ⟨rfl, _, _, k', .inl ⟨rfl, rfl⟩⟩ ?hJ ?turn ?fin
  case hh => exact rfl
  case S => assumption
  case hn => (rw [List.size_toArray]; lia)
  case F => k_asm
  case hC => assumption
  case a1 => k_ne
  case a2 => k_ne
  case a3 => k_ne
  case hJ =>
    rintro i vs9 T ⟨rfl, oK, v0, hK, ⟨rfl, rfl⟩ | ⟨c9, oc9, ws9, t9, hw1, hw2, hap, rfl⟩⟩
    · exact ⟨fun g h _ F N => srcIn_news N (.tail _ (.head _)), by k_all, by k_all, by k_all⟩
    · exact ⟨fun g h _ F N => srcIn_news N (.tail _ (.head _)), by k_all, by k_all, by k_all⟩
  case turn =>
    intro i v vs9 T k9 g h tk oC' oI' mC E' hi hv hj hl S1 hG F1 N1 hC1
    obtain ⟨B1, X1, T1, T01⟩ := hG
    obtain ⟨b, t, rfl, hx⟩ := hvs v (by rw [List.getElem?_toArray] at hv; exact List.mem_of_getElem? hv)
    obtain ⟨rfl, oK1, v01, hK1, hc⟩ := hj
    rcases hc with ⟨rfl, rfl⟩ | ⟨c9, oc9, ws9, t9, hw1, hw2, hap, rfl⟩
    · k_steps
      all_goals exact ⟨_, _, _, _, _, _, rfl, ⟨by assumption, by assumption, by assumption, by assumption⟩, by k_asm, News.sub (by k_asm) (subc (by k_mem) (subc (by k_mem) (subc (by k_mem) (subc (by k_mem) (subc (by k_mem) (subc (by k_mem) (subc (by k_mem) fun p hp => by (repeat' (first | exact hp | refine List.mem_cons_of_mem _ ?_))))))))), by assumption, rfl, _, _, by assumption, .inr ⟨_, _, _, _, by assumption, by assumption, Aps.c (by k_ne) (Aps.c (by k_ne) (Aps.c (by k_ne) (Aps.c (by k_ne) Aps.n))), rfl⟩⟩
    · k_steps
      all_goals exact ⟨_, _, _, _, _, _, rfl, ⟨by assumption, by assumption, by assumption, by assumption⟩, by k_asm, News.sub (by k_asm) (subc (by k_mem) (subc (by k_mem) (subc (by k_mem) (subc (by k_mem) (subc (by k_mem) (subc (by k_mem) (subc (by k_mem) fun p hp => by (repeat' (first | exact hp | refine List.mem_cons_of_mem _ ?_))))))))), by assumption, rfl, _, _, by assumption, .inr ⟨_, _, _, _, by assumption, by assumption, hap, rfl⟩⟩
  case fin =>
    intro g h tk oC' mC vs9 k9 T hG F' N' hC hj hl
    obtain ⟨B1, X1, T1, T01⟩ := hG
    obtain ⟨rfl, oK1, v01, hK1, hc⟩ := hj
    rcases hc with ⟨h09, rfl⟩ | ⟨c9, oc9, ws9, t9, hw1, hw2, hap, rfl⟩
    · k_steps
      all_goals exact hret _ _ _ _ _ (by assumption) (by k_asm) (News.sub (by k_asm) (subc (by k_mem) fun p hp => by (repeat' (first | exact hp | refine List.mem_cons_of_mem _ ?_))))
    · k_steps
      all_goals exact hret _ _ _ _ _ (by assumption) (by k_asm) (News.sub (by k_asm) (subc (by k_mem) fun p hp => by (repeat' (first | exact hp | refine List.mem_cons_of_mem _ ?_))))
end
theorem lines_p55tails2 : True := by
  w_top off
  k_extra "S"
  k_extra "ld:pre"
  k_extra "ld:exset"
  k_extra "ld:swinit"
  k_extra "ld:tellx"
  k_extra "ld:enters"
  k_extra "ld:take"
  k_extra "ld:one"
  k_extra "ld:massign"
  k_extra "ld:bytes"
  k_extra "ld:be"
  k_extra "ld:bits"
  k_extra "ld:item"
  k_extra "ld:fold"
  k_extra "ld:cls"
  k_extra "ld:four"
  k_extra "ld:num"
  k_extra "ld:bridge"
  k_extra "ld:lbridge"
  k_extra "ld:onum"
  k_extra "ld:rbridge"
  k_extra "ld:role"
  k_extra "ld:rrow"
  k_extra "ld:sum"
  k_extra "ld:rocts"
  k_extra "ld:lrow"
  k_extra "ld:sorted"
  k_extra "ld:rdef"
  k_extra "ld:text"
  k_extra "ld:lookd"
  k_extra "ld:bstr"
  k_extra "ld:lenb"
  k_extra "ld:eqs"
  k_extra "ld:lists"
  k_extra "ld:told8"
  k_extra "ld:vector"
  k_extra "ld:bjoin"
  k_extra "ld:tocts"
  k_extra "ld:lam"
  k_extra "ld:o_tails2"
  trivial
section
theorem item_pair0 {prog : Program} {w : World} {A : Around} {E : Value → Shared → Prop} {s : Shared} {value slice : Expr} {l : Addr} {P0 : PairE} {Pr : List PairE} {u : Tok} {Q : Value → Shared → Prop} (hl : s.heap.IsList l (pairRefs (P0 :: Pr)).toArray) (h : Q (.ref P0.p) s)
    (hs : subscripted slice false (.ref l) (.int 0 u) = operate [.ref l, .int 0 u] (getItem (.ref l) (.int 0 u)) := by with_unfolding_all rfl) (hg : ∀ r, letTemporaryGo value (.ref l) r = pure () := by intro _; with_unfolding_all rfl) :
    wpAny (model prog w) A (subscriptTail value slice (.ref l) (.int 0 u)) Q E s := PyProof.Rows.item_list hl (by decide) (by decide) rfl h hs hg
set_option maxHeartbeats 8000000 in
theorem c_tails2 (w : World) (sc0 : Scope) {st : List Stmt} {sc : Scope} (hst : st = tailsStmts w 7) (hsc : sc = tailsScope w sc0) (src l lp : Addr) (o1 o2 oK : Obj) (R : List (Addr × Obj)) (Ps : List PairE) (kp : Nat) (due : Array UInt8) (td : Tok) (cost bp mac hops : Int) (td2 : Tok) (vt vb vr vc vh vn : Value)
    (hPl : Ps.length ≤ 3) (hok : ∀ P ∈ Ps, P.Ok w) (hRp : ∀ p ∈ pairsLed w Ps, p ∈ R) (f6 : ∀ p ∈ R, p.1 ≠ 414) (h4s : @LT.lt Nat _ 414 src) (h4l : @LT.lt Nat _ 414 l) (h4p : @LT.lt Nat _ 414 lp)
    (hst9 : (List.map (fun D => D.inst) (List.map (fun e : RowE => e.D) (pairRows Ps))).Pairwise (fun p q : Int => p < q)) (hdue : KBw.bInts due = tailO cost bp mac hops (List.map (fun e : RowE => e.D) (pairRows Ps)))
    {mean : ExcName → Option Value} {mg mb : Str → Option Value} {dp un : Nat} {gd : Option (List Code)} {outer : List Env} {A₀ : Around} {base h₀ : Heap} {L : Addr} {m : Str → Option Value} {s : Shared} {Q E : Value → Shared → Prop}
    (B : Below A₀ base outer h₀) (F : Fr h₀ L s.heap (fun y => if y = Str.ofString "due" then some (.bytes due td) else if y = Str.ofString "tail" then some vt else if y = Str.ofString "bridge" then some vb else if y = Str.ofString "region" then some vr else if y = Str.ofString "cost" then some vc else if y = Str.ofString "hops" then some vh else if y = Str.ofString "pairs" then some (.ref lp) else if y = Str.ofString "numbers" then some vn else none)) (X : (Mine.hd.heap_39 w.params).In h₀) (N : News h₀ L s.heap ((src, o1) :: (l, o2) :: (lp, listOf (pairRefs Ps).toArray kp) :: (L + 1, oK) :: (414, tabObj #[]) :: R)) (T : Top topProg loose mean mg mb h₀) (h4L : @LT.lt Nat _ 414 L) (XB : (Mine.hd.heap_39 w.params).In base) (TB : Top topProg loose mean mg mb base) (CH : CodeHd base 416 414) (hd : dp + 130 < recursionLimit) (hu : un + 3800 < cLine) (hE : PassesOwn (model PySem.Challenge.pw_pc0377_01 w) (ktrTop dp un gd (Str.ofString "_law_tails_right") sc L 417 (.ref 416) [(Str.ofString "source", L + 1)] outer) (envX (Str.ofString "_law_tails_right") sc L 417 (.ref 416) [(Str.ofString "source", L + 1)]) E) {QF : Flow → Shared → Prop}
    (hret : ∀ h' tk g' m' ps, KtsTurn (outer.filterMap (·.frame)) h₀ g' → Fr g' L h' m' → News g' L h' ((src, o1) :: (l, o2) :: (414, tabObj ps) :: R) → QF (.ret (.bool true)) { s with heap := h', toks := tk }) :
    wpAny (model PySem.Challenge.pw_pc0377_01 w) (ktrTop dp un gd (Str.ofString "_law_tails_right") sc L 417 (.ref 416) [(Str.ofString "source", L + 1)] outer) (execs st (envX (Str.ofString "_law_tails_right") sc L 417 (.ref 416) [(Str.ofString "source", L + 1)])) QF E s := by
  conv at hst => rhs; whnf
  conv at hsc => rhs; whnf
  subst hst hsc
  refine foldA ?_
  intro A1'
  refine letN2 N ?_
  clear N
  intro oB2 N
  refine letN4 N ?_
  clear N
  intro oB4 N
  have T0 : KtsTurn (outer.filterMap (·.frame)) h₀ h₀ := KtsTurn.refl
  k_steps
  refine Dbg.mk ?_
  refine' for_pairs (Ps := Ps) (x1 := Str.ofString "told") (x2 := Str.ofString "octets") (x3 := Str.ofString "row") ?hh ?F ?N ?m ?step ?done
  case hh => exact rfl
  case F => k_asm
  case N => k_asm
  case m => k_mem
  case step =>
    intro P a9 b9 c9 s1 I oI hPm F1 N1 l1
    have hPr : P.e ∈ pairRows Ps := List.mem_map_of_mem hPm
    have mp := hRp _ (pairsLed_p (w := w) hPm)
    have mx := hRp _ (pairsLed_rows _ (rowsLed_x (w := w) hPr))
    have md := hRp _ (pairsLed_rows _ (rowsLed_d (w := w) hPr))
    have mq := hRp _ (pairsLed_rows _ (rowsLed_q (w := w) hPr))
    k_steps
    all_goals exact tend_ (by k_asm) (fun y e1 e2 e3 => by simp only [e1, e2, e3, if_false]) (by k_asm) (fun p hp => by (repeat' (first | exact hp | refine List.mem_cons_of_mem _ ?_)))
  case done =>
    intro a9 b9 c9 h' tk F' N'
    have hdl := tailO_len cost bp mac hops (List.map (fun e : RowE => e.D) (pairRows Ps))
    rw [List.length_map, List.length_map] at hdl
    k_steps
    refine Dbg.mk ?_
    have hDl : (List.map (fun e : RowE => e.D) (pairRows Ps)).length ≤ 4 := by rw [List.length_map, List.length_map]; lia
    have x1 : ∀ t, TellX w (.ref 352) [.bytes (KBy.picked due none (some (-1))) t] 60 1200 [] 51 := bad_a (by with_reducible assumption) hDl
    have x2 := fun t => bad_b (w := w) (cost := cost) (bp := bp) (mac := mac) (hops := hops) (by with_reducible assumption) hDl t
    have x3 := fun t => bad_c (w := w) (by with_reducible assumption) (by rw [List.length_take]; lia) t
    have x4 : ∀ t, TellX w (.ref 352) [.bytes (KBy.picked due none (some 40)) t] 60 1200 [] 51 := bad_d (by with_reducible assumption) hDl
    cases Ps with
    | nil =>
      k_steps
      refine Dbg.mk ?_
      refine' c_tails3 w default ?qst ?qsc _ _ _ ((src, o1) :: (l, o2) :: R) ?qvl ?qvs ?qf6 ?q4o ?qB ?qF ?qX ?qN ?qT ?q4L ?qXB ?qTB ?qCH ?qT0 ?qd ?qu ?qE ?qret
      case qB => k_asm
      case qF => k_asm
      case qN => exact News.sub (by k_asm) (subc (by k_mem) (subc (by k_mem) (subc (by k_mem) (subc (by k_mem) fun p hp => by (repeat' (first | exact hp | refine List.mem_cons_of_mem _ ?_))))))
      case qX => k_asm
      case qT => k_asm
      case qst => exact rfl
      case qsc => exact rfl
      case qvl => exact Nat.le_of_ble_eq_true rfl
      case qf6 => k_all
      case q4o => lia
      case q4L => assumption
      case qXB => assumption
      case qTB => assumption
      case qCH => assumption
      case qT0 => assumption
      case qd => assumption
      case qu => assumption
      case qE => first | assumption | passes_own
      case qvs =>
        repeat' (first | exact List.forall_mem_nil _ | refine' List.forall_mem_cons.mpr ⟨⟨_, _, rfl, ?_⟩, ?_⟩)
        all_goals first | (with_reducible assumption) | (intro t; refine' (?hx9 : ∀ b : Array UInt8, KBw.bInts b = _ → ∀ t, TellX _ _ [Value.bytes b t] _ _ _ _) _ ?hx8 _; (case hx9 => with_reducible assumption); (case hx8 => with_reducible assumption))
      case qret =>
        intro h' tk g' m' ps t f n
        exact hret _ _ _ _ _ t f (News.sub n (subc (.tail _ (.head _)) (subc (.tail _ (.tail _ (.head _))) (subc (.head _) fun p hp => .tail _ (.tail _ (.tail _ hp))))))
    | cons P0 Pr =>
      have hP0 := hok P0 (.head _)
      have hb0 := hP0.oct
      have hr0 := rowOcts_len P0.e.D
      have x5 : ∀ b : Array UInt8, KBw.bInts b = tailO cost bp mac hops (List.map (fun e : RowE => e.D) (pairRows (P0 :: Pr))) ++ rowOcts P0.e.D → ∀ t, TellX w (.ref 352) [.bytes b t] 60 1200 [] 51 := fun b hb t => by
        rw [tailO_more] at hb
        refine tail_unrisen hb (fun D hD => ?_) ?_ (fun hs => ?_) t
        · rcases List.mem_append.mp hD with h | h
          · obtain ⟨e, he, rfl⟩ := List.mem_map.mp h
            obtain ⟨P, hP, rfl⟩ := List.mem_map.mp he
            exact (hok P hP).ok.ok
          · rw [List.mem_singleton.mp h]; exact hP0.ok.ok
        · simp only [List.length_append, List.length_map, List.length_cons, List.length_nil] at hPl ⊢
          lia
        · have h2 := (List.pairwise_append.mp (by rw [List.map_append] at hs; exact hs)).2.2 P0.e.D.inst (.head _) P0.e.D.inst (.head _)
          exact absurd h2 (Int.lt_irrefl _)
      have mp := hRp _ (pairsLed_p (w := w) (List.mem_cons_self (a := P0) (l := Pr)))
      k_steps
      refine Dbg.mk ?_
      refine' c_tails3 w default ?qst ?qsc _ _ _ ((src, o1) :: (l, o2) :: R) ?qvl ?qvs ?qf6 ?q4o ?qB ?qF ?qX ?qN ?qT ?q4L ?qXB ?qTB ?qCH ?qT0 ?qd ?qu ?qE ?qret
      case qB => k_asm
      case qF => k_asm
      case qN => exact News.sub (by k_asm) (subc (by k_mem) (subc (by k_mem) (subc (by k_mem) (subc (by k_mem) fun p hp => by (repeat' (first | exact hp | refine List.mem_cons_of_mem _ ?_))))))
      case qX => k_asm
      case qT => k_asm
      case qst => exact rfl
      case qsc => exact rfl
      case qvl => exact Nat.le_of_ble_eq_true rfl
      case qf6 => k_all
      case q4o => lia
      case q4L => assumption
      case qXB => assumption
      case qTB => assumption
      case qCH => assumption
      case qT0 => assumption
      case qd => assumption
      case qu => assumption
      case qE => first | assumption | passes_own
      case qvs =>
        repeat' (first | exact List.forall_mem_nil _ | refine' List.forall_mem_cons.mpr ⟨⟨_, _, rfl, ?_⟩, ?_⟩)
        all_goals first | (with_reducible assumption) | (intro t; refine' (?hx9 : ∀ b : Array UInt8, KBw.bInts b = _ → ∀ t, TellX _ _ [Value.bytes b t] _ _ _ _) _ ?hx8 _; (case hx9 => with_reducible assumption); (case hx8 => with_reducible assumption))
      case qret =>
        intro h' tk g' m' ps t f n
        exact hret _ _ _ _ _ t f (News.sub n (subc (.tail _ (.head _)) (subc (.tail _ (.tail _ (.head _))) (subc (.head _) fun p hp => .tail _ (.tail _ (.tail _ hp))))))
end
theorem lines_p55btailsC : True := by
  w_top off
  k_extra "S"
  k_extra "ld:pre"
  k_extra "ld:exset"
  k_extra "ld:swinit"
  k_extra "ld:tellx"
  k_extra "ld:enters"
  k_extra "ld:take"
  k_extra "ld:one"
  k_extra "ld:massign"
  k_extra "ld:bytes"
  k_extra "ld:be"
  k_extra "ld:bits"
  k_extra "ld:item"
  k_extra "ld:cls"
  k_extra "ld:four"
  k_extra "ld:num"
  k_extra "ld:bridge"
  k_extra "ld:lbridge"
  k_extra "ld:onum"
  k_extra "ld:rbridge"
  k_extra "ld:role"
  k_extra "ld:rrow"
  k_extra "ld:sum"
  k_extra "ld:rocts"
  k_extra "ld:lrow"
  k_extra "ld:sorted"
  k_extra "ld:rdef"
  k_extra "ld:text"
  k_extra "ld:lookd"
  k_extra "ld:bstr"
  k_extra "ld:lenb"
  k_extra "ld:eqs"
  k_extra "ld:lists"
  k_extra "ld:told8"
  k_extra "ld:vector"
  k_extra "ld:bjoin"
  k_extra "ld:tocts"
  k_extra "ld:lam"
  k_extra "ld:o_tailsC"
  trivial
section
set_option maxHeartbeats 8000000 in
theorem c_tailsC (w : World) (sc0 : Scope) {st : List Stmt} {sc : Scope} (hst : st = tailsStmts w 6) (hsc : sc = tailsScope w sc0) (src l lp x dx rl br : Addr) (o1 o2 oK : Obj) (R : List (Addr × Obj)) (Ps : List PairE) (kp kr nb : Nat) (rb due : Array UInt8) (tr td tc th u1 u2 : Tok) (cost bp mac hops : Int) (τ : Nat → Tok) (vn : Value)
    (hPl : Ps.length ≤ 3) (hok : ∀ P ∈ Ps, P.Ok w) (hRp : ∀ p ∈ pairsLed w Ps, p ∈ R) (f6 : ∀ p ∈ R, p.1 ≠ 414) (h4s : @LT.lt Nat _ 414 src) (h4l : @LT.lt Nat _ 414 l) (h4p : @LT.lt Nat _ 414 lp)
    (hrb : KBw.bInts rb = tailReg) (hc : 0 ≤ cost ∧ cost < 4294967296) (hbp : 0 ≤ bp ∧ bp < 65536) (hm : 0 ≤ mac ∧ mac < 281474976710656) (hh : 0 ≤ hops ∧ hops < 256)
    (hst9 : (List.map (fun D => D.inst) (List.map (fun e : RowE => e.D) (pairRows Ps))).Pairwise (fun p q : Int => p < q)) (hdue0 : KBw.bInts due = tailReg ++ be4 cost ++ (be2 bp ++ be6 mac) ++ [hops] ++ (List.map (fun e : RowE => rowOcts e.D) (pairRows Ps)).flatten)
    {mean : ExcName → Option Value} {mg mb : Str → Option Value} {dp un : Nat} {gd : Option (List Code)} {outer : List Env} {A₀ : Around} {base h₀ : Heap} {L : Addr} {m : Str → Option Value} {s : Shared} {Q E : Value → Shared → Prop}
    (XB : (Mine.hd.heap_39 w.params).In base) (TB : Top topProg loose mean mg mb base) (B : Below A₀ base outer h₀) (F : Fr h₀ L s.heap (fun y => if y = Str.ofString "due" then some (.bytes due td) else if y = Str.ofString "tail" then some (.ref x) else if y = Str.ofString "bridge" then some (.ref br) else if y = Str.ofString "region" then some (.bytes rb tr) else if y = Str.ofString "cost" then some (.int cost tc) else if y = Str.ofString "hops" then some (.int hops th) else if y = Str.ofString "pairs" then some (.ref lp) else if y = Str.ofString "numbers" then some vn else none)) (X : (Mine.hd.heap_39 w.params).In h₀) (N : News h₀ L s.heap ((x, instObj 322 dx) :: (dx, dictOf (tailEs w rb cost br hops rl τ) 5) :: (rl, listOf (rowRefs (pairRows Ps)).toArray kr) :: (br, tup2 (.int bp u1) (.int mac u2) nb) :: (src, o1) :: (l, o2) :: (lp, listOf (pairRefs Ps).toArray kp) :: (L + 1, oK) :: (414, tabObj #[]) :: R)) (T : Top topProg loose mean mg mb h₀) (h4L : @LT.lt Nat _ 414 L) (CH : CodeHd base 416 414) (hd : dp + 130 < recursionLimit) (hu : un + 3800 < cLine) (hE : PassesOwn (model PySem.Challenge.pw_pc0377_01 w) (ktrTop dp un gd (Str.ofString "_law_tails_right") sc L 417 (.ref 416) [(Str.ofString "source", L + 1)] outer) (envX (Str.ofString "_law_tails_right") sc L 417 (.ref 416) [(Str.ofString "source", L + 1)]) E) {QF : Flow → Shared → Prop}
    (hret : ∀ h' tk g' m' ps, KtsTurn (outer.filterMap (·.frame)) h₀ g' → Fr g' L h' m' → News g' L h' ((src, o1) :: (l, o2) :: (414, tabObj ps) :: R) → QF (.ret (.bool true)) { s with heap := h', toks := tk }) :
    wpAny (model PySem.Challenge.pw_pc0377_01 w) (ktrTop dp un gd (Str.ofString "_law_tails_right") sc L 417 (.ref 416) [(Str.ofString "source", L + 1)] outer) (execs st (envX (Str.ofString "_law_tails_right") sc L 417 (.ref 416) [(Str.ofString "source", L + 1)])) QF E s := by
  conv at hst => rhs; whnf
  conv at hsc => rhs; whnf
  subst hst hsc
  refine foldA ?_
  intro A1'
  refine letN1 N ?_
  clear N
  intro oB1 N
  refine letN2 N ?_
  clear N
  intro oB2 N
  refine letN3 N ?_
  clear N
  intro oB3 N
  have hdue : KBw.bInts due = tailO cost bp mac hops (List.map (fun e : RowE => e.D) (pairRows Ps)) := due_is hdue0 rfl
  have hRr : ∀ p ∈ rowsLed w (pairRows Ps), p ∈ R := fun p hp => hRp p (pairsLed_rows p hp)
  have hEl : (pairRows Ps).length ≤ 3 := by rw [List.length_map]; exact hPl
  have hEok : ∀ e ∈ pairRows Ps, e.Ok w := fun e he => by
    obtain ⟨P, hP, rfl⟩ := List.mem_map.mp he
    exact (hok P hP).ok
  have hDo : ∀ D ∈ List.map (fun e : RowE => e.D) (pairRows Ps), RowOk D := fun D hD => by
    obtain ⟨e, he, rfl⟩ := List.mem_map.mp hD
    exact (hEok e he).ok
  have hDl : (List.map (fun e : RowE => e.D) (pairRows Ps)).length ≤ 4 := by rw [List.length_map]; lia
  k_steps
  refine Dbg.mk ?_
  refine' c_tails2 w default ?qst ?qsc src l lp o1 o2 oK R Ps kp due td cost bp mac hops td (.ref x) (.ref br) (.bytes rb tr) (.int cost tc) (.int hops th) vn ?qPl ?qok ?qRp ?qf6 ?q4s ?q4l ?q4p ?qst9 ?qdue ?qB ?qF ?qX ?qN ?qT ?q4L ?qXB ?qTB ?qCH ?qd ?qu ?qE ?qret
  case qB => k_asm
  case qXB => assumption
  case qTB => assumption
  case qCH => assumption
  case qX => assumption
  case qT => assumption
  case qst => exact rfl
  case qsc => exact rfl
  case qF => k_asm
  case qN => exact News.sub (by k_asm) (List.forall_mem_cons.mpr ⟨by k_mem, List.forall_mem_cons.mpr ⟨by k_mem, List.forall_mem_cons.mpr ⟨by k_mem, List.forall_mem_cons.mpr ⟨by k_mem, List.forall_mem_cons.mpr ⟨by k_mem, fun p hp => by (repeat' (first | exact List.mem_append_left _ hp | exact hp | refine List.mem_cons_of_mem _ ?_ | refine List.mem_append_left _ ?_))⟩⟩⟩⟩⟩)
  case qd => assumption
  case qu => assumption
  case qE => first | assumption | passes_own
  case qret =>
    intro h' tk g' m' ps t f n
    exact hret _ _ _ _ _ t f n
  all_goals (first | with_reducible assumption | assumption)
end
theorem lines_p55ctailsB : True := by
  w_top off
  k_extra "S"
  k_extra "ld:pre"
  k_extra "ld:exset"
  k_extra "ld:swinit"
  k_extra "ld:tellx"
  k_extra "ld:enters"
  k_extra "ld:take"
  k_extra "ld:one"
  k_extra "ld:massign"
  k_extra "ld:bytes"
  k_extra "ld:be"
  k_extra "ld:bits"
  k_extra "ld:item"
  k_extra "ld:cls"
  k_extra "ld:four"
  k_extra "ld:num"
  k_extra "ld:bridge"
  k_extra "ld:lbridge"
  k_extra "ld:onum"
  k_extra "ld:rbridge"
  k_extra "ld:role"
  k_extra "ld:ttail"
  k_extra "ld:rrow"
  k_extra "ld:sum"
  k_extra "ld:rocts"
  k_extra "ld:lrow"
  k_extra "ld:sorted"
  k_extra "ld:rdef"
  k_extra "ld:text"
  k_extra "ld:lookd"
  k_extra "ld:bstr"
  k_extra "ld:lenb"
  k_extra "ld:eqs"
  k_extra "ld:lists"
  k_extra "ld:told8"
  k_extra "ld:vector"
  k_extra "ld:bjoin"
  k_extra "ld:tocts"
  k_extra "ld:lam"
  k_extra "ld:o_tailsB"
  trivial
section
theorem swapT2 {h₀ h : Heap} {L : Addr} {c d i br s l x1 x2 x3 x4 x5 P k t : Addr × Obj} {R : List (Addr × Obj)} (N : News h₀ L h (c :: d :: i :: br :: s :: l :: x1 :: x2 :: x3 :: x4 :: x5 :: P :: k :: t :: R)) : News h₀ L h (c :: d :: i :: br :: s :: l :: P :: k :: t :: R) := News.sub N (by
  repeat' (first | exact List.forall_mem_nil _ | refine' subc (by ((repeat' (first | exact List.mem_cons_self | refine List.mem_cons_of_mem _ ?_)); done)) ?_ | exact (fun p hp => by ((repeat' (first | exact hp | refine List.mem_cons_of_mem _ ?_)); done))))
set_option maxHeartbeats 8000000 in
theorem c_tailsB (w : World) (sc0 : Scope) {st : List Stmt} {sc : Scope} (hst : st = tailsStmts w 2) (hsc : sc = tailsScope w sc0) (src l lp : Addr) (o1 o2 oK : Obj) (R : List (Addr × Obj)) (Ps : List PairE) (kp : Nat) (vn : Value)
    (hS : SrcObj l o1 o2) (hK : oK.data = .cell (some (.ref src))) (hPl : Ps.length ≤ 3) (hok : ∀ P ∈ Ps, P.Ok w) (hRp : ∀ p ∈ pairsLed w Ps, p ∈ R) (hlt : @LT.lt Nat _ l src) (h4 : @LT.lt Nat _ 414 l)
    (hst9 : (List.map (fun D => D.inst) (List.map (fun e : RowE => e.D) (pairRows Ps))).Pairwise (fun p q : Int => p < q))
    {mean : ExcName → Option Value} {mg mb : Str → Option Value} {dp un : Nat} {gd : Option (List Code)} {outer : List Env} {A₀ : Around} {base h₀ : Heap} {L : Addr} {m : Str → Option Value} {s : Shared} {Q E : Value → Shared → Prop}
    (XB : (Mine.hd.heap_39 w.params).In base) (TB : Top topProg loose mean mg mb base) (B : Below A₀ base outer h₀) (F : Fr h₀ L s.heap (fun y => if y = Str.ofString "pairs" then some (.ref lp) else if y = Str.ofString "numbers" then some vn else none)) (X : (Mine.hd.heap_39 w.params).In h₀) (N : News h₀ L s.heap ((src, o1) :: (l, o2) :: (lp, listOf (pairRefs Ps).toArray kp) :: (L + 1, oK) :: (414, tabObj #[]) :: R)) (T : Top topProg loose mean mg mb h₀) (hsL : @LT.lt Nat _ src L) (hLp : @LT.lt Nat _ (L + 1) lp) (f1 : ∀ p ∈ R, p.1 ≠ src) (f2 : ∀ p ∈ R, p.1 ≠ l) (f3 : ∀ p ∈ R, p.1 ≠ lp) (f4 : ∀ p ∈ R, p.1 ≠ L + 1) (f6 : ∀ p ∈ R, p.1 ≠ 414) (CH : CodeHd base 416 414) (hd : dp + 130 < recursionLimit) (hu : un + 3800 < cLine) (hE : PassesOwn (model PySem.Challenge.pw_pc0377_01 w) (ktrTop dp un gd (Str.ofString "_law_tails_right") sc L 417 (.ref 416) [(Str.ofString "source", L + 1)] outer) (envX (Str.ofString "_law_tails_right") sc L 417 (.ref 416) [(Str.ofString "source", L + 1)]) E) {QF : Flow → Shared → Prop}
    (hret : ∀ h' tk g' m' ps o1' o2', SrcObj l o1' o2' → KtsTurn (outer.filterMap (·.frame)) h₀ g' → Fr g' L h' m' → News g' L h' ((src, o1') :: (l, o2') :: (414, tabObj ps) :: R) → QF (.ret (.bool true)) { s with heap := h', toks := tk }) :
    wpAny (model PySem.Challenge.pw_pc0377_01 w) (ktrTop dp un gd (Str.ofString "_law_tails_right") sc L 417 (.ref 416) [(Str.ofString "source", L + 1)] outer) (execs st (envX (Str.ofString "_law_tails_right") sc L 417 (.ref 416) [(Str.ofString "source", L + 1)])) QF E s := by
  conv at hst => rhs; whnf
  conv at hsc => rhs; whnf
  subst hst hsc
  refine foldA ?_
  intro A1'
  refine letN2 N ?_
  clear N
  intro oB2 N
  refine letN4 N ?_
  clear N
  intro oB4 N
  have hRr : ∀ p ∈ rowsLed w (pairRows Ps), p ∈ R := fun p hp => hRp p (pairsLed_rows p hp)
  have hEl : (pairRows Ps).length ≤ 3 := by rw [List.length_map]; exact hPl
  k_steps
  refine Dbg.mk ?_
  refine letML ?_
  intro sM
  refine' mind_L ?hh ?S ?hn ?F ?N ?hC ?a1 ?a2 ?a3 (JW Ps _) ⟨rfl, rfl⟩ ?hJ ?turn ?fin
  case hh => exact rfl
  case S => assumption
  case hn => (rw [List.size_toArray, List.length_map]; lia)
  case F => k_asm
  case N => exact swapT2 (by k_asm)
  case hC => assumption
  case a1 => k_ne
  case a2 => k_ne
  case a3 => k_ne
  case hJ =>
    rintro i vs T ⟨rfl, _⟩
    exact ⟨fun h N => srcIn_news N (by k_mem), by k_all, by k_all, by k_all⟩
  case turn =>
    intro i v vs T k9 h tk oC' oI' mC E' hi hv hj hl S1 F1 N1 hC1
    obtain ⟨P, hP, hm9, rfl⟩ := pairRefs_at hv
    have mp := hRp _ (pairsLed_p (w := w) hm9)
    have hj' := hj
    obtain ⟨rfl, _⟩ := hj
    k_steps
    all_goals exact ⟨_, _, _, _, _, rfl, by k_asm, by k_asm, by assumption, hj'.step hP⟩
  case fin =>
    intro h tk oC' mC vs k9 T F' N' hC hj hl
    obtain ⟨rfl, hvs⟩ := hj
    rw [List.size_toArray, List.length_map, List.take_of_length_le (by rw [List.length_map]; exact Nat.le_refl _)] at hvs
    subst hvs
    (try dsimp only)
    k_steps
    refine Dbg.mk ?_
    refine letML ?_
    intro sM
    refine' mind_L ?hh ?S ?hn ?F ?N ?hC ?a1 ?a2 ?a3 (JX Ps _) ⟨rfl, OctsAre.nil⟩ ?hJ ?turn ?fin
    case hh => exact rfl
    case S => assumption
    case hn => (rw [List.size_toArray, List.length_map]; lia)
    case F => k_asm
    case N => k_asm
    case hC => assumption
    case a1 => k_ne
    case a2 => k_ne
    case a3 => k_ne
    case hJ =>
      rintro i vs T ⟨rfl, _⟩
      exact ⟨fun h N => srcIn_news N (by k_mem), by k_all, by k_all, by k_all⟩
    case turn =>
      intro i v vs T k9 h tk oC' oI' mC E' hi hv hj hl S1 F1 N1 hC1
      obtain ⟨P, hP, hm9, rfl⟩ := pairRefs_at hv
      have mp := hRp _ (pairsLed_p (w := w) hm9)
      have hj' := hj
      obtain ⟨rfl, _⟩ := hj
      k_steps
      all_goals exact ⟨_, _, _, _, _, rfl, by k_asm, by k_asm, by assumption, hj'.step hP (hok P hm9)⟩
    case fin =>
      intro h tk oC' mC vs k9 T F' N' hC hj hl
      obtain ⟨rfl, hvo⟩ := hj
      rw [List.size_toArray, List.length_map, List.take_of_length_le (by rw [List.length_map]; exact Nat.le_refl _)] at hvo
      have hz : (((pairRows Ps).map fun e => rowOcts e.D).flatten).length ≤ 48 := by
        have := rows_len ((pairRows Ps).map (·.D))
        rw [List.map_map, List.length_map] at this
        exact this ▸ (by lia)
      have hz2 : (((pairRows Ps).map fun e => rowOcts e.D).flatten).length ≤ 1000 := by lia
      (try dsimp only)
      k_steps
      refine Dbg.mk ?_
      refine' c_tailsC w default ?qst ?qsc src l lp _ _ _ _ _ _ oK R Ps _ _ _ _ _ _ _ _ _ _ _ _ _ _ _ (tk14 _ _ _ _ _ _ _ _ 0 0 0 0 0 0) vn ?qPl ?qok ?qRp ?qf6 ?q4s ?q4l ?q4p ?qrb ?qc ?qbp ?qm ?qh ?qst9 ?qdue ?qXB ?qTB ?qB ?qF ?qX ?qN ?qT ?q4L ?qCH ?qd ?qu ?qE ?qret
      case qB => k_asm
      case qXB => assumption
      case qTB => assumption
      case qCH => assumption
      case qX => assumption
      case qT => assumption
      case qst => exact rfl
      case qsc => exact rfl
      case qF => k_asm
      case qN => exact News.sub (by k_asm) (List.forall_mem_cons.mpr ⟨by k_mem, List.forall_mem_cons.mpr ⟨by k_mem, List.forall_mem_cons.mpr ⟨by k_mem, List.forall_mem_cons.mpr ⟨by k_mem, List.forall_mem_cons.mpr ⟨by k_mem, List.forall_mem_cons.mpr ⟨by k_mem, List.forall_mem_cons.mpr ⟨by k_mem, List.forall_mem_cons.mpr ⟨by k_mem, List.forall_mem_cons.mpr ⟨by k_mem, fun p hp => by (repeat' (first | exact hp | refine List.mem_cons_of_mem _ ?_))⟩⟩⟩⟩⟩⟩⟩⟩⟩)
      case qd => assumption
      case qu => assumption
      case qE => first | assumption | passes_own
      case qret =>
        intro h' tk g' m' ps t f n
        exact hret _ _ _ _ _ _ _ (by assumption) t f n
      case qPl => assumption
      case qok => assumption
      case qRp => assumption
      case qf6 => assumption
      case q4s => lia
      case q4l => lia
      case q4p => lia
      case q4L => lia
      case qst9 => assumption
      case qrb => first | (with_reducible assumption) | assumption
      case qc => lia
      case qbp => lia
      case qm => lia
      case qh => lia
      case qdue => first | (with_reducible assumption) | assumption
      all_goals first | exact (fun _ => none) | exact E
end
theorem lines_p55dtailsA : True := by
  w_top off
  k_extra "S"
  k_extra "ld:pre"
  k_extra "ld:exset"
  k_extra "ld:swinit"
  k_extra "ld:tellx"
  k_extra "ld:enters"
  k_extra "ld:take"
  k_extra "ld:one"
  k_extra "ld:massign"
  k_extra "ld:bytes"
  k_extra "ld:be"
  k_extra "ld:bits"
  k_extra "ld:item"
  k_extra "ld:cls"
  k_extra "ld:four"
  k_extra "ld:num"
  k_extra "ld:bridge"
  k_extra "ld:lbridge"
  k_extra "ld:onum"
  k_extra "ld:rbridge"
  k_extra "ld:role"
  k_extra "ld:rrow"
  k_extra "ld:sum"
  k_extra "ld:rocts"
  k_extra "ld:lrow"
  k_extra "ld:sorted"
  k_extra "ld:rdef"
  k_extra "ld:text"
  k_extra "ld:lookd"
  k_extra "ld:bstr"
  k_extra "ld:lenb"
  k_extra "ld:eqs"
  k_extra "ld:lists"
  k_extra "ld:told8"
  k_extra "ld:vector"
  k_extra "ld:bjoin"
  k_extra "ld:tocts"
  k_extra "ld:lam"
  k_extra "ld:o_tailsA"
  trivial
section
set_option maxHeartbeats 8000000 in
theorem c_tailsA (w : World) (sc0 : Scope) {st : List Stmt} {sc : Scope} (hst : st = tailsStmts w 1) (hsc : sc = tailsScope w sc0) (src l q : Addr) (o1 o2 oK : Obj) (rest : List (Addr × Obj)) (vs : List Value) (ns9 : List Int) (nq : Nat)
    (hS : SrcObj l o1 o2) (hK : oK.data = .cell (some (.ref src))) (hi9 : IntsAre vs ns9) (hp9 : ns9.Pairwise (fun p q : Int => p < q)) (hk9 : ∀ k ∈ ns9, 1 ≤ k ∧ k < 4095) (hl9 : ns9.length ≤ 3) (hlt : @LT.lt Nat _ l src) (h4 : @LT.lt Nat _ 414 l)
    {mean : ExcName → Option Value} {mg mb : Str → Option Value} {dp un : Nat} {gd : Option (List Code)} {outer : List Env} {A₀ : Around} {base h₀ : Heap} {L : Addr} {m : Str → Option Value} {s : Shared} {Q E : Value → Shared → Prop}
    (XB : (Mine.hd.heap_39 w.params).In base) (TB : Top topProg loose mean mg mb base) (B : Below A₀ base outer h₀) (F : Fr h₀ L s.heap (fun y => if y = Str.ofString "numbers" then some (.ref q) else none)) (X : (Mine.hd.heap_39 w.params).In h₀) (N : News h₀ L s.heap ((src, o1) :: (l, o2) :: (q, listOf vs.toArray nq) :: (L + 1, oK) :: (414, tabObj #[]) :: rest)) (T : Top topProg loose mean mg mb h₀) (hsL : @LT.lt Nat _ src L) (hLq : @LT.lt Nat _ (L + 1) q) (hr1 : ∀ p ∈ rest, p.1 ≠ src) (hr2 : ∀ p ∈ rest, p.1 ≠ l) (hr3 : ∀ p ∈ rest, p.1 ≠ 414) (hr4 : ∀ p ∈ rest, p.1 ≠ L + 1) (hr5 : ∀ p ∈ rest, p.1 ≠ q) (CH : CodeHd base 416 414) (hd : dp + 130 < recursionLimit) (hu : un + 3800 < cLine) (hE : PassesOwn (model PySem.Challenge.pw_pc0377_01 w) (ktrTop dp un gd (Str.ofString "_law_tails_right") sc L 417 (.ref 416) [(Str.ofString "source", L + 1)] outer) (envX (Str.ofString "_law_tails_right") sc L 417 (.ref 416) [(Str.ofString "source", L + 1)]) E) {QF : Flow → Shared → Prop}
    (hret : ∀ h' tk g' m' ps o1' o2', SrcObj l o1' o2' → KtsTurn (outer.filterMap (·.frame)) h₀ g' → Fr g' L h' m' → News g' L h' ((src, o1') :: (l, o2') :: (414, tabObj ps) :: rest) → QF (.ret (.bool true)) { s with heap := h', toks := tk }) :
    wpAny (model PySem.Challenge.pw_pc0377_01 w) (ktrTop dp un gd (Str.ofString "_law_tails_right") sc L 417 (.ref 416) [(Str.ofString "source", L + 1)] outer) (execs st (envX (Str.ofString "_law_tails_right") sc L 417 (.ref 416) [(Str.ofString "source", L + 1)])) QF E s := by
  conv at hst => rhs; whnf
  conv at hsc => rhs; whnf
  subst hst hsc
  refine foldA ?_
  intro A1'
  refine letN4 N ?_
  clear N
  intro oB4 N
  k_steps
  refine Dbg.mk ?_
  refine letML ?_
  intro sM
  refine' mind_L ?hh ?S ?hn ?F ?N ?hC ?a1 ?a2 ?a3 (JP w ns9 src l _ _ _ _) (JP.nil hS) ?hJ ?turn ?fin
  case hh => exact rfl
  case S => assumption
  case hn => (rw [List.size_toArray, hi9.length]; lia)
  case F => k_asm
  case N => k_asm
  case hC => assumption
  case a1 => k_ne
  case a2 => k_ne
  case a3 => k_ne
  case hJ => exact fun i vs T j => ⟨fun h N => srcIn_news N (by obtain ⟨_, _, _, _, _, _, _, rfl, _⟩ := j; exact .tail _ (.tail _ (.head _))), j.ok (by k_all) (by k_all) (by k_all) (by k_ne) (by k_ne) (by k_ne) (by k_ne) (by k_ne) (by k_ne)⟩
  case turn =>
    intro i v vs T k9 h tk oC' oI' mC E' hi hv hj hl S1 F1 N1 hC1
    obtain ⟨k, t9, hnk, rfl⟩ := ints_at10 hi9 hv
    have hkk := hk9 k (List.mem_of_getElem? hnk)
    have hk0 : 0 ≤ k ∧ k < 4096 := by lia
    obtain ⟨p1, p2, Ps, hS2, rfl, hm1, hok1, rfl, hz1⟩ := hj
    obtain ⟨b1, b2, b3, b4, b5⟩ := JP.off hz1
    have f1 := all_app hr1 b4
    have f2 := all_app hr2 b5
    have f3 := all_app (a := rest) (by k_all) b1
    have f4 := all_app (a := rest) (by k_all) b2
    have f5 := all_app (a := rest) (by k_all) b3
    simp only [List.cons_append] at N1
    k_steps
    all_goals exact ⟨_, _, _, _, _, rfl, by k_asm, News.sub (by k_asm) swapQ, by assumption, JP.step (P := ⟨_, _, _, _, ⟨_, _, _, _, _, _, _, _, _, _⟩⟩) hm1 hok1 hz1 (by assumption) (by simp only [hnk]; congr 1; exact Eq.symm (by assumption)) ⟨⟨by assumption, by assumption, by assumption⟩, by assumption⟩ (by assumption) (by assumption) (by assumption) (by assumption) (by assumption) (by rw [List.map_append]; exact inFu)⟩

  case fin =>
    intro h tk oC' mC vs k9 T F' N' hC hj hl
    obtain ⟨p1, p2, Ps, hS2, rfl, hm1, hok1, rfl, hz1⟩ := hj
    obtain ⟨b1, b2, b3, b4, b5⟩ := JP.off hz1
    have f1 := all_app hr1 b4
    have f2 := all_app hr2 b5
    have f3 := all_app (a := rest) (by k_all) b1
    have f4 := all_app (a := rest) (by k_all) b2
    have f6 := all_app hr3 (JP.offA hz1 (a := 414) (.tail _ (.tail _ (.head _))))
    have f7 := all_app hr4 (JP.offA hz1 (a := L + 1) (.tail _ (.head _)))
    rw [List.size_toArray, hi9.length, List.take_length] at hm1
    have hPl : Ps.length ≤ 3 := by rw [← hm1, List.length_map] at hl9; exact hl9
    obtain ⟨R, hRe⟩ : ∃ R, R = rest ++ pairsLed w Ps := ⟨_, rfl⟩
    have hRp : ∀ p ∈ pairsLed w Ps, p ∈ R := fun p hp => by rw [hRe]; exact List.mem_append_right _ hp
    have hR0 : ∀ p ∈ rest, p ∈ R := fun p hp => by rw [hRe]; exact List.mem_append_left _ hp
    simp only [List.cons_append, ← hRe] at N' f1 f2 f3 f4 f6 f7
    have hDs : (List.map (fun D => D.inst) (List.map (fun e : RowE => e.D) (pairRows Ps))).Pairwise (fun p q : Int => p < q) := by
      rw [List.map_map, List.map_map]
      exact hm1.symm ▸ hp9
    clear hz1 b1 b2 b3 b4 b5 hRe
    (try dsimp only)
    k_steps
    refine Dbg.mk ?_
    refine' c_tailsB w default ?qst ?qsc src l _ _ _ oK R Ps _ _ ?qS ?qK ?qPl ?qok ?qRp ?qlt ?q4 ?qst9 ?qXB ?qTB ?qB ?qF ?qX ?qN ?qT ?qsL ?qLp ?qf1 ?qf2 ?qf3 ?qf4 ?qf6 ?qCH ?qd ?qu ?qE ?qret
    case qB => k_asm
    case qXB => assumption
    case qTB => assumption
    case qCH => assumption
    case qX => assumption
    case qT => assumption
    case qst => exact rfl
    case qsc => exact rfl
    case qF => k_asm
    case qN => exact News.sub (by k_asm) (List.forall_mem_cons.mpr ⟨by k_mem, List.forall_mem_cons.mpr ⟨by k_mem, List.forall_mem_cons.mpr ⟨by k_mem, List.forall_mem_cons.mpr ⟨by k_mem, List.forall_mem_cons.mpr ⟨by k_mem, fun p hp => by (repeat' (first | exact hp | refine List.mem_cons_of_mem _ ?_))⟩⟩⟩⟩⟩)
    case qd => assumption
    case qu => assumption
    case qE => first | assumption | passes_own
    case qret =>
      intro h' tk g' m' ps o1' o2' z t f n
      exact hret _ _ _ _ _ _ _ z t f (News.sub n (List.forall_mem_cons.mpr ⟨by k_mem, List.forall_mem_cons.mpr ⟨by k_mem, List.forall_mem_cons.mpr ⟨by k_mem, fun p hp => .tail _ (.tail _ (.tail _ (hR0 p hp)))⟩⟩⟩))
    case qPl => assumption
    case qok => assumption
    case qRp => assumption
    case qS => assumption
    case qK => assumption
    case qlt => assumption
    case q4 => assumption
    case qsL => assumption
    case qLp => lia
    case qf1 => assumption
    case qf2 => assumption
    case qf3 => assumption
    case qf4 => assumption
    case qf6 => assumption
    case qst9 => assumption
    all_goals first | exact (fun _ => none) | exact E
end
theorem lines_p56tails : True := by
  w_top off
  k_extra "S"
  k_extra "ld:pre"
  k_extra "ld:exset"
  k_extra "ld:swinit"
  k_extra "ld:tellx"
  k_extra "ld:enters"
  k_extra "ld:take"
  k_extra "ld:one"
  k_extra "ld:massign"
  k_extra "ld:bytes"
  k_extra "ld:be"
  k_extra "ld:bits"
  k_extra "ld:item"
  k_extra "ld:cls"
  k_extra "ld:four"
  k_extra "ld:num"
  k_extra "ld:bridge"
  k_extra "ld:lbridge"
  k_extra "ld:onum"
  k_extra "ld:rbridge"
  k_extra "ld:role"
  k_extra "ld:rrow"
  k_extra "ld:sum"
  k_extra "ld:rocts"
  k_extra "ld:lrow"
  k_extra "ld:sorted"
  k_extra "ld:rdef"
  k_extra "ld:text"
  k_extra "ld:lookd"
  k_extra "ld:bstr"
  k_extra "ld:lenb"
  k_extra "ld:eqs"
  k_extra "ld:lists"
  k_extra "ld:told8"
  k_extra "ld:vector"
  k_extra "ld:bjoin"
  k_extra "ld:tocts"
  k_extra "ld:lam"
  k_extra "ld:o_tails"
  trivial
section
set_option maxHeartbeats 8000000 in
theorem c_tails (w : World) (src l : Addr) (o1 o2 : Obj) (rest : List (Addr × Obj)) (hS : SrcObj l o1 o2) (hlt : @LT.lt Nat _ l src) (h4 : @LT.lt Nat _ 414 l) (hr1 : ∀ p ∈ rest, p.1 ≠ src) (hr2 : ∀ p ∈ rest, p.1 ≠ l) (hr3 : ∀ p ∈ rest, p.1 ≠ 414)
    {mean : ExcName → Option Value} {mg mb : Str → Option Value} {dp un : Nat} {gd : Option (List Code)} {cn : Str} {cs : Scope} {a : Addr} {ccd : Value} {cl : List (Str × Addr)} {outer : List Env} {A₀ : Around} {base h₀ g₀ : Heap} {L : Addr} {m : Str → Option Value} {s : Shared} {Q E : Value → Shared → Prop}
    (B : Below A₀ base outer h₀) (F : Fr h₀ L s.heap m) (X : (Mine.hd.heap_39 w.params).In h₀) (N : News h₀ L s.heap ((src, o1) :: (l, o2) :: (414, tabObj #[]) :: rest)) (T : Top topProg loose mean mg mb h₀) (XB : (Mine.hd.heap_39 w.params).In base) (TB : Top topProg loose mean mg mb base) (CH : CodeHd base 416 414) (T0 : KtsTurn (outer.filterMap (·.frame)) g₀ h₀) (hk : cs.kind = .function) (hd : dp + 150 < recursionLimit) (hu : un + 4000 < cLine)
    (hret : ∀ h' tk h₀' o1' o2' ps, SrcObj l o1' o2' → KtsTurn (outer.filterMap (·.frame)) g₀ h₀' → Fr h₀' L h' m → News h₀' L h' ((src, o1') :: (l, o2') :: (414, tabObj ps) :: rest) → Below A₀ base outer h₀' → (Mine.hd.heap_39 w.params).In h₀' → Top topProg loose mean mg mb h₀' → Q (.bool true) { s with heap := h', toks := tk }) :
    wpAny (model PySem.Challenge.pw_pc0377_01 w) (ktrTop dp un gd cn cs L a ccd cl outer) (call (.ref 417) [.ref src]) Q E s := by
  refine wpAny_call ?_
  k_dflt cell_enter
  k_steps
  refine Dbg.mk ?_
  refine letML ?_
  intro sM
  refine' mind_L ?hh ?S ?hn ?F ?N ?hC ?a1 ?a2 ?a3 (JS src l _) ⟨_, _, [], by assumption, .nil, rfl, (fun _ h => nomatch h), rfl⟩ ?hJ ?turn ?fin
  case hh => exact rfl
  case S => assumption
  case hn => lia
  case F => k_asm
  case N => k_asm
  case hC => assumption
  case a1 => k_ne
  case a2 => k_ne
  case a3 => k_ne
  case hJ =>
    rintro i vs T ⟨o1, o2, ks, hS, hi, hl, hk, rfl⟩
    exact ⟨fun h N => srcIn_nil, by k_all, by k_all, by k_all⟩
  case turn =>
    intro i v vs T k9 h tk oC' oI' mC E' hi9 hv hj hl S1 F1 N1 hC1
    obtain ⟨t9, rfl⟩ := hv
    obtain ⟨p1, p2, ks, hS1, hi1, hl1, hk1, rfl⟩ := hj
    k_steps
    all_goals exact ⟨_, _, _, _, _, rfl, by k_asm, News.sub (by k_asm) swapS, by assumption, JS.step hi1 hl1 hk1 (by assumption) (by lia) (by lia)⟩
  case fin =>
    intro h tk oC' mC vs k9 T F' N' hC hj hl9
    obtain ⟨p1, p2, ks, hS1, hi1, hl1, hk1, rfl⟩ := hj
    have hks : ks.length ≤ 4 := by lia
    (try dsimp only)
    k_steps
    refine Dbg.mk ?_
    rename IntsAre _ _ => hiX
    have hks3 : ks.length ≤ 3 := by lia
    obtain ⟨ns9, hi9, hp9, hk9, hl9⟩ : ∃ ns9 : List Int, IntsAre _ ns9 ∧ ns9.Pairwise (fun p q : Int => p < q) ∧ (∀ k ∈ ns9, 1 ≤ k ∧ k < 4095) ∧ ns9.length ≤ 3 := ⟨_, hiX, by with_reducible assumption, mem_two (by with_reducible assumption) (by with_reducible assumption) hk1, Nat.le_trans (strict_len (ks := ks) (by with_reducible assumption) (by with_reducible assumption) (by with_reducible assumption)) hks3⟩
    refine' c_tailsA w default ?qst ?qsc src l _ _ _ _ rest _ ns9 _ ?qS ?qK hi9 hp9 hk9 hl9 ?qlt ?q4 ?qXB ?qTB ?qB ?qF ?qX ?qN ?qT ?qsL ?qLq ?qr1 ?qr2 ?qr3 ?qr4 ?qr5 ?qCH ?qd ?qu ?qE ?qret
    case qB => k_asm
    case qXB => assumption
    case qTB => assumption
    case qCH => assumption
    case qX => k_asm
    case qT => k_asm
    case qF => k_asm
    case qN => exact News.sub (by k_asm) (List.forall_mem_cons.mpr ⟨by k_mem, List.forall_mem_cons.mpr ⟨by k_mem, List.forall_mem_cons.mpr ⟨by k_mem, List.forall_mem_cons.mpr ⟨by k_mem, List.forall_mem_cons.mpr ⟨by k_mem, fun p hp => by (repeat' (first | exact hp | refine List.mem_cons_of_mem _ ?_))⟩⟩⟩⟩⟩)
    case qst => exact rfl
    case qsc => exact rfl
    case qS => assumption
    case qK => assumption
    case qlt => assumption
    case q4 => assumption
    case qd => ktr_room
    case qu => ktr_units
    case qsL => lia
    case qLq => first | lia | (simp only [R', AllLt, and_true] at l1; lia) | (simp only [R', AllLt, and_true] at *; lia)
    case qr1 => assumption
    case qr2 => assumption
    case qr3 => assumption
    case qr4 => k_all
    case qr5 => k_all
    case qE => first | assumption | passes_own
    case qret =>
      intro h' tk g' m' ps o1' o2' z t f n
      refine leaveT_ f n t ?_
      intro hh kT kF kN kB kX kP
      exact hret _ _ _ _ _ _ z kT kF kN kB kX kP
    all_goals first | exact (fun _ => none) | exact E
end
theorem lines_p57arrbads : True := by
  w_top off
  k_extra "S"
  k_extra "ld:pre"
  k_extra "ld:exset"
  k_extra "ld:swinit"
  k_extra "ld:tellx"
  k_extra "ld:massign"
  k_extra "ld:bytes"
  k_extra "ld:be"
  k_extra "ld:bits"
  k_extra "ld:item"
  k_extra "ld:rdef"
  k_extra "ld:text"
  k_extra "ld:bstr"
  k_extra "ld:lenb"
  k_extra "ld:get16"
  k_extra "ld:o_rrbads"
  trivial
section
noncomputable abbrev nmZ : List Int := [97, 0, 98] ++ List.replicate 29 0
noncomputable def nmB : Array UInt8 := #[97, 0, 98] ++ Array.replicate 29 0
theorem gives_rstripZ (t u : Tok) : Gives (Builtin.«bytes.rstrip» ⟨[.bytes nmB t, .bytes #[0] u], []⟩) (.bytes #[97, 0, 98]) := .of_eq (by kernel_rfl)
section
variable {prog : Program} {w : World} {A : Around} {E : Value → Shared → Prop} {s : Shared} {Q : Value → Shared → Prop} {t u : Tok}
theorem rstrip_callZ {b : Array UInt8} (hb : KBw.bInts b = nmZ) (h : ∀ t' k, Q (.bytes #[97, 0, 98] t') { s with toks := k }) : wpAny (model prog w) A (call (.builtin "bytes.rstrip") [.bytes b t, .bytes #[0] u]) Q E s := by
  have e : b = nmB := ints_inj (by rw [hb]; decide +kernel)
  rw [e]
  exact call_gives BF.slot_rstrip (PySem.W.typeIs_bytes s _ t) BF.entry_rstrip (BF.args_rstrip _ _) (gives_rstripZ t u) ⟨by rw [sizeLine_eq]; decide, h _ _⟩
end
set_option maxHeartbeats 8000000 in
theorem c_rrlen (w : World) (t : Tok) (ns : List Int) (b : Array UInt8) (hb : KBw.bInts b = ns) (hl : (ns.length : Int) ≠ 51) (hz : ns.length ≤ 1000) : TellX w (.ref 231) [.bytes b t] 60 1500 [] 51 := by
  unfold TellX
  intro mean mg mb dp un gd cn cs a ccd cl outer A₀ base h₀ L m s Q E B F X N T hk hd hu hret
  refine wpAny_call ?_
  k_dflt cell_enter
  k_steps
  all_goals exact finx_ hret (by k_asm) (by k_asm) (by k_asm) (by k_asm) Sub.nil
set_option maxHeartbeats 8000000 in
theorem c_rrfst (w : World) (t : Tok) (ns : List Int) (b : Array UInt8) (hb : KBw.bInts b = ns) (hl : ns.length = 51) (h0 : ns[Int.toNat 0]? = some 1) : TellX w (.ref 231) [.bytes b t] 60 1500 [] 51 := by
  unfold TellX
  intro mean mg mb dp un gd cn cs a ccd cl outer A₀ base h₀ L m s Q E B F X N T hk hd hu hret
  have hlI : (ns.length : Int) = 51 := by lia
  refine wpAny_call ?_
  k_dflt cell_enter
  k_steps
  all_goals exact finx_ hret (by k_asm) (by k_asm) (by k_asm) (by k_asm) Sub.nil
set_option maxHeartbeats 8000000 in
theorem c_rrnam (w : World) (t : Tok) (ns : List Int) (b : Array UInt8) (hb : KBw.bInts b = ns) (hl : ns.length = 51) (h0 : ns[Int.toNat 0]? = some 0) (h1 : List.take (clipAt ns.length (1 + 32) - clipAt ns.length 1) (List.drop (clipAt ns.length 1) ns) = nmZ) : TellX w (.ref 231) [.bytes b t] 60 1500 [] 51 := by
  unfold TellX
  intro mean mg mb dp un gd cn cs a ccd cl outer A₀ base h₀ L m s Q E B F X N T hk hd hu hret
  have hlI : (ns.length : Int) = 51 := by lia
  refine wpAny_call ?_
  k_dflt cell_enter
  k_steps
  all_goals exact finx_ hret (by k_asm) (by k_asm) (by k_asm) (by k_asm) Sub.nil
end
theorem lines_p57blamregs : True := by
  w_top off
  k_extra "S"
  k_extra "ld:pre"
  k_extra "ld:exset"
  k_extra "ld:swinit"
  k_extra "ld:tellx"
  k_extra "ld:enters"
  k_extra "ld:massign"
  k_extra "ld:bytes"
  k_extra "ld:be"
  k_extra "ld:item"
  k_extra "ld:cls"
  k_extra "ld:rdef"
  k_extra "ld:text"
  k_extra "ld:name"
  k_extra "ld:dloop"
  k_extra "ld:o_lamregs"
  trivial
section
set_option maxHeartbeats 8000000 in
theorem c_lamrr (w : World) (name qual : Str) (p1 p2 p3 : Pos) (pm ctv : Value) (f c' K : Addr) (oc oK : Obj) (vs : Array Value) (tq : Tok) (b : Array UInt8) (t : Tok) (hX : TellX w (.ref 231) [.bytes b t] 60 1500 [] 51) (h3 : oK.data = .cell (some (.bytes b t))) (h1 : oc.data = .fields vs) (h2 : vs[1]? = some (.str qual tq)) :
    TellX w (.ref f) [] 70 1700 ((f, kla_obj name qual args0 (.Call (.Name (Str.ofString "read_region") p1) [.Name (Str.ofString "one") p2] [] p3) (lamScope (Str.ofString "one") (Str.ofString "read_region")) [(Str.ofString "one", K)] pm c' ctv) :: (c', oc) :: (K, oK) :: []) 51 := by
  unfold TellX
  intro mean mg mb dp un gd cn cs a ccd cl outer A₀ base h₀ L m s Q E B F X N T hk hd hu hret
  refine wpAny_call ?_
  refine' enterL ?k1 ?k2 ?k3 ?k4 ?k5 ?kA ?kF ?kK ?k6 ?k7 ?k8 ?k9 ?kB ?_ ?c2 ?c3 ?c4 ?c5; (case kA => exact rfl); (case kF => exact rfl); (case kK => exact hk); (case k1 => k_asm); (case k2 => k_asm); (case k3 => k_asm); (case k4 => k_asm); (case k5 => k_asm); (case k6 => k_mem); (case k7 => exact codeRec_news (by k_asm) (by k_mem) (by assumption) (by assumption)); (case k8 => ktr_room); (case k9 => exact rfl); (case c5 => decide); (case kB => exact locs rfl); (case c2 => exact rfl); (case c3 => exact rfl); (case c4 => exact rfl); k_whole; intro g' L' h' H' FG' F' N' B' X' T'; (try dsimp only); (try k_lift B'); (try k_extra "m:fold")
  k_steps
  all_goals exact finx_ hret (by k_asm) (by k_asm) (by k_asm) (by k_asm) (by repeat' (first | exact Sub.refl | refine' Sub.keep ?_ | refine' Sub.skip ?_ | exact Sub.nil))
set_option maxHeartbeats 8000000 in
theorem c_lamrb (w : World) (name qual : Str) (p1 p2 p3 p4 p5 : Pos) (k0 : Nat) (pm ctv : Value) (f c' K : Addr) (oc oK : Obj) (vs : Array Value) (tq : Tok) (b : Array UInt8) (t : Tok) (lst : Addr) (v0 v1 v2 : Value) (nl : Nat) (hX : TellX w (.ref 231) [.bytes b t] 60 1500 [] 51) (h3 : oK.data = .cell (some (.ref lst))) (h1 : oc.data = .fields vs) (h2 : vs[1]? = some (.str qual tq)) :
    TellX w (.ref f) [] 70 1700 ((f, kla_obj name qual args0 (.Call (.Name (Str.ofString "read_region") p1) [.Subscript (.Name (Str.ofString "bad") p2) (.Constant (.int 3) k0 p4) p5] [] p3) (lamScope (Str.ofString "bad") (Str.ofString "read_region")) [(Str.ofString "bad", K)] pm c' ctv) :: (c', oc) :: (K, oK) :: [(lst, listOf #[v0, v1, v2, .bytes b t] nl)]) 51 := by
  unfold TellX
  intro mean mg mb dp un gd cn cs a ccd cl outer A₀ base h₀ L m s Q E B F X N T hk hd hu hret
  refine wpAny_call ?_
  refine' enterL ?k1 ?k2 ?k3 ?k4 ?k5 ?kA ?kF ?kK ?k6 ?k7 ?k8 ?k9 ?kB ?_ ?c2 ?c3 ?c4 ?c5; (case kA => exact rfl); (case kF => exact rfl); (case kK => exact hk); (case k1 => k_asm); (case k2 => k_asm); (case k3 => k_asm); (case k4 => k_asm); (case k5 => k_asm); (case k6 => k_mem); (case k7 => exact codeRec_news (by k_asm) (by k_mem) (by assumption) (by assumption)); (case k8 => ktr_room); (case k9 => exact rfl); (case c5 => decide); (case kB => exact locs rfl); (case c2 => exact rfl); (case c3 => exact rfl); (case c4 => exact rfl); k_whole; intro g' L' h' H' FG' F' N' B' X' T'; (try dsimp only); (try k_lift B'); (try k_extra "m:fold")
  k_steps
  all_goals exact finx_ hret (by k_asm) (by k_asm) (by k_asm) (by k_asm) (by repeat' (first | exact Sub.refl | refine' Sub.keep ?_ | refine' Sub.skip ?_ | exact Sub.nil))
set_option maxHeartbeats 8000000 in
theorem c_lamrg (w : World) (name qual : Str) (p1 p2 p3 p4 p5 p6 p7 p8 p9 p10 p11 : Pos) (k0 k1 k2 : Nat) (pm ctv : Value) (f c' K : Addr) (oc oK : Obj) (vs : Array Value) (tq : Tok) (x : Str) (r : Int) (t1 t2 : Tok) (tp dd : Addr) (od : Obj) (nt : Nat) (hX : TellX w (.ref 213) [.str x t1, .int r t2, .ref dd] 90 3300 [(dd, od)] 83) (h3 : oK.data = .cell (some (.ref tp))) (h1 : oc.data = .fields vs) (h2 : vs[1]? = some (.str qual tq)) :
    TellX w (.ref f) [] 100 3500 ((f, kla_obj name qual args0 (.Call (.Name (Str.ofString "Region") p1) [.Subscript (.Name (Str.ofString "odd") p2) (.Constant (.int 0) k0 p4) p5, .Subscript (.Name (Str.ofString "odd") p6) (.Constant (.int 1) k1 p7) p8, .Subscript (.Name (Str.ofString "odd") p9) (.Constant (.int 2) k2 p10) p11] [] p3) (lamScope (Str.ofString "odd") (Str.ofString "Region")) [(Str.ofString "odd", K)] pm c' ctv) :: (c', oc) :: (K, oK) :: [(tp, ({ cls := .type "tuple", data := .seq #[.str x t1, .int r t2, .ref dd] nt } : Obj)), (dd, od)]) 83 := by
  unfold TellX
  intro mean mg mb dp un gd cn cs a ccd cl outer A₀ base h₀ L m s Q E B F X N T hk hd hu hret
  refine wpAny_call ?_
  refine' enterL ?k1 ?k2 ?k3 ?k4 ?k5 ?kA ?kF ?kK ?k6 ?k7 ?k8 ?k9 ?kB ?_ ?c2 ?c3 ?c4 ?c5; (case kA => exact rfl); (case kF => exact rfl); (case kK => exact hk); (case k1 => k_asm); (case k2 => k_asm); (case k3 => k_asm); (case k4 => k_asm); (case k5 => k_asm); (case k6 => k_mem); (case k7 => exact codeRec_news (by k_asm) (by k_mem) (by assumption) (by assumption)); (case k8 => ktr_room); (case k9 => exact rfl); (case c5 => decide); (case kB => exact locs rfl); (case c2 => exact rfl); (case c3 => exact rfl); (case c4 => exact rfl); k_whole; intro g' L' h' H' FG' F' N' B' X' T'; (try dsimp only); (try k_lift B'); (try k_extra "m:fold")
  k_steps
  all_goals exact finx_ hret (by k_asm) (by k_asm) (by k_asm) (by k_asm) (by repeat' (first | exact Sub.refl | refine' Sub.keep ?_ | refine' Sub.skip ?_ | exact Sub.nil))
end
theorem lines_p57claw6 : True := by
  w_top off
  k_extra "S"
  k_extra "ld:pre"
  k_extra "ld:exset"
  k_extra "ld:swinit"
  k_extra "ld:tellx"
  k_extra "ld:enters"
  k_extra "ld:take"
  k_extra "ld:one"
  k_extra "ld:massign"
  k_extra "ld:bytes"
  k_extra "ld:be"
  k_extra "ld:bits"
  k_extra "ld:item"
  k_extra "ld:fold"
  k_extra "ld:cls"
  k_extra "ld:rdef"
  k_extra "ld:text"
  k_extra "ld:name"
  k_extra "ld:locts"
  k_extra "ld:dloop"
  k_extra "ld:bstr"
  k_extra "ld:lenb"
  k_extra "ld:eqs"
  k_extra "ld:lists"
  k_extra "ld:lam"
  k_extra "ld:o_law6"
  trivial
section
noncomputable def lawStmts (w : World) (n : Nat) : List Stmt := match (Mine.hd.heap_39 w.params).lookup 422 with
  | some ⟨_, _, .func fd, _⟩ => (match fd.body with | .stmts b => b.drop n | _ => [])
  | _ => []
noncomputable def lawScope (w : World) (sc0 : Scope) : Scope := match (Mine.hd.heap_39 w.params).lookup 422 with
  | some ⟨_, _, .func fd, _⟩ => fd.scope
  | _ => sc0
/- the law of the walk over the odd rows of octets: none is left in; the lambda's code is made once -/
inductive JL6b (C D I K : Addr) (ps : Array Value) (oK : Obj) (R : List (Addr × Obj)) (env : Env) (T : List (Addr × Obj)) : Prop
  | mk : ∀ (c' : Addr) (oc' : Obj) (ws : Array Value) (t : Tok), (oc'.data = .fields ws) → (ws[1]? = some (.str (env.qual ++ Str.ofString "<lambda>") t)) → (Aps c' [C, D, I, K, 419]) → (T = (K, oK) :: (419, tabObj (ps ++ #[rawInt ((288 : Nat) : Int), rawInt ((51 : Nat) : Int), Value.ref c'])) :: (c', oc') :: R) → JL6b C D I K ps oK R env T
inductive JL6 (C D I K : Addr) (ps : Array Value) (R : List (Addr × Obj)) (env : Env) (i : Nat) (vs : List Value) (T : List (Addr × Obj)) : Prop
  | mk : (vs = []) → ∀ (oK : Obj) (v0 : Option Value), (oK.data = .cell v0) → (((i = 0 ∧ T = (K, oK) :: (419, tabObj ps) :: R) ∨ JL6b C D I K ps oK R env T)) → JL6 C D I K ps R env i vs T
theorem swapM {k c d i t x y z : Addr × Obj} {T : List (Addr × Obj)} : ∀ p ∈ c :: d :: i :: k :: t :: x :: y :: z :: T, p ∈ k :: c :: d :: i :: x :: y :: z :: t :: T := by
  repeat' (first | exact List.forall_mem_nil _ | refine' subc (by ((repeat' (first | exact List.mem_cons_self | refine List.mem_cons_of_mem _ ?_)); done)) ?_ | exact (fun p hp => by ((repeat' (first | exact hp | refine List.mem_cons_of_mem _ ?_)); done)))
theorem three_at {v0 v1 v2 : Value} {Z : Value → Prop} (h0 : Z v0) (h1 : Z v1) (h2 : Z v2) : ∀ (i : Nat) (v : Value), (#[v0, v1, v2])[i]? = some v → Z v := fun i v e => by
  match i, e with
  | 0, e => cases e; exact h0
  | 1, e => cases e; exact h1
  | 2, e => cases e; exact h2
  | n + 3, e => cases e
set_option maxHeartbeats 8000000 in
theorem c_law6 (w : World) (sc0 : Scope) {st : List Stmt} {sc : Scope} (hst : st = lawStmts w 8) (hsc : sc = lawScope w sc0) (fa lb c0 : Addr) (oB : Obj) (b0 b1 b2 b3 : Array UInt8) (s0 s1 s2 s3 : Tok) (kb : Nat) (R : List (Addr × Obj))
    (hB : oB.data = .cell (some (.ref lb))) (x0 : ∀ t, TellX w (.ref 231) [.bytes b0 t] 60 1500 [] 51) (x1 : ∀ t, TellX w (.ref 231) [.bytes b1 t] 60 1500 [] 51) (x2 : ∀ t, TellX w (.ref 231) [.bytes b2 t] 60 1500 [] 51) (x3 : ∀ t, TellX w (.ref 231) [.bytes b3 t] 60 1500 [] 51) (f9 : ∀ p ∈ R, p.1 ≠ 419) (h4b : @LT.lt Nat _ 419 lb)
    {mean : ExcName → Option Value} {mg mb m : Str → Option Value} {dp un : Nat} {gd : Option (List Code)} {outer : List Env} {A₀ : Around} {base h₀ : Heap} {L : Addr} {s : Shared} {E : Value → Shared → Prop}
    (XB : (Mine.hd.heap_39 w.params).In base) (TB : Top topProg loose mean mg mb base) (B : Below A₀ base outer h₀) (F : Fr h₀ L s.heap m) (X : (Mine.hd.heap_39 w.params).In h₀) (N : News h₀ L s.heap ((lb, listOf #[.bytes b0 s0, .bytes b1 s1, .bytes b2 s2, .bytes b3 s3] kb) :: (L + 1, oB) :: (419, tabObj (#[] ++ #[rawInt ((284 : Nat) : Int), rawInt ((24 : Nat) : Int), Value.ref c0])) :: R)) (T : Top topProg loose mean mg mb h₀) (h9L : @LT.lt Nat _ 419 L) (hLb : @LT.lt Nat _ (L + 1) lb) (CH : CodeHd base 421 419) (T0 : KtsTurn (outer.filterMap (·.frame)) h₀ h₀) (hd : dp + 160 < recursionLimit) (hu : un + 5000 < cLine) (hE : PassesOwn (model PySem.Challenge.pw_pc0377_01 w) (ktrTop dp un gd (Str.ofString "law") sc L fa (.ref 421) [(Str.ofString "odd", L + 1 + 1), (Str.ofString "bad", L + 1)] outer) (envX (Str.ofString "law") sc L fa (.ref 421) [(Str.ofString "odd", L + 1 + 1), (Str.ofString "bad", L + 1)]) E) {QF : Flow → Shared → Prop}
    (hret : ∀ h' tk g' m' qs, KtsTurn (outer.filterMap (·.frame)) h₀ g' → Fr g' L h' m' → News g' L h' ((419, tabObj qs) :: R) → QF (.ret (.bool true)) { s with heap := h', toks := tk }) :
    wpAny (model PySem.Challenge.pw_pc0377_01 w) (ktrTop dp un gd (Str.ofString "law") sc L fa (.ref 421) [(Str.ofString "odd", L + 1 + 1), (Str.ofString "bad", L + 1)] outer) (execs st (envX (Str.ofString "law") sc L fa (.ref 421) [(Str.ofString "odd", L + 1 + 1), (Str.ofString "bad", L + 1)])) QF E s := by
  conv at hst => rhs; whnf
  conv at hsc => rhs; whnf
  subst hst hsc
  refine foldA ?_
  intro A1'
  k_steps
  refine Dbg.mk ?_
  refine letML ?_
  intro sM
  refine' mind_Q (G := fun g => Below A₀ base outer g ∧ (Mine.hd.heap_39 w.params).In g ∧ Top topProg loose mean mg mb g ∧ KtsTurn (outer.filterMap (·.frame)) h₀ g) ⟨B, X, T, T0⟩ ?hh ?S ?hn ?F (News.sub N' swapM) ?hC ?a1 ?a2 ?a3 (JL6 C' D' I' K' _ _) ⟨rfl, _, _, k', .inl ⟨rfl, rfl⟩⟩ ?hJ ?turn ?fin
  case hh => exact rfl
  case S => assumption
  case hn => exact Nat.le_of_ble_eq_true rfl
  case F => k_asm
  case hC => assumption
  case a1 => k_ne
  case a2 => k_ne
  case a3 => k_ne
  case hJ =>
    rintro i vs9 T ⟨rfl, oK, v0, hK, ⟨rfl, rfl⟩ | ⟨c9, oc9, ws9, t9, hw1, hw2, hap, rfl⟩⟩
    · exact ⟨fun g h _ F N => srcIn_news N (.tail _ (.tail _ (.head _))), by k_all, by k_all, by k_all⟩
    · exact ⟨fun g h _ F N => srcIn_news N (.tail _ (.tail _ (.tail _ (.head _)))), by k_all, by k_all, by k_all⟩
  case turn =>
    intro i v vs9 T k9 g h tk oC' oI' mC E' hi hv hj hl S1 hG F1 N1 hC1
    obtain ⟨B1, X1, T1, T01⟩ := hG
    obtain ⟨b, t, rfl, hx⟩ := three_at (Z := fun v => ∃ b t, v = Value.bytes b t ∧ ∀ t, TellX w (.ref 231) [.bytes b t] 60 1500 [] 51) ⟨_, _, rfl, x0⟩ ⟨_, _, rfl, x1⟩ ⟨_, _, rfl, x2⟩ i v hv
    obtain ⟨rfl, oK1, v01, hK1, hc⟩ := hj
    rcases hc with ⟨rfl, rfl⟩ | ⟨c9, oc9, ws9, t9, hw1, hw2, hap, rfl⟩
    · k_steps
      all_goals exact ⟨_, _, _, _, _, _, rfl, ⟨by assumption, by assumption, by assumption, by assumption⟩, by k_asm, News.sub (by k_asm) (subc (by k_mem) (subc (by k_mem) (subc (by k_mem) (subc (by k_mem) (subc (by k_mem) (subc (by k_mem) (subc (by k_mem) (subc (by k_mem) (subc (by k_mem) fun p hp => by (repeat' (first | exact hp | refine List.mem_cons_of_mem _ ?_))))))))))), by assumption, rfl, _, _, by assumption, .inr ⟨_, _, _, _, by assumption, by assumption, Aps.c (by k_ne) (Aps.c (by k_ne) (Aps.c (by k_ne) (Aps.c (by k_ne) (Aps.c (by k_ne) Aps.n)))), rfl⟩⟩
    · k_steps
      all_goals exact ⟨_, _, _, _, _, _, rfl, ⟨by assumption, by assumption, by assumption, by assumption⟩, by k_asm, News.sub (by k_asm) (subc (by k_mem) (subc (by k_mem) (subc (by k_mem) (subc (by k_mem) (subc (by k_mem) (subc (by k_mem) (subc (by k_mem) (subc (by k_mem) (subc (by k_mem) fun p hp => by (repeat' (first | exact hp | refine List.mem_cons_of_mem _ ?_))))))))))), by assumption, rfl, _, _, by assumption, .inr ⟨_, _, _, _, by assumption, by assumption, hap, rfl⟩⟩
  case fin =>
    intro g h tk oC' mC vs9 k9 T hG F' N' hC hj hl
    obtain ⟨B1, X1, T1, T01⟩ := hG
    obtain ⟨rfl, oK1, v01, hK1, hc⟩ := hj
    rcases hc with ⟨h09, rfl⟩ | ⟨c9, oc9, ws9, t9, hw1, hw2, hap, rfl⟩
    · exact absurd h09 (by simp)
    · k_steps
      all_goals exact hret _ _ _ _ _ (by assumption) (by k_asm) (News.sub (by k_asm) (subc (by k_mem) fun p hp => by (repeat' (first | exact hp | refine List.mem_cons_of_mem _ ?_))))
end
theorem lines_p58law5 : True := by
  w_top off
  k_extra "S"
  k_extra "ld:pre"
  k_extra "ld:exset"
  k_extra "ld:swinit"
  k_extra "ld:tellx"
  k_extra "ld:enters"
  k_extra "ld:take"
  k_extra "ld:one"
  k_extra "ld:massign"
  k_extra "ld:bytes"
  k_extra "ld:be"
  k_extra "ld:bits"
  k_extra "ld:item"
  k_extra "ld:fold"
  k_extra "ld:cls"
  k_extra "ld:rdef"
  k_extra "ld:text"
  k_extra "ld:name"
  k_extra "ld:locts"
  k_extra "ld:dloop"
  k_extra "ld:bstr"
  k_extra "ld:lenb"
  k_extra "ld:eqs"
  k_extra "ld:lists"
  k_extra "ld:lam"
  k_extra "ld:o_law5"
  trivial
section
noncomputable def whL : List Int := [0, 97, 98] ++ List.replicate 31 0 ++ [1] ++ List.replicate 16 0
theorem reg_ab : regOcts (Str.ofString "ab") 1 (List.replicate (Int.toNat 16) 0) = whL := by decide +kernel
set_option maxHeartbeats 8000000 in
theorem c_law5 (w : World) (sc0 : Scope) {st : List Stmt} {sc : Scope} (hst : st = lawStmts w 5) (hsc : sc = lawScope w sc0) (fa tp dd : Addr) (od oO oB : Obj) (x : Str) (r : Int) (t1 t2 : Tok) (nt : Nat) (kvs : List (Int × Value)) (ps : Array Value) (vo vs vc : Value)
    (hB : BadR x r kvs) (ho : od.IsDictOf (PySem.intKind PySem.Challenge.pw_pc0377_01 w) kvs) (hm : (dd == sysModules) = false) (hO : oO.data = .cell (some (.ref tp))) (hBc : oB.data = .cell none)
    {mean : ExcName → Option Value} {mg mb : Str → Option Value} {dp un : Nat} {gd : Option (List Code)} {outer : List Env} {A₀ : Around} {base h₀ : Heap} {L : Addr} {m : Str → Option Value} {s : Shared} {Q E : Value → Shared → Prop}
    (XB : (Mine.hd.heap_39 w.params).In base) (TB : Top topProg loose mean mg mb base) (B : Below A₀ base outer h₀) (F : Fr h₀ L s.heap (fun y => if y = Str.ofString "odds" then some vo else if y = Str.ofString "source" then some vs else if y = Str.ofString "script" then some vc else none)) (X : (Mine.hd.heap_39 w.params).In h₀) (N : News h₀ L s.heap [(tp, ({ cls := .type "tuple", data := .seq #[.str x t1, .int r t2, .ref dd] nt } : Obj)), (dd, od), (L + 1 + 1, oO), (L + 1, oB), (414, tabObj ps), (419, tabObj #[])]) (T : Top topProg loose mean mg mb h₀) (h4L : @LT.lt Nat _ 414 L) (h9L : @LT.lt Nat _ 419 L) (hLd : @LT.lt Nat _ (L + 1 + 1) dd) (hdt : @LT.lt Nat _ dd tp) (CH : CodeHd base 421 419) (hd : dp + 160 < recursionLimit) (hu : un + 5000 < cLine) (hE : PassesOwn (model PySem.Challenge.pw_pc0377_01 w) (ktrTop dp un gd (Str.ofString "law") sc L fa (.ref 421) [(Str.ofString "odd", L + 1 + 1), (Str.ofString "bad", L + 1)] outer) (envX (Str.ofString "law") sc L fa (.ref 421) [(Str.ofString "odd", L + 1 + 1), (Str.ofString "bad", L + 1)]) E) {QF : Flow → Shared → Prop}
    (hret : ∀ h' tk g' m' ps qs, KtsTurn (outer.filterMap (·.frame)) h₀ g' → Fr g' L h' m' → News g' L h' [(414, tabObj ps), (419, tabObj qs)] → QF (.ret (.bool true)) { s with heap := h', toks := tk }) :
    wpAny (model PySem.Challenge.pw_pc0377_01 w) (ktrTop dp un gd (Str.ofString "law") sc L fa (.ref 421) [(Str.ofString "odd", L + 1 + 1), (Str.ofString "bad", L + 1)] outer) (execs st (envX (Str.ofString "law") sc L fa (.ref 421) [(Str.ofString "odd", L + 1 + 1), (Str.ofString "bad", L + 1)])) QF E s := by
  conv at hst => rhs; whnf
  conv at hsc => rhs; whnf
  subst hst hsc
  refine foldA ?_
  intro A1'
  have T0 : KtsTurn (outer.filterMap (·.frame)) h₀ h₀ := KtsTurn.refl
  have hXr : TellX w (.ref 213) [.str x t1, .int r t2, .ref dd] 90 3300 [(dd, od)] 83 := c_badreg w x r t1 t2 dd od (c_chkbad w x r t1 t2 dd od kvs hB ho hm)
  k_steps
  refine Dbg.mk ?_
  have x1 := fun t => c_rrlen w t _ _ (by with_reducible assumption : KBw.bInts (KBy.picked _ none (some (-1))) = _) (by decide +kernel) (by decide +kernel)
  have x2 := fun t => c_rrlen w t _ _ (by with_reducible assumption : KBw.bInts _ = whL ++ _) (by decide +kernel) (by decide +kernel)
  have x3 := fun t => c_rrfst w t _ _ (by with_reducible assumption : KBw.bInts _ = [1] ++ List.take _ _) (by decide +kernel) (by decide +kernel)
  have x4 := fun t => c_rrnam w t _ _ (by with_reducible assumption : KBw.bInts _ = _ ++ _ ++ _ ++ _) (by decide +kernel) (by decide +kernel) (by decide +kernel)
  refine' c_law6 w default ?qst ?qsc fa _ _ _ _ _ _ _ _ _ _ _ _ [(414, tabObj ps)] ?qhB x1 x2 x3 x4 ?qf9 ?q4b ?qXB ?qTB ?qB ?qF ?qX ?qN ?qT ?q9L ?qLb ?qCH ?qT0 ?qd ?qu ?qE ?qret
  case qB => k_asm
  case qF => k_asm
  case qN => exact News.sub (by k_asm) (subc (by k_mem) (subc (by k_mem) (subc (by k_mem) (subc (by k_mem) subn9))))
  case qX => k_asm
  case qT => k_asm
  case qst => exact rfl
  case qsc => exact rfl
  case qhB => assumption
  case qf9 => k_all
  case q4b => omega
  case qLb => omega
  case q9L => assumption
  case qXB => assumption
  case qTB => assumption
  case qCH => assumption
  case qT0 => exact KtsTurn.refl
  case qd => assumption
  case qu => assumption
  case qE => first | assumption | passes_own
  case qret =>
    intro h' tk g' m' qs t f n
    exact hret _ _ _ _ _ _ (KtsTurn.trans (by with_reducible assumption) t) f (News.sub n (subc (.tail _ (.head _)) (subc (.head _) subn9)))
end
theorem lines_p59law2 : True := by
  w_top off
  k_extra "S"
  k_extra "ld:pre"
  k_extra "ld:exset"
  k_extra "ld:swinit"
  k_extra "ld:tellx"
  k_extra "ld:enters"
  k_extra "ld:take"
  k_extra "ld:one"
  k_extra "ld:massign"
  k_extra "ld:bytes"
  k_extra "ld:be"
  k_extra "ld:bits"
  k_extra "ld:item"
  k_extra "ld:fold"
  k_extra "ld:cls"
  k_extra "ld:rdef"
  k_extra "ld:text"
  k_extra "ld:name"
  k_extra "ld:locts"
  k_extra "ld:dloop"
  k_extra "ld:bstr"
  k_extra "ld:lenb"
  k_extra "ld:eqs"
  k_extra "ld:lists"
  k_extra "ld:lam"
  k_extra "ld:o_law2"
  trivial
section
/- an odd region as it stands in the ledger -/
inductive OddIn (w : World) (D : Addr) (rest : List (Addr × Obj)) (v : Value) : Prop
  | mk (x : Str) (r : Int) (t1 t2 : Tok) (tp dd : Addr) (nt : Nat) (od : Obj) (kvs : List (Int × Value)) : v = .ref tp → BadR x r kvs → (tp, ({ cls := .type "tuple", data := .seq #[.str x t1, .int r t2, .ref dd] nt } : Obj)) ∈ rest → (dd, od) ∈ rest → od.IsDictOf (PySem.intKind PySem.Challenge.pw_pc0377_01 w) kvs → (dd == sysModules) = false → @LT.lt Nat _ D dd → @LT.lt Nat _ dd tp → OddIn w D rest v
theorem twice {k : Str} {a b : Option Value} {m : Str → Option Value} : (fun y => if y = k then a else if y = k then b else m y) = fun y => if y = k then a else m y := by
  funext y
  by_cases h : y = k
  · rw [if_pos h, if_pos h]
  · rw [if_neg h, if_neg h, if_neg h]
theorem fr_twice {h₀ h : Heap} {L : Addr} {k : Str} {a b : Option Value} {m : Str → Option Value} (F : Fr h₀ L h (fun y => if y = k then a else if y = k then b else m y)) : Fr h₀ L h (fun y => if y = k then a else m y) := by
  rw [twice] at F
  exact F
theorem x33 {kvs : List (Int × Value)} (e : kvs = []) : BadR (Txt.mul (Str.ofString "x") 33) 0 kvs := by
  have h : Txt.mul (Str.ofString "x") 33 = Str.ofString "xxxxxxxxxxxxxxxxxxxxxxxxxxxxxxxxx" := by decide +kernel
  rw [h, e]; exact .long
section
variable {w : World} {mean : ExcName → Option Value} {mg mb : Str → Option Value} {dp un : Nat} {gd : Option (List Code)} {cn : Str} {cs : Scope} {a : Addr} {ccd : Value} {cl : List (Str × Addr)} {outer : List Env} {A₀ : Around} {base h₀ : Heap} {L : Addr} {m : Str → Option Value} {s : Shared} {Q E : Value → Shared → Prop}
    {src l th : Addr} {o1 o2 : Obj} {vs : List Value} {n : Nat} {full r1 r2 rest : List (Addr × Obj)}
theorem use_oneR {D : Addr} (P3 : Pick th (listOf vs.toArray n) full r1) (P1 : Pick src o1 r1 r2) (hS : SrcObj l o1 o2) (P2 : Pick l o2 r2 rest) (hlt : @LT.lt Nat _ l src) (hr1 : ∀ p ∈ rest, p.1 ≠ src) (hr2 : ∀ p ∈ rest, p.1 ≠ l) (hr3 : ∀ p ∈ rest, p.1 ≠ th) (hth1 : @Ne Nat th src) (hth2 : @Ne Nat th l)
    (hv1 : 0 < (vs.length : Int)) (hv2 : vs.length ≤ 100) (hP : ∀ v ∈ vs, OddIn w D rest v)
    (B : Below A₀ base outer h₀) (F : Fr h₀ L s.heap m) (X : (Mine.hd.heap_39 w.params).In h₀) (N : News h₀ L s.heap full) (T : Top topProg loose mean mg mb h₀) (hk : cs.kind = .function) (hd : dp + 10 < recursionLimit) (hu : un + 200 < cLine)
    (h : ∀ (v : Value) (o1' o2' : Obj) (h' : Heap) (tk' : Nat), OddIn w D rest v → SrcObj l o1' o2' → Fr h₀ L h' m → News h₀ L h' ((src, o1') :: (l, o2') :: rest) → Q v { s with heap := h', toks := tk' }) :
    wpAny (model PySem.Challenge.pw_pc0377_01 w) (ktrTop dp un gd cn cs L a ccd cl outer) (call (.ref 373) [.ref src, .ref th]) Q E s :=
  use_one P3 P1 hS P2 hlt hr1 hr2 hr3 hth1 hth2 hv1 hv2 B F X N T hk hd hu fun j v o1' o2' h' tk' e c F' N' => h v o1' o2' h' tk' (hP v (List.mem_of_getElem? e)) c F' N'
end
set_option maxHeartbeats 8000000 in
theorem c_law2 (w : World) (sc0 : Scope) {st : List Stmt} {sc : Scope} (hst : st = lawStmts w 2) (hsc : sc = lawScope w sc0) (fa src l : Addr) (o1 o2 oO oB : Obj) (ps : Array Value) (vc : Value)
    (hS : SrcObj l o1 o2) (hlt : @LT.lt Nat _ l src) (hO : oO.data = .cell none) (hBc : oB.data = .cell none)
    {mean : ExcName → Option Value} {mg mb : Str → Option Value} {dp un : Nat} {gd : Option (List Code)} {outer : List Env} {A₀ : Around} {base h₀ : Heap} {L : Addr} {m : Str → Option Value} {s : Shared} {Q E : Value → Shared → Prop}
    (XB : (Mine.hd.heap_39 w.params).In base) (TB : Top topProg loose mean mg mb base) (B : Below A₀ base outer h₀) (F : Fr h₀ L s.heap (fun y => if y = Str.ofString "source" then some (.ref src) else if y = Str.ofString "script" then some vc else none)) (X : (Mine.hd.heap_39 w.params).In h₀) (N : News h₀ L s.heap [(src, o1), (l, o2), (L + 1 + 1, oO), (L + 1, oB), (414, tabObj ps), (419, tabObj #[])]) (T : Top topProg loose mean mg mb h₀) (h4L : @LT.lt Nat _ 414 L) (h9L : @LT.lt Nat _ 419 L) (hLl : @LT.lt Nat _ (L + 1 + 1) l) (CH : CodeHd base 421 419) (hd : dp + 160 < recursionLimit) (hu : un + 5000 < cLine) (hE : PassesOwn (model PySem.Challenge.pw_pc0377_01 w) (ktrTop dp un gd (Str.ofString "law") sc L fa (.ref 421) [(Str.ofString "odd", L + 1 + 1), (Str.ofString "bad", L + 1)] outer) (envX (Str.ofString "law") sc L fa (.ref 421) [(Str.ofString "odd", L + 1 + 1), (Str.ofString "bad", L + 1)]) E) {QF : Flow → Shared → Prop}
    (hret : ∀ h' tk g' m' ps qs, KtsTurn (outer.filterMap (·.frame)) h₀ g' → Fr g' L h' m' → News g' L h' [(414, tabObj ps), (419, tabObj qs)] → QF (.ret (.bool true)) { s with heap := h', toks := tk }) :
    wpAny (model PySem.Challenge.pw_pc0377_01 w) (ktrTop dp un gd (Str.ofString "law") sc L fa (.ref 421) [(Str.ofString "odd", L + 1 + 1), (Str.ofString "bad", L + 1)] outer) (execs st (envX (Str.ofString "law") sc L fa (.ref 421) [(Str.ofString "odd", L + 1 + 1), (Str.ofString "bad", L + 1)])) QF E s := by
  conv at hst => rhs; whnf
  conv at hsc => rhs; whnf
  subst hst hsc
  refine foldA ?_
  intro A1'
  k_steps
  refine Dbg.mk ?_
  refine' use_oneR (D := L + 1 + 1) ?qP3 ?qP1 ?qS ?qP2 ?qlt ?qr1 ?qr2 ?qr3 ?q4 ?q5 ?qv1 ?qv2 ?qP ?qB ?qF ?qX ?qN ?qT ?qk ?qd ?qu ?_
  case qF => k_asm
  case qN => k_asm
  case qP3 => (repeat' (first | exact Pick.head | refine' Pick.tail ?_))
  case qP1 => (repeat' (first | exact Pick.head | refine' Pick.tail ?_))
  case qS => assumption
  case qP2 => (repeat' (first | exact Pick.head | refine' Pick.tail ?_))
  case qlt => assumption
  case qr1 => k_all
  case qr2 => k_all
  case qr3 => k_all
  case q4 => k_ne
  case q5 => k_ne
  case qv1 => (simp only [List.length_cons, List.length_nil]; decide)
  case qv2 => (simp only [List.length_cons, List.length_nil]; decide)
  case qB => k_asm
  case qX => k_asm
  case qT => k_asm
  case qk => exact rfl
  case qd => ktr_room
  case qu => ktr_units
  case qP =>
    intro v hv
    simp only [List.mem_cons, List.not_mem_nil, or_false] at hv
    rcases hv with rfl | rfl | rfl | rfl | rfl | rfl | rfl | rfl | rfl
    · exact ⟨_, _, _, _, _, _, _, _, _, rfl, x33 rfl, by k_mem, by k_mem, by assumption, by assumption, by lia, by lia⟩
    · exact ⟨_, _, _, _, _, _, _, _, _, rfl, BadR.sign, by k_mem, by k_mem, by assumption, by assumption, by lia, by lia⟩
    · exact ⟨_, _, _, _, _, _, _, _, _, rfl, BadR.zero, by k_mem, by k_mem, by assumption, by assumption, by lia, by lia⟩
    · exact ⟨_, _, _, _, _, _, _, _, _, rfl, BadR.high, by k_mem, by k_mem, by assumption, by assumption, by lia, by lia⟩
    · exact ⟨_, _, _, _, _, _, _, _, _, rfl, BadR.low, by k_mem, by k_mem, by assumption, by assumption, by lia, by lia⟩
    · exact ⟨_, _, _, _, _, _, _, _, _, rfl, BadR.vlan0, by k_mem, by k_mem, by assumption, by assumption, by lia, by lia⟩
    · exact ⟨_, _, _, _, _, _, _, _, _, rfl, BadR.vlan1, by k_mem, by k_mem, by assumption, by assumption, by lia, by lia⟩
    · exact ⟨_, _, _, _, _, _, _, _, _, rfl, BadR.inst1, by k_mem, by k_mem, by assumption, by assumption, by lia, by lia⟩
    · exact ⟨_, _, _, _, _, _, _, _, _, rfl, BadR.inst0, by k_mem, by k_mem, by assumption, by assumption, by lia, by lia⟩
  intro v o1' o2' h' tk' hO' hS' F9 N9
  obtain ⟨x, r, t1, t2, tp, dd, nt, od, kvs, rfl, hB', m1, m2, ho', hm', a1, a2⟩ := hO'
  have N2 : News h₀ L h' [(tp, ({ cls := .type "tuple", data := .seq #[.str x t1, .int r t2, .ref dd] nt } : Obj)), (dd, od), (L + 1 + 1, oO), (L + 1, oB), (414, tabObj ps), (419, tabObj #[])] :=
    News.sub N9 (List.forall_mem_cons.mpr ⟨.tail _ (.tail _ m1), List.forall_mem_cons.mpr ⟨.tail _ (.tail _ m2), List.forall_mem_cons.mpr ⟨by k_mem, List.forall_mem_cons.mpr ⟨by k_mem, List.forall_mem_cons.mpr ⟨by k_mem, List.forall_mem_cons.mpr ⟨by k_mem, List.forall_mem_nil _⟩⟩⟩⟩⟩⟩)
  clear N9 m1 m2
  (try dsimp only)
  k_steps
  refine Dbg.mk ?_
  refine' c_law5 w default ?qst ?qsc fa tp dd od _ oB x r t1 t2 nt kvs ps _ _ _ hB' ho' hm' ?qO ?qBc ?qXB ?qTB ?qB ?qF ?qX ?qN ?qT ?q4L ?q9L ?qLd ?qdt ?qCH ?qd ?qu ?qE ?qret
  case qB => k_asm
  case qXB => assumption
  case qTB => assumption
  case qCH => assumption
  case qX => assumption
  case qT => assumption
  case qF =>
    (rename Fr _ _ _ _ => FX)
    have FY := fr_twice FX
    k_asm
  case qN => exact News.sub (by k_asm) (List.forall_mem_cons.mpr ⟨by k_mem, List.forall_mem_cons.mpr ⟨by k_mem, List.forall_mem_cons.mpr ⟨by k_mem, List.forall_mem_cons.mpr ⟨by k_mem, List.forall_mem_cons.mpr ⟨by k_mem, List.forall_mem_cons.mpr ⟨by k_mem, List.forall_mem_nil _⟩⟩⟩⟩⟩⟩)
  case qst => exact rfl
  case qsc => exact rfl
  case qO => assumption
  case qBc => assumption
  case q4L => assumption
  case q9L => assumption
  case qLd => assumption
  case qdt => assumption
  case qd => assumption
  case qu => assumption
  case qE => first | assumption | passes_own
  case qret =>
    intro h' tk g' m' ps qs t f n
    exact hret _ _ _ _ _ _ t f n
  all_goals first | exact (fun _ => none) | exact E
end
theorem lines_p60law1 : True := by
  w_top off
  k_extra "S"
  k_extra "ld:pre"
  k_extra "ld:exset"
  k_extra "ld:swinit"
  k_extra "ld:tellx"
  k_extra "ld:enters"
  k_extra "ld:take"
  k_extra "ld:one"
  k_extra "ld:massign"
  k_extra "ld:bytes"
  k_extra "ld:be"
  k_extra "ld:bits"
  k_extra "ld:item"
  k_extra "ld:cls"
  k_extra "ld:rdef"
  k_extra "ld:text"
  k_extra "ld:name"
  k_extra "ld:locts"
  k_extra "ld:dloop"
  k_extra "ld:bstr"
  k_extra "ld:lenb"
  k_extra "ld:eqs"
  k_extra "ld:lists"
  k_extra "ld:regs"
  k_extra "ld:lam"
  k_extra "ld:o_law1"
  trivial
section
theorem swapL {h₀ h : Heap} {L : Addr} {s l a b t u : Addr × Obj} (N : News h₀ L h [s, l, a, b, t, u]) : News h₀ L h (s :: l :: t :: [a, b, u]) := News.sub N (by
  repeat' (first | exact List.forall_mem_nil _ | refine' subc (by ((repeat' (first | exact List.mem_cons_self | refine List.mem_cons_of_mem _ ?_)); done)) ?_ | exact (fun p hp => by ((repeat' (first | exact hp | refine List.mem_cons_of_mem _ ?_)); done))))
theorem swapL2 {h₀ h : Heap} {L : Addr} {s l a b t u : Addr × Obj} (N : News h₀ L h (s :: l :: t :: [a, b, u])) : News h₀ L h [s, l, a, b, t, u] := News.sub N (by
  repeat' (first | exact List.forall_mem_nil _ | refine' subc (by ((repeat' (first | exact List.mem_cons_self | refine List.mem_cons_of_mem _ ?_)); done)) ?_ | exact (fun p hp => by ((repeat' (first | exact hp | refine List.mem_cons_of_mem _ ?_)); done))))
set_option maxHeartbeats 8000000 in
theorem c_law1 (w : World) (sc0 : Scope) {st : List Stmt} {sc : Scope} (hst : st = lawStmts w 1) (hsc : sc = lawScope w sc0) (fa src l : Addr) (o1 o2 oO oB : Obj) (vc : Value)
    (hS : SrcObj l o1 o2) (hlt : @LT.lt Nat _ l src) (hO : oO.data = .cell none) (hBc : oB.data = .cell none)
    {mean : ExcName → Option Value} {mg mb : Str → Option Value} {dp un : Nat} {gd : Option (List Code)} {outer : List Env} {A₀ : Around} {base h₀ : Heap} {L : Addr} {m : Str → Option Value} {s : Shared} {Q E : Value → Shared → Prop}
    (XB : (Mine.hd.heap_39 w.params).In base) (TB : Top topProg loose mean mg mb base) (B : Below A₀ base outer h₀) (F : Fr h₀ L s.heap (fun y => if y = Str.ofString "source" then some (.ref src) else if y = Str.ofString "script" then some vc else none)) (X : (Mine.hd.heap_39 w.params).In h₀) (N : News h₀ L s.heap [(src, o1), (l, o2), (L + 1 + 1, oO), (L + 1, oB), (414, tabObj #[]), (419, tabObj #[])]) (T : Top topProg loose mean mg mb h₀) (CH4 : CodeHd base 416 414) (h4L : @LT.lt Nat _ 414 L) (h9L : @LT.lt Nat _ 419 L) (hLl : @LT.lt Nat _ (L + 1 + 1) l) (CH : CodeHd base 421 419) (hd : dp + 160 < recursionLimit) (hu : un + 5000 < cLine) (hE : PassesOwn (model PySem.Challenge.pw_pc0377_01 w) (ktrTop dp un gd (Str.ofString "law") sc L fa (.ref 421) [(Str.ofString "odd", L + 1 + 1), (Str.ofString "bad", L + 1)] outer) (envX (Str.ofString "law") sc L fa (.ref 421) [(Str.ofString "odd", L + 1 + 1), (Str.ofString "bad", L + 1)]) E) {QF : Flow → Shared → Prop}
    (hret : ∀ h' tk g' m' ps qs, KtsTurn (outer.filterMap (·.frame)) h₀ g' → Fr g' L h' m' → News g' L h' [(414, tabObj ps), (419, tabObj qs)] → QF (.ret (.bool true)) { s with heap := h', toks := tk }) :
    wpAny (model PySem.Challenge.pw_pc0377_01 w) (ktrTop dp un gd (Str.ofString "law") sc L fa (.ref 421) [(Str.ofString "odd", L + 1 + 1), (Str.ofString "bad", L + 1)] outer) (execs st (envX (Str.ofString "law") sc L fa (.ref 421) [(Str.ofString "odd", L + 1 + 1), (Str.ofString "bad", L + 1)])) QF E s := by
  conv at hst => rhs; whnf
  conv at hsc => rhs; whnf
  subst hst hsc
  have T0 : KtsTurn (outer.filterMap (·.frame)) h₀ h₀ := KtsTurn.refl
  k_steps
  refine Dbg.mk ?_
  refine' c_law2 w default ?qst ?qsc fa src l _ _ oO oB _ _ ?qS hlt ?qO ?qBc ?qXB ?qTB ?qB ?qF ?qX ?qN ?qT ?q4L ?q9L ?qLl ?qCH ?qd ?qu ?qE ?qret
  case qB => k_asm
  case qXB => assumption
  case qTB => assumption
  case qCH => assumption
  case qX => k_asm
  case qT => k_asm
  case qF => k_asm
  case qN => k_asm
  case qst => exact rfl
  case qsc => exact rfl
  case qS => assumption
  case qO => assumption
  case qBc => assumption
  case q4L => assumption
  case q9L => assumption
  case qLl => assumption
  case qd => assumption
  case qu => assumption
  case qE => first | assumption | passes_own
  case qret =>
    intro h' tk g' m' ps qs t f n
    exact hret _ _ _ _ _ _ (KtsTurn.trans (by with_reducible assumption) t) f n
  all_goals first | exact (fun _ => none) | exact E
end
theorem lines_p60bpool : True := by
  w_top off
  k_extra "S"
  k_extra "ld:pre"
  k_extra "ld:take"
  k_extra "ld:one"
  k_extra "ld:massign"
  k_extra "ld:bits"
  k_extra "ld:lists"
  k_extra "ld:o_pool"
  trivial
section
theorem pool_x {n : Int} {c : Prop} {_ : Decidable c} : 0 ≤ (if -1 - n > n then -1 - n else n) * (if c then 1 else 0) := by
  refine Int.mul_nonneg ?_ ?_
  · split <;> lia
  · split <;> lia
theorem pool_fin {h₀ h' : Heap} {L r src l : Addr} {m : Str → Option Value} {s : Shared} {Q : Value → Shared → Prop} {big rest : List (Addr × Obj)} {x y : Int} {t1 t2 : Tok} {n1 n2 tk : Nat} {vs : List Value} {ns : List Int}
    (hret : ∀ h' tk src l o1 o2, SrcObj l o1 o2 → @LT.lt Nat _ l src → @LE.le Nat _ r l → Fr h₀ L h' m → News h₀ L h' ((src, o1) :: (l, o2) :: rest) → Q (.ref src) { s with heap := h', toks := tk })
    (F : Fr h₀ L h' m) (N : News h₀ L h' big) (m1 : (src, listOf #[.int x t1, .int y t2, .ref l] n1) ∈ big) (m2 : (l, listOf vs.toArray n2) ∈ big) (hs : ∀ p ∈ rest, p ∈ big) (hx : 0 ≤ x) (y0 : 0 ≤ y) (y1 : y < 2147483647) (hi : IntsAre vs ns) (h0 : ∀ n ∈ ns, 0 ≤ n) (len : vs.length ≤ 100) (lt : @LT.lt Nat _ l src) (le : @LE.le Nat _ r l) :
    Q (.ref src) { s with heap := h', toks := tk } :=
  hret _ _ _ _ _ _ ⟨_, _, _, _, _, _, _, _, rfl, rfl, hx, y0, y1, hi, h0, len⟩ lt le F (News.sub N (List.forall_mem_cons.mpr ⟨m1, List.forall_mem_cons.mpr ⟨m2, hs⟩⟩))
set_option maxHeartbeats 8000000 in
theorem c_pool (w : World) (a9 r : Addr) (vs rs : List Value) (ns ks : List Int) (n : Nat) (rest : List (Addr × Obj)) (hi : IntsAre vs ns) (hr : IntsAre rs ks) (hk0 : ∀ k ∈ ks, 0 ≤ k) (hrl : rs.length ≤ 100) (hvl : vs.length ≤ 1000)
    {mean : ExcName → Option Value} {mg mb : Str → Option Value} {dp un : Nat} {gd : Option (List Code)} {cn : Str} {cs : Scope} {a : Addr} {ccd : Value} {cl : List (Str × Addr)} {outer : List Env} {A₀ : Around} {base h₀ : Heap} {L : Addr} {m : Str → Option Value} {s : Shared} {Q E : Value → Shared → Prop}
    (B : Below A₀ base outer h₀) (F : Fr h₀ L s.heap m) (X : (Mine.hd.heap_39 w.params).In h₀) (hl : base.IsList a9 vs.toArray) (N : News h₀ L s.heap ((r, listOf rs.toArray n) :: rest)) (T : Top topProg loose mean mg mb h₀) (hk : cs.kind = .function) (hd : dp + 30 < recursionLimit) (hu : un + 1000 < cLine)
    (hret : ∀ h' tk src l o1 o2, SrcObj l o1 o2 → @LT.lt Nat _ l src → @LE.le Nat _ r l → Fr h₀ L h' m → News h₀ L h' ((src, o1) :: (l, o2) :: rest) → Q (.ref src) { s with heap := h', toks := tk }) :
    wpAny (model PySem.Challenge.pw_pc0377_01 w) (ktrTop dp un gd cn cs L a ccd cl outer) (call (.ref 359) [.ref a9, .ref r]) Q E s := by
  refine wpAny_call ?_
  cases hi
  all_goals k_dflt cell_enter
  all_goals k_steps
  all_goals (refine' pool_fin hret ?F ?N ?m1 ?m2 ?hs ?hx ?y0 ?y1 ?hi ?h0 ?len ?lt ?le; (case F => k_asm); (case N => k_asm); (case m1 => k_mem); (case m2 => k_mem); (case hs => (intro p hp; (repeat' (first | exact hp | refine List.mem_cons_of_mem _ ?_)))); (case hx => exact pool_x); (case y0 => exact am0 (by decide)); (case y1 => exact am1 (by decide)); (case hi => first | exact hr | exact .nil); (case h0 => first | exact hk0 | exact (fun _ h => nomatch h)); (case len => first | exact hrl | exact Nat.zero_le _); (case lt => lia); (case le => lia))
end
theorem lines_p61law : True := by
  w_top off
  k_extra "S"
  k_extra "ld:pre"
  k_extra "ld:o_law"
  trivial
section
theorem turn_fr {g g' h : Heap} {L : Addr} {m : Str → Option Value} (t : KtsTurn (List.filterMap (fun x : Env => x.frame) []) g g') (f : Fr g' L h m) : Fr g L h m :=
  ⟨f.ns, fun b o e => f.keep b o (t.other b o e (fun h => nomatch h)), by rw [← t.size]; exact f.above⟩
theorem turn_news {g g' h : Heap} {L : Addr} {news : List (Addr × Obj)} (t : KtsTurn (List.filterMap (fun x : Env => x.frame) []) g g') (n : News g' L h news) : News g L h news := fun p hp => by
  refine ⟨(n p hp).1, (n p hp).2.1, ?_⟩
  cases e : g.get? p.1 with
  | none => rfl
  | some o =>
    have := t.other _ _ e (fun h => nomatch h)
    rw [(n p hp).2.2] at this
    cases this
set_option maxRecDepth 1000000 in
set_option maxHeartbeats 8000000 in
theorem law_holds : PySem.Challenge.rw_pc0377_01.Holds := Mine.hd (by
  k_go0
  k_steps
  refine Dbg.mk ?_
  refine' c_pool _ _ _ _ _ _ [0, 0, 2, 1, 0, 0, 1, 2, 0, 0, 0, 4, 5] _ _ ?qi ?qr ?qk0 ?qrl ?qvl ?qB ?qF ?qX ?ql ?qN ?qT ?qk ?qd ?qu ?qret
  case qB => k_asm
  case qF => k_asm
  case qN => k_asm
  case qX => k_asm
  case qT => k_asm
  case ql => with_reducible assumption
  case qi => with_reducible assumption
  case qr => repeat' constructor
  case qk0 => decide
  case qrl => exact Nat.le_of_ble_eq_true rfl
  case qvl =>
    rename IntsAre _ _ => hI9
    have := hI9.length
    omega
  case qk => exact rfl
  case qd => ktr_room
  case qu => ktr_units
  case qret =>
    intro h' tk src l o1 o2 S' lt' le' F' N'
    (try dsimp only)
    k_steps
    refine Dbg.mk ?_
    (rename Fr _ _ _ _ => F9)
    refine' c_law1 _ default ?qst ?qsc _ src l o1 o2 _ _ _ S' lt' ?qO ?qBc ?qXB ?qTB ?qB ?qF ?qX ?qN ?qT ?q44 ?q4L ?q9L ?qLl ?qCH ?qd ?qu ?qE ?qret
    case qB => k_asm
    case qXB => assumption
    case qTB => (rename Top topProg _ _ _ _ _ => T9); exact T9
    case qX => assumption
    case qT => (rename Top topProg _ _ _ _ _ => T9); exact T9
    case qF => exact F9
    case qN => exact News.sub (by k_asm) (List.forall_mem_cons.mpr ⟨by k_mem, List.forall_mem_cons.mpr ⟨by k_mem, List.forall_mem_cons.mpr ⟨by k_mem, List.forall_mem_cons.mpr ⟨by k_mem, List.forall_mem_cons.mpr ⟨by k_mem, List.forall_mem_cons.mpr ⟨by k_mem, List.forall_mem_nil _⟩⟩⟩⟩⟩⟩)
    case qst => exact rfl
    case qsc => exact rfl
    case qO => assumption
    case qBc => assumption
    case q44 => assumption
    case qCH => assumption
    case q4L => omega
    case q9L => omega
    case qLl => omega
    case qd => ktr_room
    case qu => ktr_units
    case qE => passes_own
    case qret =>
      intro h9 tk9 g9 m9 ps qs t f n
      have F2 := turn_fr t f
      have N2 := turn_news t n
      clear t f n
      (try dsimp only)
      k_steps
    all_goals first | exact (fun _ => none) | exact (fun _ _ => True))
end
end Mine
theorem PySem.Challenge.cw_pc0377_01_holds : PySem.Challenge.rw_pc0377_01.Holds :=
  Mine.law_holds
