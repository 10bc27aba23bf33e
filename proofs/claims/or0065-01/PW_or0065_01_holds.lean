import PyProof.Rows.All
import Wide.All
import OpenK.AllK
import Wide.FinOn
import Lean
import PySem.Challenge.RW_or0065_01
open PySem PySem.W PyProof.Rows Builtin
set_option Elab.async false
set_option maxRecDepth 100000
set_option rowWalk.seconds 0
namespace Mine
theorem rf : PySem.W.segRunT = PySem.W.segRunT := rfl
end Mine
name_quick tw10948510743976572161 for PySem.W.segRunT by Mine.rf
name_quick tw8075568018651887793 for PySem.W.segRunT by Mine.rf
name_quick tw15497817006697053464 for PySem.W.segRunT by Mine.rf
name_quick tw17282375785321111287 for PySem.W.segRunT by Mine.rf
name_quick tw14979626087600564940 for PySem.W.segRunT by Mine.rf
name_quick tw7453034045671950385 for PySem.W.segRunT by Mine.rf
name_quick tw6908892306507642482 for PySem.W.segRunT by Mine.rf
name_quick tw976971711843200656 for PySem.W.segRunT by Mine.rf
name_quick tw10362974711232342345 for PySem.W.segRunT by Mine.rf
name_quick tw53402867556234148 for PySem.W.segRunT by Mine.rf
name_quick tw6088582038053779700 for PySem.W.segRunT by Mine.rf
name_quick tw6434265647005701932 for PySem.W.segRunT by Mine.rf
name_quick tw13562626542330456828 for PySem.W.segRunT by Mine.rf
name_quick tw14850637758680703435 for PySem.W.segRunT by Mine.rf
name_quick tw17917122681197681205 for PySem.W.segRunT by Mine.rf
name_quick tw16697116713213952808 for PySem.W.segRunT by Mine.rf
name_quick tw10323183001455561277 for PySem.W.segRunT by Mine.rf
name_quick tw900395245841561262 for PySem.W.segRunT by Mine.rf
name_quick tw4525517667737911620 for PySem.W.segRunT by Mine.rf
name_quick tw5925582254088234700 for PySem.W.segRunT by Mine.rf
name_quick tw13200701876752130231 for PySem.W.segRunT by Mine.rf
name_quick tw8658103293671471659 for PySem.W.segRunT by Mine.rf
name_quick tw11588390666370768167 for PySem.W.segRunT by Mine.rf
name_quick tw2364824441312284604 for PySem.W.segRunT by Mine.rf
name_quick tw9674257727999782656 for PySem.W.segRunT by Mine.rf
name_quick tw3766158894648301139 for PySem.W.segRunT by Mine.rf
name_quick tw10073347824450446311 for PySem.W.segRunT by Mine.rf
name_quick tw15079194523842364033 for PySem.W.segRunT by Mine.rf
name_quick tw12392613427281201732 for PySem.W.segRunT by Mine.rf
name_quick tw14326252917377295143 for PySem.W.segRunT by Mine.rf
name_quick tw12832477231654346042 for PySem.W.segRunT by Mine.rf
name_quick tw11543547407058413889 for PySem.W.segRunT by Mine.rf
name_quick tw10881846856767400648 for PySem.W.segRunT by Mine.rf
name_quick tw6250672158363226905 for PySem.W.segRunT by Mine.rf
name_quick tw8708707556590381134 for PySem.W.segRunT by Mine.rf
name_quick tw13776390136698705113 for PySem.W.segRunT by Mine.rf
name_quick tw7581816359482902497 for PySem.W.segRunT by Mine.rf
name_quick tw2611137233208623240 for PySem.W.segRunT by Mine.rf
name_quick tw7035115661146626270 for PySem.W.segRunT by Mine.rf
name_quick tw14530364306720264245 for PySem.W.segRunT by Mine.rf
name_quick tw14023627001141898710 for PySem.W.segRunT by Mine.rf
name_quick tw14553827428707814869 for PySem.W.segRunT by Mine.rf
name_quick tw11452132507678324671 for PySem.W.segRunT by Mine.rf
name_quick tw15423634916342008072 for PySem.W.segRunT by Mine.rf
name_quick tw5357591511691535388 for PySem.W.segRunT by Mine.rf
name_quick tw5200128776193632040 for PySem.W.segRunT by Mine.rf
name_quick tw3094477031063562474 for PySem.W.segRunT by Mine.rf
name_quick tw11445135464325071761 for PySem.W.segRunT by Mine.rf
name_quick tw14821650378409806113 for PySem.W.segRunT by Mine.rf
name_quick tw9376109419431680627 for PySem.W.segRunT by Mine.rf
name_quick tw9151444980202551346 for PySem.W.segRunT by Mine.rf
name_quick tw4434333111790514575 for PySem.W.segRunT by Mine.rf
name_quick tw10919533547850550483 for PySem.W.segRunT by Mine.rf
name_quick tw9011979029575296479 for PySem.W.segRunT by Mine.rf
name_quick tw282004115355043989 for PySem.W.segRunT by Mine.rf
name_quick tw13002492023102617099 for PySem.W.segRunT by Mine.rf
name_quick tw3820604794100220378 for PySem.W.segRunT by Mine.rf
name_quick tw7496433998918960881 for PySem.W.segRunT by Mine.rf
name_quick tw16947794391021106201 for PySem.W.segRunT by Mine.rf
name_quick tw17111948838632640456 for PySem.W.segRunT by Mine.rf
name_quick tw3315324234476444515 for PySem.W.segRunT by Mine.rf
name_quick tw2315820567201803617 for PySem.W.segRunT by Mine.rf
name_quick tw12371321757623732685 for PySem.W.segRunT by Mine.rf
name_quick tw667198328695590252 for PySem.W.segRunT by Mine.rf
name_quick tw724751600484774222 for PySem.W.segRunT by Mine.rf
name_quick tw721709456127091705 for PySem.W.segRunT by Mine.rf
name_quick tw3976722010076183465 for PySem.W.segRunT by Mine.rf
name_quick tw3362959441861295915 for PySem.W.segRunT by Mine.rf
name_quick tw13335737130258781183 for PySem.W.segRunT by Mine.rf
name_quick tw2447775223705975068 for PySem.W.segRunT by Mine.rf
name_quick tw3424931102881643321 for PySem.W.segRunT by Mine.rf
name_quick tw8253183596043897158 for PySem.W.segRunT by Mine.rf
name_quick tw4527066259768149269 for PySem.W.segRunT by Mine.rf
name_quick tw1156252341971683116 for PySem.W.segRunT by Mine.rf
name_quick tw2354101950205528012 for PySem.W.segRunT by Mine.rf
name_quick tw4319705520415482375 for PySem.W.segRunT by Mine.rf
name_quick tw12734952128020822468 for PySem.W.segRunT by Mine.rf
name_quick tw4933834842325187142 for PySem.W.segRunT by Mine.rf
name_quick tw8032284361305108907 for PySem.W.segRunT by Mine.rf
name_quick tw1886563365779066154 for PySem.W.segRunT by Mine.rf
name_quick tw7745614565497352828 for PySem.W.segRunT by Mine.rf
name_quick tw16414604833108395602 for PySem.W.segRunT by Mine.rf
name_quick tw17532440430192770315 for PySem.W.segRunT by Mine.rf
name_quick tw18101931140130867144 for PySem.W.segRunT by Mine.rf
name_quick tw18260038339965228139 for PySem.W.segRunT by Mine.rf
name_quick tw5189142188285759775 for PySem.W.segRunT by Mine.rf
name_quick tw16350708796919097252 for PySem.W.segRunT by Mine.rf
name_quick tw10938465397075749097 for PySem.W.segRunT by Mine.rf
name_quick tw17164873540382356111 for PySem.W.segRunT by Mine.rf
name_quick tw3636048126100218174 for PySem.W.segRunT by Mine.rf
name_quick tw11790162104776037713 for PySem.W.segRunT by Mine.rf
name_quick tw13145125596335152023 for PySem.W.segRunT by Mine.rf
name_quick tw3577408171920636059 for PySem.W.segRunT by Mine.rf
name_quick tw10317580896714288900 for PySem.W.segRunT by Mine.rf
name_quick tw8703263022893421829 for PySem.W.segRunT by Mine.rf
name_quick tw7323676302269181137 for PySem.W.segRunT by Mine.rf
name_quick tw2422670821966735624 for PySem.W.segRunT by Mine.rf
name_quick tw17000155066101142889 for PySem.W.segRunT by Mine.rf
name_quick tw8693227569615203950 for PySem.W.segRunT by Mine.rf
name_quick tw1503297043503765363 for PySem.W.segRunT by Mine.rf
name_quick tw9407582987413476825 for PySem.W.segRunT by Mine.rf
name_quick tw4775785305629353868 for PySem.W.segRunT by Mine.rf
name_quick tw2627984346626558326 for PySem.W.segRunT by Mine.rf
name_quick tw12329403913580668285 for PySem.W.segRunT by Mine.rf
name_quick tw5349121933718820234 for PySem.W.segRunT by Mine.rf
name_quick tw10528696920762540405 for PySem.W.segRunT by Mine.rf
name_quick tw1041845030581493396 for PySem.W.segRunT by Mine.rf
name_quick tw9594665118957945026 for PySem.W.segRunT by Mine.rf
name_quick tw11853533878840232495 for PySem.W.segRunT by Mine.rf
name_quick tw460243522976405022 for PySem.W.segRunT by Mine.rf
name_quick tw11270796479367742343 for PySem.W.segRunT by Mine.rf
name_quick tw18345786424863182364 for PySem.W.segRunT by Mine.rf
name_quick tw8450942572126056277 for PySem.W.segRunT by Mine.rf
name_quick tw16145008321745377990 for PySem.W.segRunT by Mine.rf
name_quick tw16296994325663420285 for PySem.W.segRunT by Mine.rf
name_quick tw6654550962395885724 for PySem.W.segRunT by Mine.rf
name_quick tw9862997608875712007 for PySem.W.segRunT by Mine.rf
name_quick tw1735497430108182060 for PySem.W.segRunT by Mine.rf
name_quick tw8537084889766193716 for PySem.W.segRunT by Mine.rf
name_quick tw15278061642289888581 for PySem.W.segRunT by Mine.rf
name_quick tw951843321253372498 for PySem.W.segRunT by Mine.rf
name_quick tw3619232141914619222 for PySem.W.segRunT by Mine.rf
name_quick tw14168537005229113720 for PySem.W.segRunT by Mine.rf
name_quick tw7250012664060256230 for PySem.W.segRunT by Mine.rf
name_quick tw2862820112641550484 for PySem.W.segRunT by Mine.rf
name_quick tw4978915544186085027 for PySem.W.segRunT by Mine.rf
name_quick tw2905824091091238844 for PySem.W.segRunT by Mine.rf
name_quick tw5111356299099525756 for PySem.W.segRunT by Mine.rf
name_quick tw9979284746773624096 for PySem.W.segRunT by Mine.rf
name_quick tw662354867322794072 for PySem.W.segRunT by Mine.rf
name_quick tw6711915476519705758 for PySem.W.segRunT by Mine.rf
name_quick tw6380047634161181297 for PySem.W.segRunT by Mine.rf
name_quick tw12835720964997663042 for PySem.W.segRunT by Mine.rf
name_quick tw15475462885187679331 for PySem.W.segRunT by Mine.rf
name_quick tw151948405760981731 for PySem.W.segRunT by Mine.rf
name_quick tw4292500188555128830 for PySem.W.segRunT by Mine.rf
name_quick tw7275051467321613617 for PySem.W.segRunT by Mine.rf
name_quick tw2660918139993853925 for PySem.W.segRunT by Mine.rf
name_quick tw16349804527192203551 for PySem.W.segRunT by Mine.rf
name_quick tw14073706353221006472 for PySem.W.segRunT by Mine.rf
name_quick tw3282434896037501709 for PySem.W.segRunT by Mine.rf
name_quick tw912392155897948271 for PySem.W.segRunT by Mine.rf
name_quick tw8400853705098224536 for PySem.W.segRunT by Mine.rf
name_quick tw12813236842856870187 for PySem.W.segRunT by Mine.rf
name_quick tw9136488742655976645 for PySem.W.segRunT by Mine.rf
name_quick tw15980859228951719591 for PySem.W.segRunT by Mine.rf
name_quick tw15112985482279097393 for PySem.W.segRunT by Mine.rf
name_quick tw14112274594779413971 for PySem.W.segRunT by Mine.rf
name_quick tw16049961110935095269 for PySem.W.segRunT by Mine.rf
name_quick tw1414301608579184545 for PySem.W.segRunT by Mine.rf
name_quick tw1617757218408452269 for PySem.W.segRunT by Mine.rf
name_quick tw6004533443673955352 for PySem.W.segRunT by Mine.rf
name_quick tw11964429278604863157 for PySem.W.segRunT by Mine.rf
name_quick tw5076957145309523181 for PySem.W.segRunT by Mine.rf
name_quick tw15450981722951097364 for PySem.W.segRunT by Mine.rf
name_quick tw11994158751524154303 for PySem.W.segRunT by Mine.rf
name_quick tw5882768191206486792 for PySem.W.segRunT by Mine.rf
name_quick tw9800571698397750058 for PySem.W.segRunT by Mine.rf
name_quick tw17476080006546285661 for PySem.W.segRunT by Mine.rf
name_quick tw15007238320947547705 for PySem.W.segRunT by Mine.rf
name_quick tw18056578402003937789 for PySem.W.segRunT by Mine.rf
name_quick tw8989982439271903415 for PySem.W.segRunT by Mine.rf
name_quick tw16413264400604254196 for PySem.W.segRunT by Mine.rf
name_quick tw9501820088010722379 for PySem.W.segRunT by Mine.rf
name_quick tw9285146279643344392 for PySem.W.segRunT by Mine.rf
name_quick tw1702518465993881591 for PySem.W.segRunT by Mine.rf
name_quick tw6679490504615227074 for PySem.W.segRunT by Mine.rf
name_quick tw14386061602966655976 for PySem.W.segRunT by Mine.rf
name_quick tw2478078296215019888 for PySem.W.segRunT by Mine.rf
name_quick tw16593013826814733010 for PySem.W.segRunT by Mine.rf
name_quick tw5697894365363955025 for PySem.W.segRunT by Mine.rf
name_quick tw9691624938235723451 for PySem.W.segRunT by Mine.rf
name_quick tw5823794197072137003 for PySem.W.segRunT by Mine.rf
name_quick tw8579058602437062094 for PySem.W.segRunT by Mine.rf
name_quick tw7365555872484859036 for PySem.W.segRunT by Mine.rf
name_quick tw9626621113073979434 for PySem.W.segRunT by Mine.rf
name_quick tw5701610774189311196 for PySem.W.segRunT by Mine.rf
name_quick tw18220123701641295943 for PySem.W.segRunT by Mine.rf
name_quick tw17988542015724977305 for PySem.W.segRunT by Mine.rf
name_quick tw12172078356533094185 for PySem.W.segRunT by Mine.rf
name_quick tw704327219915372674 for PySem.W.segRunT by Mine.rf
name_quick tw12233582284571471492 for PySem.W.segRunT by Mine.rf
name_quick tw12635813782599140982 for PySem.W.segRunT by Mine.rf
name_quick tw4558998842232669794 for PySem.W.segRunT by Mine.rf
name_quick tw505943868828395459 for PySem.W.segRunT by Mine.rf
name_quick tw1218959903707654005 for PySem.W.segRunT by Mine.rf
name_quick tw4552823106982906706 for PySem.W.segRunT by Mine.rf
name_quick tw15066959818950650227 for PySem.W.segRunT by Mine.rf
name_quick tw13254397897704925713 for PySem.W.segRunT by Mine.rf
name_quick tw10227693086864044499 for PySem.W.segRunT by Mine.rf
name_quick tw1962928258387122110 for PySem.W.segRunT by Mine.rf
name_quick tw13236226663087606529 for PySem.W.segRunT by Mine.rf
name_quick tw6550987210724342151 for PySem.W.segRunT by Mine.rf
name_quick tw11625766737575182897 for PySem.W.segRunT by Mine.rf
name_quick tw682011567655089306 for PySem.W.segRunT by Mine.rf
name_quick tw6589095468515690095 for PySem.W.segRunT by Mine.rf
name_quick tw16741492637210864865 for PySem.W.segRunT by Mine.rf
name_quick tw4407734736301137906 for PySem.W.segRunT by Mine.rf
name_quick tw13215998728584607739 for PySem.W.segRunT by Mine.rf
name_quick tw4275521005467322725 for PySem.W.segRunT by Mine.rf
name_quick tw5032809538720368765 for PySem.W.segRunT by Mine.rf
name_quick tw7788680626742099145 for PySem.W.segRunT by Mine.rf
name_quick tw313226197891681235 for PySem.W.segRunT by Mine.rf
name_quick tw16018607276475445134 for PySem.W.segRunT by Mine.rf
name_quick tw8098380416015320538 for PySem.W.segRunT by Mine.rf
name_quick tw1620339239838986703 for PySem.W.segRunT by Mine.rf
name_quick tw11462045893675790159 for PySem.W.segRunT by Mine.rf
name_quick tw17497748084772794779 for PySem.W.segRunT by Mine.rf
name_quick tw11310463157757771331 for PySem.W.segRunT by Mine.rf
name_quick tw16869277618539721502 for PySem.W.segRunT by Mine.rf
name_quick tw6019396324639902685 for PySem.W.segRunT by Mine.rf
name_quick tw17274371674624000324 for PySem.W.segRunT by Mine.rf
name_quick tw8860024209350480642 for PySem.W.segRunT by Mine.rf
name_quick tw16846860572762119324 for PySem.W.segRunT by Mine.rf
name_quick tw17672482021469178181 for PySem.W.segRunT by Mine.rf
name_quick tw7392212959928792091 for PySem.W.segRunT by Mine.rf
name_quick tw7401281599722004195 for PySem.W.segRunT by Mine.rf
name_quick tw1402947280878808549 for PySem.W.segRunT by Mine.rf
name_quick tw5529568453561195837 for PySem.W.segRunT by Mine.rf
name_quick tw6363645014702824404 for PySem.W.segRunT by Mine.rf
name_quick tw10424941004445345732 for PySem.W.segRunT by Mine.rf
name_quick tw15195428891847259777 for PySem.W.segRunT by Mine.rf
name_quick tw17057272898397164401 for PySem.W.segRunT by Mine.rf
name_quick tw17434858337260393937 for PySem.W.segRunT by Mine.rf
name_quick tw3560238982266916124 for PySem.W.segRunT by Mine.rf
name_quick tw12850107946570832962 for PySem.W.segRunT by Mine.rf
name_quick tw11108263761283441063 for PySem.W.segRunT by Mine.rf
name_quick tw8047484207015712433 for PySem.W.segRunT by Mine.rf
name_quick tw7783732958741208154 for PySem.W.segRunT by Mine.rf
name_quick tw5345256250457102556 for PySem.W.segRunT by Mine.rf
name_quick tw6792406925840432001 for PySem.W.segRunT by Mine.rf
name_quick tw11186114360453789277 for PySem.W.segRunT by Mine.rf
name_quick tw6817277305950994716 for PySem.W.segRunT by Mine.rf
name_quick tw13615603153576403970 for PySem.W.segRunT by Mine.rf
name_quick tw11863081143760314161 for PySem.W.segRunT by Mine.rf
name_quick tw2719445374943340272 for PySem.W.segRunT by Mine.rf
name_quick tw3039592710220408265 for PySem.W.segRunT by Mine.rf
name_quick tw13981391230805400906 for PySem.W.segRunT by Mine.rf
name_quick tw3118938333895590913 for PySem.W.segRunT by Mine.rf
name_quick tw15742981410569661332 for PySem.W.segRunT by Mine.rf
name_quick tw17000458434675057986 for PySem.W.segRunT by Mine.rf
name_quick tw1258299570235058372 for PySem.W.segRunT by Mine.rf
name_quick tw1772237422875290029 for PySem.W.segRunT by Mine.rf
name_quick tw8119918657739134586 for PySem.W.segRunT by Mine.rf
name_quick tw1706496860858754268 for PySem.W.segRunT by Mine.rf
name_quick tw7276740287692124622 for PySem.W.segRunT by Mine.rf
name_quick tw14634470113969663577 for PySem.W.segRunT by Mine.rf
name_quick tw1574873078441994576 for PySem.W.segRunT by Mine.rf
name_quick tw17888162413812561239 for PySem.W.segRunT by Mine.rf
name_quick tw10948738476641704880 for PySem.W.segRunT by Mine.rf
name_quick tw15263041282635125899 for PySem.W.segRunT by Mine.rf
name_quick tw856264945809894966 for PySem.W.segRunT by Mine.rf
name_quick tw12635297910168745909 for PySem.W.segRunT by Mine.rf
name_quick tw1377046205977697930 for PySem.W.segRunT by Mine.rf
name_quick tw13678640442995254988 for PySem.W.segRunT by Mine.rf
name_quick tw8206430501311747189 for PySem.W.segRunT by Mine.rf
name_quick tw2408619945344806742 for PySem.W.segRunT by Mine.rf
name_quick tw14223099787259518943 for PySem.W.segRunT by Mine.rf
name_quick tw5268983451555188008 for PySem.W.segRunT by Mine.rf
name_quick tw6448080314894763839 for PySem.W.segRunT by Mine.rf
name_quick tw4658958612460137192 for PySem.W.segRunT by Mine.rf
name_quick tw8424611434330503625 for PySem.W.segRunT by Mine.rf
name_quick tw10833955939284561965 for PySem.W.segRunT by Mine.rf
name_quick tw10010936943081839664 for PySem.W.segRunT by Mine.rf
name_quick tw17804436615005485693 for PySem.W.segRunT by Mine.rf
name_quick tw17964007177503468958 for PySem.W.segRunT by Mine.rf
name_quick tw16531745337717519161 for PySem.W.segRunT by Mine.rf
name_quick tw2039238271031011813 for PySem.W.segRunT by Mine.rf
name_quick tw9948023125614773506 for PySem.W.segRunT by Mine.rf
name_quick tw6122645084068987007 for PySem.W.segRunT by Mine.rf
name_quick tw13016732220969518872 for PySem.W.segRunT by Mine.rf
name_quick tw3093977132361051618 for PySem.W.segRunT by Mine.rf
name_quick tw12237943961548833269 for PySem.W.segRunT by Mine.rf
name_quick tw117213463901210413 for PySem.W.segRunT by Mine.rf
name_quick tw13317431791736044220 for PySem.W.segRunT by Mine.rf
name_quick tw15663404670287596823 for PySem.W.segRunT by Mine.rf
name_quick tw1638017585896720355 for PySem.W.segRunT by Mine.rf
name_quick tw5135500740108067664 for PySem.W.segRunT by Mine.rf
name_quick tw4224760802259116069 for PySem.W.segRunT by Mine.rf
name_quick tw11333186260410459676 for PySem.W.segRunT by Mine.rf
name_quick tw15766043655864335149 for PySem.W.segRunT by Mine.rf
name_quick tw15480198773659482676 for PySem.W.segRunT by Mine.rf
name_quick tw17018628822417861297 for PySem.W.segRunT by Mine.rf
name_quick tw16752143609539240740 for PySem.W.segRunT by Mine.rf
name_quick tw11707433790658880453 for PySem.W.segRunT by Mine.rf
name_quick tw7892128664451923741 for PySem.W.segRunT by Mine.rf
name_quick tw17279654841073493023 for PySem.W.segRunT by Mine.rf
name_quick tw16979880578912567463 for PySem.W.segRunT by Mine.rf
name_quick tw18340240734955500558 for PySem.W.segRunT by Mine.rf
name_quick tw17069979004554194336 for PySem.W.segRunT by Mine.rf
name_quick tw4090926877573551719 for PySem.W.segRunT by Mine.rf
name_quick tw7232422423428716515 for PySem.W.segRunT by Mine.rf
name_quick tw3891137856419664920 for PySem.W.segRunT by Mine.rf
name_quick tw14126943448341045398 for PySem.W.segRunT by Mine.rf
name_quick tw11161088081135249708 for PySem.W.segRunT by Mine.rf
name_quick tw14433975572909055671 for PySem.W.segRunT by Mine.rf
name_quick tw18416463498863911781 for PySem.W.segRunT by Mine.rf
name_quick tw4302124980754421698 for PySem.W.segRunT by Mine.rf
name_quick tw4980102563643897964 for PySem.W.segRunT by Mine.rf
name_quick tw14714103240675001986 for PySem.W.segRunT by Mine.rf
name_quick tw13900631225919944168 for PySem.W.segRunT by Mine.rf
name_quick tw13512673800721320934 for PySem.W.segRunT by Mine.rf
name_quick tw3764465048917985505 for PySem.W.segRunT by Mine.rf
name_quick tw4636218855388986860 for PySem.W.segRunT by Mine.rf
name_quick tw7009043117176579089 for PySem.W.segRunT by Mine.rf
name_quick tw1291980286583624508 for PySem.W.segRunT by Mine.rf
name_quick tw13640514254501968386 for PySem.W.segRunT by Mine.rf
name_quick tw219737044198020058 for PySem.W.segRunT by Mine.rf
name_quick tw3856783459128436802 for PySem.W.segRunT by Mine.rf
name_quick tw1258717718454355964 for PySem.W.segRunT by Mine.rf
name_quick tw15560500314895047343 for PySem.W.segRunT by Mine.rf
name_quick tw12898947447245864913 for PySem.W.segRunT by Mine.rf
name_quick tw16180582048198870337 for PySem.W.segRunT by Mine.rf
name_quick tw2193789692954389824 for PySem.W.segRunT by Mine.rf
name_quick tw9676229304581654039 for PySem.W.segRunT by Mine.rf
name_quick tw4921902886906138986 for PySem.W.segRunT by Mine.rf
name_quick tw12393455550290869266 for PySem.W.segRunT by Mine.rf
name_quick tw6135381517318000843 for PySem.W.segRunT by Mine.rf
name_quick tw8595292554425487202 for PySem.W.segRunT by Mine.rf
name_quick tw13559156169165276386 for PySem.W.segRunT by Mine.rf
name_quick tw10007627690174824804 for PySem.W.segRunT by Mine.rf
name_quick tw10942035263794033107 for PySem.W.segRunT by Mine.rf
name_quick tw6929956602132211858 for PySem.W.segRunT by Mine.rf
name_quick tw14108194823987119177 for PySem.W.segRunT by Mine.rf
name_quick tw2664551874359636763 for PySem.W.segRunT by Mine.rf
name_quick tw13607416678640721797 for PySem.W.segRunT by Mine.rf
name_quick tw11277716924127702174 for PySem.W.segRunT by Mine.rf
name_quick tw7269565832213808900 for PySem.W.segRunT by Mine.rf
name_quick tw15490439104401381959 for PySem.W.segRunT by Mine.rf
name_quick tw16643706677886111943 for PySem.W.segRunT by Mine.rf
name_quick tw13759679279233594173 for PySem.W.segRunT by Mine.rf
name_quick tw16374537267813192141 for PySem.W.segRunT by Mine.rf
name_quick tw14884601019740666482 for PySem.W.segRunT by Mine.rf
name_quick tw1829445100760108279 for PySem.W.segRunT by Mine.rf
name_quick tw15542503528162795033 for PySem.W.segRunT by Mine.rf
name_quick tw4679858250743294509 for PySem.W.segRunT by Mine.rf
name_quick tw1355338860687761863 for PySem.W.segRunT by Mine.rf
name_quick tw13912434898499826684 for PySem.W.segRunT by Mine.rf
name_quick tw392140993173905013 for PySem.W.segRunT by Mine.rf
name_quick tw9908251947323293946 for PySem.W.segRunT by Mine.rf
name_quick tw12945451867199242903 for PySem.W.segRunT by Mine.rf
name_quick tw15823609455315575823 for PySem.W.segRunT by Mine.rf
name_quick tw16548257151911338427 for PySem.W.segRunT by Mine.rf
name_quick tw12177639751122801600 for PySem.W.segRunT by Mine.rf
name_quick tw11636919720809706868 for PySem.W.segRunT by Mine.rf
name_quick tw2670528217467546775 for PySem.W.segRunT by Mine.rf
name_quick tw10314498396905981064 for PySem.W.segRunT by Mine.rf
name_quick tw9931943479562821362 for PySem.W.segRunT by Mine.rf
name_quick tw1092655722715705105 for PySem.W.segRunT by Mine.rf
name_quick tw11130039905162102590 for PySem.W.segRunT by Mine.rf
name_quick tw14224011070414065920 for PySem.W.segRunT by Mine.rf
name_quick tw14210447440969649564 for PySem.W.segRunT by Mine.rf
name_quick tw878741703135273975 for PySem.W.segRunT by Mine.rf
name_quick tw11317593695737139937 for PySem.W.segRunT by Mine.rf
name_quick tw136631920214876835 for PySem.W.segRunT by Mine.rf
name_quick tw16349216596472256690 for PySem.W.segRunT by Mine.rf
name_quick tw11420187438672877268 for PySem.W.segRunT by Mine.rf
name_quick tw5770868932273138760 for PySem.W.segRunT by Mine.rf
name_quick tw5721027456603625697 for PySem.W.segRunT by Mine.rf
name_quick tw11939915149646268982 for PySem.W.segRunT by Mine.rf
name_quick tw8642067239939848140 for PySem.W.segRunT by Mine.rf
name_quick tw4748654258956052638 for PySem.W.segRunT by Mine.rf
name_quick tw6059929106960060952 for PySem.W.segRunT by Mine.rf
name_quick tw1333364371103165705 for PySem.W.segRunT by Mine.rf
name_quick tw6683783046931543321 for PySem.W.segRunT by Mine.rf
name_quick tw6662432510661729299 for PySem.W.segRunT by Mine.rf
name_quick tw13180171748994924942 for PySem.W.segRunT by Mine.rf
name_quick tw470574548607681690 for PySem.W.segRunT by Mine.rf
name_quick tw12290603225136948437 for PySem.W.segRunT by Mine.rf
name_quick tw13642483538084851733 for PySem.W.segRunT by Mine.rf
name_quick tw2283851925072248500 for PySem.W.segRunT by Mine.rf
name_quick tw17954471519018878134 for PySem.W.segRunT by Mine.rf
name_quick tw4075660801711882420 for PySem.W.segRunT by Mine.rf
name_quick tw7299951869573292228 for PySem.W.segRunT by Mine.rf
name_quick tw17300597898927385350 for PySem.W.segRunT by Mine.rf
name_quick tw8376441433122354887 for PySem.W.segRunT by Mine.rf
name_quick tw4071324889030633612 for PySem.W.segRunT by Mine.rf
name_quick tw15894407043143930727 for PySem.W.segRunT by Mine.rf
name_quick tw17975652961387846372 for PySem.W.segRunT by Mine.rf
name_quick tw4039474712603431140 for PySem.W.segRunT by Mine.rf
name_quick tw13036272033356848781 for PySem.W.segRunT by Mine.rf
name_quick tw9458956999447867950 for PySem.W.segRunT by Mine.rf
name_quick tw15168306246750427876 for PySem.W.segRunT by Mine.rf
name_quick tw3698559305507148144 for PySem.W.segRunT by Mine.rf
name_quick tw10205541121877940668 for PySem.W.segRunT by Mine.rf
name_quick tw6245536207120538393 for PySem.W.segRunT by Mine.rf
name_quick tw3972328310683599613 for PySem.W.segRunT by Mine.rf
name_quick tw16916688483869632129 for PySem.W.segRunT by Mine.rf
name_quick tw3131671291697673992 for PySem.W.segRunT by Mine.rf
name_quick tw9763268239775435451 for PySem.W.segRunT by Mine.rf
name_quick tw9759809726879904816 for PySem.W.segRunT by Mine.rf
name_quick tw12450158673883907302 for PySem.W.segRunT by Mine.rf
name_quick tw7397068168572129948 for PySem.W.segRunT by Mine.rf
name_quick tw9564595351457756722 for PySem.W.segRunT by Mine.rf
name_quick tw17730448691065144110 for PySem.W.segRunT by Mine.rf
name_quick tw387338674003428930 for PySem.W.segRunT by Mine.rf
name_quick tw558745408833754511 for PySem.W.segRunT by Mine.rf
name_quick tw7581352650102555174 for PySem.W.segRunT by Mine.rf
name_quick tw17532718790514356516 for PySem.W.segRunT by Mine.rf
name_quick tw3880421473898291048 for PySem.W.segRunT by Mine.rf
name_quick tw9787463984185863102 for PySem.W.segRunT by Mine.rf
name_quick tw13141144453892091621 for PySem.W.segRunT by Mine.rf
name_quick tw3442601649717412197 for PySem.W.segRunT by Mine.rf
name_quick tw9529234661008812162 for PySem.W.segRunT by Mine.rf
name_quick tw18211773271919218964 for PySem.W.segRunT by Mine.rf
name_quick tw17863021456227041891 for PySem.W.segRunT by Mine.rf
name_quick tw14333388528381170442 for PySem.W.segRunT by Mine.rf
name_quick tw8753696776887207221 for PySem.W.segRunT by Mine.rf
name_quick tw932993149863042379 for PySem.W.segRunT by Mine.rf
name_quick tw14537914154153760125 for PySem.W.segRunT by Mine.rf
name_quick tw16643379632663270332 for PySem.W.segRunT by Mine.rf
name_quick tw17730428716208468724 for PySem.W.segRunT by Mine.rf
name_quick tw16966814322356759819 for PySem.W.segRunT by Mine.rf
name_quick tw5732905514179830355 for PySem.W.segRunT by Mine.rf
name_quick tw8796240567053077481 for PySem.W.segRunT by Mine.rf
name_quick tw15900120412870309639 for PySem.W.segRunT by Mine.rf
name_quick tw11566699232636054958 for PySem.W.segRunT by Mine.rf
name_quick tw183835017167291270 for PySem.W.segRunT by Mine.rf
name_quick tw16176465441171805009 for PySem.W.segRunT by Mine.rf
namespace Mine
local macro_rules | `(tactic| walk_at $s:str) => `(tactic| k_extra $s)
-- 00
set_option maxHeartbeats 8000000 in
open_top hd for PySem.Challenge.rw_or0065_01
noncomputable abbrev LO : List Str := looseW hd.view_39 [Str.ofString "PostError", Str.ofString "CHARSETS", Str.ofString "UNKNOWN_SIGN"]
noncomputable abbrev Led := List (Addr × Obj)
/-- what a call of the def at f does, from any caller: Post tells the value and the ledger -/
noncomputable def MC (w : World) (f : Addr) (vs : List Value) (news : Led) (kd ku : Nat) (Post : Value → Led → Prop) : Prop :=
  ∀ (mean : ExcName → Option Value) (mg mb : Str → Option Value) (dp un : Nat) (gd : Option (List Code)) (cn : Str) (cs : Scope) (a : Addr) (ccd : Value) (cl : List (Str × Addr)) (outer : List Env) (A₀ : Around) (base h₀ : Heap) (L : Addr)
    (m : Str → Option Value) (hp : Heap) (gs : Array GenState) (dr : Drawn) (tk0 : Nat) (os : OsState) (Q E : Value → Shared → Prop),
    Below A₀ base outer h₀ → Fr h₀ L hp m → (hd.heap_39 w.params).In h₀ → News h₀ L hp news → Top hd.view_39 LO mean mg mb h₀ → cs.kind = .function → dp + kd < recursionLimit → un + ku < cLine →
    (∀ v news' h' tk', Post v news' → Fr h₀ L h' m → News h₀ L h' news' → Q v ⟨h', gs, dr, tk', os⟩) →
    wpAny (model PySem.Challenge.rw_or0065_01.row.prog w) (ktrTop dp un gd cn cs L a ccd cl outer) (call (.ref f) vs) Q E ⟨hp, gs, dr, tk0, os⟩
theorem nat_sub {i j : Int} (h0 : 0 ≤ i) (h1 : i ≤ j) : j.toNat - i.toNat = (j - i).toNat := by
  obtain ⟨a, rfl⟩ := Int.eq_ofNat_of_zero_le h0
  obtain ⟨b, rfl⟩ := Int.eq_ofNat_of_zero_le (Int.le_trans h0 h1)
  rw [Int.toNat_natCast, Int.toNat_natCast, Int.toNat_sub]
theorem or3 {a b c a' b' c' : Prop} (f : a → a') (g : b → b') (h : c → c') (x : a ∨ b ∨ c) : a' ∨ b' ∨ c' := x.imp f (Or.imp g h)
theorem rm {n a b k K : Nat} (h : a + K < n) (e : Nat.ble (b + k) K = true) : a + b + k < n :=
  Nat.lt_of_le_of_lt (Nat.le_trans (Nat.le_of_eq (Nat.add_assoc a b k)) (Nat.add_le_add_left (Nat.le_of_ble_eq_true e) a)) h
theorem rm0 {n a K : Nat} (h : a + K < n) : a < n := Nat.lt_of_le_of_lt (Nat.le_add_right a K) h
theorem rmd {dp un b k K : Nat} {gd : Option (List Code)} {cn : Str} {cs : Scope} {L a : Addr} {ccd : Value} {cl : List (Str × Addr)} {outer : List Env} (h : dp + K < recursionLimit) (e : Nat.ble (b + k) K = true) :
    (ktrTop dp un gd cn cs L a ccd cl outer).depth + b + k < recursionLimit := rm h e
theorem rmu {dp un b k K : Nat} {gd : Option (List Code)} {cn : Str} {cs : Scope} {L a : Addr} {ccd : Value} {cl : List (Str × Addr)} {outer : List Env} (h : un + K < cLine) (e : Nat.ble (b + k) K = true) :
    (ktrTop dp un gd cn cs L a ccd cl outer).units + b + k < cLine := rm h e
theorem rmd0 {dp un K : Nat} {gd : Option (List Code)} {cn : Str} {cs : Scope} {L a : Addr} {ccd : Value} {cl : List (Str × Addr)} {outer : List Env} (h : dp + K < recursionLimit) :
    (ktrTop dp un gd cn cs L a ccd cl outer).depth < recursionLimit := rm0 h
theorem rmu0 {dp un K : Nat} {gd : Option (List Code)} {cn : Str} {cs : Scope} {L a : Addr} {ccd : Value} {cl : List (Str × Addr)} {outer : List Env} (h : un + K < cLine) :
    (ktrTop dp un gd cn cs L a ccd cl outer).units < cLine := rm0 h
theorem rmdc {dp un b k : Nat} {gd : Option (List Code)} {cn : Str} {cs : Scope} {L a : Addr} {ccd : Value} {cl : List (Str × Addr)} {outer : List Env} (e : Nat.ble (dp + b + k + 1) recursionLimit = true) :
    (ktrTop dp un gd cn cs L a ccd cl outer).depth + b + k < recursionLimit := Nat.le_of_ble_eq_true e
theorem rmuc {dp un b k : Nat} {gd : Option (List Code)} {cn : Str} {cs : Scope} {L a : Addr} {ccd : Value} {cl : List (Str × Addr)} {outer : List Env} (e : Nat.ble (un + b + k + 1) 9900 = true) :
    (ktrTop dp un gd cn cs L a ccd cl outer).units + b + k < cLine := cLine_is.symm ▸ Nat.le_of_ble_eq_true e
theorem fold_let {α : Type} {M : Model} {A : Around} {t : Sem α} {Q : α → Shared → Prop} {E : Value → Shared → Prop} {s : Shared} (h : let qk := Q; let ek := E; wpAny M A t qk ek s) : wpAny M A t Q E s := h
theorem execs_let {M : Model} {A : Around} {st : Stmt} {rest : List Stmt} {env : Env} {Q : Flow → Shared → Prop} {E : Value → Shared → Prop} {s : Shared}
    (h : let qk : Flow → Shared → Prop := (fun f s' => match f with | .next => wpAny M A (execs rest env) Q E s' | f => Q f s'); let ek := E; wpAny M A (exec st env) qk ek s) : wpAny M A (execs (st :: rest) env) Q E s := wpAny_execs_cons h
theorem flush_00 : True := by (k_with_none; w_top off; first | (walk1; done) | exact trivial)
local macro_rules | `(tactic| ktr_room) => `(tactic| k_extra "ktr_room_1")
local macro_rules | `(tactic| ktr_units) => `(tactic| k_extra "ktr_units_2")
local macro_rules | `(tactic| k_in) => `(tactic| k_extra "k_in_3")
theorem reg_m00 : True := by
  (k_with "kfold" => ((fail_if_success (fail_if_success k_fold)); (with_reducible refine fold_let ?_); intro qk ek))
  (k_with "mc_enter" => (refine wpAny_call ?_; k_dflt (refine' code_def ?k1q2 ?k2q2 ?k3q2 ?k4q2 ?k5q2 ?kAq2 ?kFq2 ?kKq2 ?k6q2 ?k7q2 ?k8q2 ?k9q2 ?kBq2 ?_ ?c2q2 ?c3q2 ?c4q2 ?c5q2; (case kAq2 => exact rfl); (case kFq2 => exact rfl); (case kKq2 => assumption); (case k1q2 => k_asm); (case k2q2 => k_asm); (case k3q2 => k_asm); (case k4q2 => k_asm); (case k5q2 => k_asm); (case k6q2 => k_is); (case k7q2 => k_is); (case k8q2 => ktr_room); (case k9q2 => first | exact BindsTo.of_eq rfl | exact binds_K (by k_in) rfl (by k_is) rfl rfl rfl); (case c5q2 => decide); (case kBq2 => exact locs rfl); (case c2q2 => exact rfl); (case c3q2 => exact rfl); (case c4q2 => exact rfl); k_whole; intro g' L' h' FG' F' N' B' X' T'; (try dsimp only); (try k_lift B'); (try k_extra "kfold"))))
  (k_with "ktr_room_1" => (first | focus ((with_reducible refine' rmd ?hq3 ?eq3); (case hq3 => with_reducible assumption); (case eq3 => k_dflt (exact rfl)); done) | focus ((with_reducible refine' rmd0 ?hq3); (case hq3 => with_reducible assumption); done) | focus ((with_reducible refine' rmdc ?eq3); (case eq3 => k_dflt (exact rfl)); done) | focus (k_dflt (exact Nat.le_of_ble_eq_true rfl); done) | fail "room"))
  (k_with "ktr_units_2" => (first | focus ((with_reducible refine' rmu ?hq4 ?eq4); (case hq4 => with_reducible assumption); (case eq4 => k_dflt (exact rfl)); done) | focus ((with_reducible refine' rmu0 ?hq4); (case hq4 => with_reducible assumption); done) | focus ((with_reducible refine' rmuc ?eq4); (case eq4 => k_dflt (exact rfl)); done) | focus (k_dflt (exact Nat.le_of_ble_eq_true rfl); done) | fail "room"))
  (k_with "execs cons" => ((with_reducible refine execs_let ?_); intro qk ek))
  (k_with "eval Call" => k_extra "kfold")
  (k_with "eval BinOp" => k_extra "kfold")
  (k_with "eval Subscript" => k_extra "kfold")
  (k_with "isTrue Compare" => k_extra "kfold")
  (k_with "eval Compare" => k_extra "kfold")
  (k_with "k_in_3" => (first | k_in_fast | with_reducible assumption | exact Frag.In.keeps (by k_asm) (Fr.keep (by k_asm))))
  trivial
-- 01
theorem reg_p01 : True := by
  (k_with "compareOp NotIn int bytes" => (guard_hyp tag01 : True; (k_here; (refine notIn_bytes (by omega) (by omega) ?_); (try rw [barred_is (by omega) (by omega)]))))
  (k_with "compareOp In int bytes" => (guard_hyp tag01 : True; (k_here; (refine in_bytes (by omega) (by omega) ?_))))
  trivial
theorem gives_bytes_contains (b : Array UInt8) (i : Int) (t u : Tok) (h0 : 0 ≤ i) (h1 : i < 256) :
    Gives («bytes.__contains__» ⟨[.bytes b t, .int i u], []⟩) (.val (.bool (b.contains i.toNat.toUInt8))) := by
  refine .of_wp fun M A E s Q hq => ?_
  show wpAny M A (Bytes.containsIn "bytes.__contains__" (.bytes b t) (.int i u) >>= fun r => _) _ E s
  refine wpAny_bind ?_
  unfold Bytes.containsIn
  refine wpAny_bind (wpAny_attempt ?_)
  refine wpAny_of_eq (a := i) rfl ?_
  refine wpAny_bind (wpAny_of_eq KBy.buffer_eq ?_)
  show wpAny M A (if (decide (i < 0) || decide (i ≥ 256)) = true then _ else _) _ E s
  rw [if_neg (by simp; omega)]
  exact wpAny_pure (wpAny_pure ⟨_, rfl, hq⟩)
section
variable {prog : Program} {w : World} {A : Around} {E : Value → Shared → Prop} {s : Shared} {b : Array UInt8} {t u : Tok}
theorem in_bytes {i : Int} {Q : Value → Shared → Prop} (h0 : 0 ≤ i) (h1 : i < 256) (h : Q (.bool (b.contains i.toNat.toUInt8)) s) : wpAny (model prog w) A (compareOp .In (.int i u) (.bytes b t)) Q E s :=
  in_gives (typeIs_bytes s b t) FB.slot_bytes_contains FB.entry_bytes_contains (FB.args_bytes_contains_2 _ _) (gives_bytes_contains b i t u h0 h1) h
theorem notIn_bytes {i : Int} {Q : Value → Shared → Prop} (h0 : 0 ≤ i) (h1 : i < 256) (h : Q (.bool (!(b.contains i.toNat.toUInt8))) s) : wpAny (model prog w) A (compareOp .NotIn (.int i u) (.bytes b t)) Q E s :=
  notIn_gives (typeIs_bytes s b t) FB.slot_bytes_contains FB.entry_bytes_contains (FB.args_bytes_contains_2 _ _) (gives_bytes_contains b i t u h0 h1) h
end
noncomputable def barred : List Int := [40, 41, 60, 62, 64, 44, 59, 58, 92, 34, 47, 91, 93, 63, 61]
noncomputable def tokB (c : Int) : Bool := decide (32 < c) && decide (c < 127) && !barred.contains c
theorem barred_is' : ∀ n : Fin 256, (#[40, 41, 60, 62, 64, 44, 59, 58, 92, 34, 47, 91, 93, 63, 61] : Array UInt8).contains n.1.toUInt8 = barred.contains (n.1 : Int) := by decide +kernel
theorem barred_is {c : Int} (h0 : 0 ≤ c) (h1 : c < 256) : (#[40, 41, 60, 62, 64, 44, 59, 58, 92, 34, 47, 91, 93, 63, 61] : Array UInt8).contains c.toNat.toUInt8 = barred.contains c := by
  have := barred_is' ⟨c.toNat, by omega⟩
  rw [show ((c.toNat : Nat) : Int) = c by omega] at this
  exact this
set_option maxHeartbeats 8000000 in
theorem is_token_code (w : World) (c : Int) (t : Tok) (news : Led) (hc2 : c < 256): MC w 324 [.int c t] news 1 8 (fun v n' => n' = news ∧ v = .bool (tokB c)) := by
  have tag01 : True := trivial
  intro mean mg mb dp un gd cn cs a ccd cl outer A₀ base h₀ L m hp0 gs0 dr0 tk0 os0 Q E B F X N T hk hd hu hret
  k_extra "mc_enter"
  k_steps
  all_goals (refine hret _ _ _ _ ⟨rfl, ?_⟩ (by k_asm) (by k_asm))
  all_goals (simp only [tokB]; simp [*]; try omega)
local macro_rules | `(tactic| k_all) => `(tactic| assumption)
theorem reg_m01 : True := by
  (k_with "compareOp NotIn int bytes" => (k_here; (refine notIn_bytes (by omega) (by omega) ?_)))
  (k_with "compareOp In int bytes" => (k_here; (refine in_bytes (by omega) (by omega) ?_)))
  (k_with "ite" => (k_here; k_dflt (first | (refine' ite_pos ?hcq16 ?_; (case hcq16 => first | with_reducible assumption | ((simp only [decide_eq_true_eq, beq_iff_eq, bne_iff_ne, ne_eq]) <;> omega))) | (refine' ite_neg ?hdq16 ?_; (case hdq16 => first | with_reducible assumption | ((simp only [decide_eq_true_eq, beq_iff_eq, bne_iff_ne, ne_eq]) <;> omega))))))
  trivial
-- 02
noncomputable abbrev curD (P : Params) (b : Array UInt8) (i n : Int) (kd ka ke td ta te : Tok) : Obj :=
  dictOf [⟨PyData.keyHash P (Str.ofString "data"), .str (Str.ofString "data") kd, .bytes b td⟩, ⟨PyData.keyHash P (Str.ofString "at"), .str (Str.ofString "at") ka, .int i ta⟩, ⟨PyData.keyHash P (Str.ofString "end"), .str (Str.ofString "end") ke, .int n te⟩] 3
noncomputable def pk (ks : List Int) (i : Int) : Int := if i < ks.length then ks.getD i.toNat 0 else -1
noncomputable def IntV (k : Int) : Value → Prop
  | .int i _ => i = k
  | _ => False
theorem IntV.out {k : Int} {v : Value} (h : IntV k v) : ∃ t, v = .int k t := by
  cases v <;> first | exact ⟨_, by rw [show _ = k from h]⟩ | exact h.elim
noncomputable def BoolV (k : Bool) (v : Value) : Prop := v = .bool k
theorem BoolV.out {k : Bool} {v : Value} (h : BoolV k v) : v = .bool k := h
noncomputable def NoneV (v : Value) : Prop := v = .none
theorem NoneV.out {v : Value} (h : NoneV v) : v = .none := h
/-- a call that may move the cursor at c (its dict dc) from i to j, and hands back a V -/
noncomputable def CC (w : World) (f : Addr) (vs : List Value) (c dc : Addr) (b : Array UInt8) (n i j : Int) (kd ku : Nat) (V : Value → Prop) : Prop :=
  ∀ (k1 k2 k3 t1 t2 t3 : Tok) (rest : Led), c ≠ dc → (∀ p ∈ rest, p.1 ≠ dc) →
    MC w f vs ((c, instObj 155 dc) :: (dc, curD w.params b i n k1 k2 k3 t1 t2 t3) :: rest) kd ku (fun v n' => V v ∧ ∃ t2', n' = (c, instObj 155 dc) :: (dc, curD w.params b j n k1 k2 k3 t1 t2' t3) :: rest)
section
variable {w : World} {f : Addr} {vs : List Value} {c dc : Addr} {b : Array UInt8} {n i j : Int} {kd ku : Nat} {V : Value → Prop}
  {mean : ExcName → Option Value} {mg mb : Str → Option Value} {dp un : Nat} {gd : Option (List Code)} {cn : Str} {cs : Scope} {a : Addr} {ccd : Value} {cl : List (Str × Addr)} {outer : List Env} {A₀ : Around} {base h₀ : Heap} {L : Addr}
    {m : Str → Option Value} {s : Shared} {Q E : Value → Shared → Prop} {news : Led} {news' : Tok → Led} {k1 k2 k3 t1 t2 t3 : Tok}
theorem CC.use (h : CC w f vs c dc b n i j kd ku V) (B : Below A₀ base outer h₀) (F : Fr h₀ L s.heap m) (X : (hd.heap_39 w.params).In h₀) (N : News h₀ L s.heap news) (T : Top hd.view_39 LO mean mg mb h₀) (hk : cs.kind = .function)
    (hc : (c, instObj 155 dc) ∈ news) (hu : ∀ t2', Upd dc (curD w.params b i n k1 k2 k3 t1 t2 t3) (curD w.params b j n k1 k2 k3 t1 t2' t3) news (news' t2')) (hd : dp + kd < recursionLimit) (hun : un + ku < cLine)
    (ret : ∀ v t2' h' tk', V v → Fr h₀ L h' m → News h₀ L h' (news' t2') → Q v { s with heap := h', toks := tk' }) :
    wpAny (model PySem.Challenge.rw_or0065_01.row.prog w) (ktrTop dp un gd cn cs L a ccd cl outer) (call (.ref f) vs) Q E s := by
  obtain ⟨pre, post, e1, -, h1, h2⟩ := (hu 0).split
  have hcd : c ≠ dc := by
    intro e
    subst e
    rw [e1] at hc
    rcases List.mem_append.mp hc with q | q
    · exact h1 _ q rfl
    · rcases List.mem_cons.mp q with q | q
      · cases q
      · exact h2 _ q rfl
  refine h k1 k2 k3 t1 t2 t3 (pre ++ post) hcd (fun p hp => (List.mem_append.mp hp).elim (h1 p) (h2 p)) mean mg mb dp un gd cn cs a ccd cl outer A₀ base h₀ L m s.heap s.gens s.drawn s.toks s.os Q E B F X ?_ T hk hd hun ?_
  · intro p hp
    rcases List.mem_cons.mp hp with rfl | hp
    · exact N _ hc
    · refine N p ?_
      rw [e1]
      rcases List.mem_cons.mp hp with rfl | hp
      · simp
      · rcases List.mem_append.mp hp with q | q
        · exact List.mem_append_left _ q
        · exact List.mem_append_right _ (.tail _ q)
  · rintro v n' h' tk' ⟨hV, t2', rfl⟩ F' N'
    refine ret v t2' h' tk' hV F' ?_
    obtain ⟨pre', post', e1', e2', h1', h2'⟩ := (hu t2').split
    rw [e2']
    intro p hp
    have hin : p ∈ news ∨ p = (dc, curD w.params b j n k1 k2 k3 t1 t2' t3) := by
      rw [e1']
      rcases List.mem_append.mp hp with q | q
      · exact .inl (List.mem_append_left _ q)
      · rcases List.mem_cons.mp q with q | q
        · exact .inr q
        · exact .inl (List.mem_append_right _ (.tail _ q))
    have hoff : p = (dc, curD w.params b j n k1 k2 k3 t1 t2' t3) ∨ p.1 ≠ dc := by
      rcases List.mem_append.mp hp with q | q
      · exact .inr (h1' p q)
      · rcases List.mem_cons.mp q with q | q
        · exact .inl q
        · exact .inr (h2' p q)
    rcases hoff with rfl | hne
    · exact N' _ (by simp)
    · have hin' : p ∈ pre ++ (dc, curD w.params b i n k1 k2 k3 t1 t2 t3) :: post := by
        rw [← e1]
        rcases hin with q | q
        · exact q
        · exact absurd (by rw [q]) hne
      refine N' p (.tail _ (.tail _ ?_))
      rcases List.mem_append.mp hin' with q | q
      · exact List.mem_append_left _ q
      · rcases List.mem_cons.mp q with q | q
        · exact absurd (by rw [q]) hne
        · exact List.mem_append_right _ q
theorem CC.useI {x : Int} (h : CC w f vs c dc b n i j kd ku (IntV x)) (B : Below A₀ base outer h₀) (F : Fr h₀ L s.heap m) (X : (hd.heap_39 w.params).In h₀) (N : News h₀ L s.heap news) (T : Top hd.view_39 LO mean mg mb h₀) (hk : cs.kind = .function)
    (hc : (c, instObj 155 dc) ∈ news) (hu : ∀ t2', Upd dc (curD w.params b i n k1 k2 k3 t1 t2 t3) (curD w.params b j n k1 k2 k3 t1 t2' t3) news (news' t2')) (hd : dp + kd < recursionLimit) (hun : un + ku < cLine)
    (ret : ∀ u t2' h' tk', Fr h₀ L h' m → News h₀ L h' (news' t2') → Q (.int x u) { s with heap := h', toks := tk' }) :
    wpAny (model PySem.Challenge.rw_or0065_01.row.prog w) (ktrTop dp un gd cn cs L a ccd cl outer) (call (.ref f) vs) Q E s :=
  CC.use h B F X N T hk hc hu hd hun fun v t2' h' tk' hV F' N' => by obtain ⟨u, rfl⟩ := IntV.out hV; exact ret u t2' h' tk' F' N'
theorem CC.useB {x : Bool} (h : CC w f vs c dc b n i j kd ku (BoolV x)) (B : Below A₀ base outer h₀) (F : Fr h₀ L s.heap m) (X : (hd.heap_39 w.params).In h₀) (N : News h₀ L s.heap news) (T : Top hd.view_39 LO mean mg mb h₀) (hk : cs.kind = .function)
    (hc : (c, instObj 155 dc) ∈ news) (hu : ∀ t2', Upd dc (curD w.params b i n k1 k2 k3 t1 t2 t3) (curD w.params b j n k1 k2 k3 t1 t2' t3) news (news' t2')) (hd : dp + kd < recursionLimit) (hun : un + ku < cLine)
    (ret : ∀ t2' h' tk', Fr h₀ L h' m → News h₀ L h' (news' t2') → Q (.bool x) { s with heap := h', toks := tk' }) :
    wpAny (model PySem.Challenge.rw_or0065_01.row.prog w) (ktrTop dp un gd cn cs L a ccd cl outer) (call (.ref f) vs) Q E s :=
  CC.use h B F X N T hk hc hu hd hun fun v t2' h' tk' hV F' N' => by obtain rfl := BoolV.out hV; exact ret t2' h' tk' F' N'
theorem CC.useN (h : CC w f vs c dc b n i j kd ku (NoneV)) (B : Below A₀ base outer h₀) (F : Fr h₀ L s.heap m) (X : (hd.heap_39 w.params).In h₀) (N : News h₀ L s.heap news) (T : Top hd.view_39 LO mean mg mb h₀) (hk : cs.kind = .function)
    (hc : (c, instObj 155 dc) ∈ news) (hu : ∀ t2', Upd dc (curD w.params b i n k1 k2 k3 t1 t2 t3) (curD w.params b j n k1 k2 k3 t1 t2' t3) news (news' t2')) (hd : dp + kd < recursionLimit) (hun : un + ku < cLine)
    (ret : ∀ t2' h' tk', Fr h₀ L h' m → News h₀ L h' (news' t2') → Q .none { s with heap := h', toks := tk' }) :
    wpAny (model PySem.Challenge.rw_or0065_01.row.prog w) (ktrTop dp un gd cn cs L a ccd cl outer) (call (.ref f) vs) Q E s :=
  CC.use h B F X N T hk hc hu hd hun fun v t2' h' tk' hV F' N' => by obtain rfl := NoneV.out hV; exact ret t2' h' tk' F' N'
end
set_option maxHeartbeats 8000000 in
theorem peek (w : World) (c dc : Addr) (b : Array UInt8) (ks : List Int) (i : Int) (hk : KBw.bInts b = ks) (hi : 0 ≤ i) (hin : i ≤ ks.length) (hsz : ks.length ≤ 16777216) :
   CC w 103 [.ref c] c dc b ks.length i i 1 8 (IntV (pk ks i)) := by
  intro k1 k2 k3 t1 t2 t3 rest hcd hoff
  intro mean mg mb dp un gd cn cs a ccd cl outer A₀ base h₀ L m hp0 gs0 dr0 tk0 os0 Q E B F X N T hkk hd hu hret
  k_extra "mc_enter"
  k_steps
  all_goals (refine hret _ _ _ _ ⟨?_, _, rfl⟩ (by k_asm) (by k_asm))
  all_goals (show _ = pk ks i; simp only [pk])
  all_goals (first | (rw [if_pos (by omega)]; simp) | rw [if_neg (by omega)])
theorem allLt_ne {d : Addr} {l : Led} (h : AllLt d l) : ∀ p ∈ l, p.1 ≠ d := by
  induction l with
  | nil => intro p hp; cases hp
  | cons x r ih =>
    intro p hp
    have h1 : x.1 < d := h.1
    have h2 : AllLt d r := h.2
    rcases List.mem_cons.mp hp with e | hp
    · rw [e]; exact Nat.ne_of_lt h1
    · exact ih h2 p hp
theorem ne_cls {h₀ h : Heap} {L a b : Addr} {o o' : Obj} {news : Led} (N : News h₀ L h news) (h1 : (a, o) ∈ news) (h2 : (b, o') ∈ news) (hne : o.cls ≠ o'.cls) : a ≠ b := by
  intro e
  subst e
  have e := (N _ h1).1.symm.trans (N _ h2).1
  exact hne (congrArg Obj.cls (Option.some.inj e))
local macro_rules | `(tactic| k_all) => `(tactic| exact allLt_ne (by assumption))
local macro_rules | `(tactic| k_ne) => `(tactic| k_extra "k_ne_4")
theorem reg_m02 : True := by
  (k_with "cc_val" => first | (obtain ⟨u9, e9⟩ := IntV.out (by assumption); subst e9) | (obtain e9 := BoolV.out (by assumption); subst e9) | (obtain e9 := NoneV.out (by assumption); subst e9))
  (k_with "call ref" => (k_here; (try dsimp only [List.nil_append, List.cons_append, List.append_nil]); (with_reducible show wpAny _ _ (call (Value.ref 103) [Value.ref _]) _ _ _); k_dflt (refine' CC.useI (peek _ _ _ _ _ _ ?p1q18 ?p2q18 ?p3q18 ?p4q18) ?Bq18 ?Fq18 ?Xq18 ?Nq18 ?Tq18 ?hkq18 ?hcq18 ?huq18 ?hdq18 ?hunq18 ?_; (case Bq18 => k_asm); (case Fq18 => k_asm); (case Xq18 => k_asm); (case Nq18 => k_asm); (case Tq18 => k_asm); (case hkq18 => first | exact rfl | assumption); (case hcq18 => k_mem); (case huq18 => (intro t9; k_upd)); (case p1q18 => assumption); (case p2q18 => omega); (case p3q18 => omega); (case p4q18 => omega); (case hdq18 => ktr_room); (case hunq18 => ktr_units)); intro u9 t9 h9 tk9 F9 N9; (try k_sweep); (try dsimp only); (try k_extra "kfold")))
  (k_with "kne" => (rename (_ : Addr) < _ ∧ _ => hx9; with_reducible first | exact Nat.ne_of_gt hx9.1 | exact Nat.ne_of_lt hx9.1 | exact Nat.ne_of_gt hx9.2.1 | exact Nat.ne_of_lt hx9.2.1 | exact Nat.ne_of_gt hx9.2.2.1 | exact Nat.ne_of_lt hx9.2.2.1 | exact Nat.ne_of_gt hx9.2.2.2.1 | exact Nat.ne_of_lt hx9.2.2.2.1 | exact Nat.ne_of_gt hx9.2.2.2.2.1 | exact Nat.ne_of_lt hx9.2.2.2.2.1 | exact Nat.ne_of_gt hx9.2.2.2.2.2.1 | exact Nat.ne_of_lt hx9.2.2.2.2.2.1 | exact Nat.ne_of_gt hx9.2.2.2.2.2.2.1 | exact Nat.ne_of_lt hx9.2.2.2.2.2.2.1 | exact Nat.ne_of_gt hx9.2.2.2.2.2.2.2.1 | exact Nat.ne_of_lt hx9.2.2.2.2.2.2.2.1 | exact Nat.ne_of_gt hx9.2.2.2.2.2.2.2.2.1 | exact Nat.ne_of_lt hx9.2.2.2.2.2.2.2.2.1 | (clear hx9; k_extra "kne")))
  (k_with "kne2" => (rename (_ : Addr) ≠ _ ∧ _ => hx9; with_reducible first | exact hx9.1 | exact Ne.symm hx9.1 | exact hx9.2.1 | exact Ne.symm hx9.2.1 | exact hx9.2.2.1 | exact Ne.symm hx9.2.2.1 | exact hx9.2.2 | exact Ne.symm hx9.2.2 | exact hx9.2.2.2.1 | exact Ne.symm hx9.2.2.2.1 | (clear hx9; k_extra "kne2")))
  (k_with "k_ne_4" => ((refine neN ?_; (try dsimp only); first | assumption | exact Ne.symm (by assumption) | (refine' ne_cls ?Nq21 ?aq21 ?bq21 ?cq21; (case Nq21 => assumption); (case aq21 => k_mem); (case bq21 => k_mem); (case cq21 => (show Value.type _ ≠ Value.type _; decide))) | k_extra "kne" | k_extra "kne2" | omega)))
  trivial
-- 03
theorem pk_lt {ks : List Int} {i : Int} (h : 0 ≤ pk ks i) : i < ks.length := by
  unfold pk at h
  split at h
  · assumption
  · omega
set_option maxHeartbeats 8000000 in
theorem take (w : World) (c dc : Addr) (b : Array UInt8) (ks : List Int) (i : Int) (hk : KBw.bInts b = ks) (hi : 0 ≤ i) (hin : i ≤ ks.length) (hsz : ks.length ≤ 16777216) :
   CC w 110 [.ref c] c dc b ks.length i (if 0 ≤ pk ks i then i + 1 else i) 2 16 (IntV (pk ks i)) := by
  intro k1 k2 k3 t1 t2 t3 rest hcd hoff
  intro mean mg mb dp un gd cn cs a ccd cl outer A₀ base h₀ L m hp0 gs0 dr0 tk0 os0 Q E B F X N T hkk hd hu hret
  k_extra "mc_enter"
  k_steps
  all_goals (first | rw [if_pos (by assumption)] at hret | rw [if_neg (by assumption)] at hret)
  all_goals (refine hret _ _ _ _ ⟨by first | assumption | exact rfl, _, rfl⟩ (by k_asm) (by k_asm))
set_option maxHeartbeats 8000000 in
theorem is_done (w : World) (c dc : Addr) (b : Array UInt8) (n i : Int) :
   CC w 95 [.ref c] c dc b n i i 1 8 (BoolV (decide (n ≤ i))) := by
  intro k1 k2 k3 t1 t2 t3 rest hcd hoff
  intro mean mg mb dp un gd cn cs a ccd cl outer A₀ base h₀ L m hp0 gs0 dr0 tk0 os0 Q E B F X N T hkk hd hu hret
  k_extra "mc_enter"
  k_steps
  all_goals (refine hret _ _ _ _ ⟨?_, _, rfl⟩ (by k_asm) (by k_asm))
  all_goals (unfold BoolV; simp)
theorem reg_m03 : True := by
  (k_with "call ref" => (k_here; (try dsimp only [List.nil_append, List.cons_append, List.append_nil]); (with_reducible show wpAny _ _ (call (Value.ref 110) [Value.ref _]) _ _ _); k_dflt (refine' CC.useI (take _ _ _ _ _ _ ?p1q22 ?p2q22 ?p3q22 ?p4q22) ?Bq22 ?Fq22 ?Xq22 ?Nq22 ?Tq22 ?hkq22 ?hcq22 ?huq22 ?hdq22 ?hunq22 ?_; (case Bq22 => k_asm); (case Fq22 => k_asm); (case Xq22 => k_asm); (case Nq22 => k_asm); (case Tq22 => k_asm); (case hkq22 => first | exact rfl | assumption); (case hcq22 => k_mem); (case huq22 => (intro t9; k_upd)); (case p1q22 => assumption); (case p2q22 => omega); (case p3q22 => omega); (case p4q22 => omega); (case hdq22 => ktr_room); (case hunq22 => ktr_units)); intro u9 t9 h9 tk9 F9 N9; (try k_sweep); (try dsimp only); (try k_extra "kfold")))
  (k_with "call ref" => (k_here; (try dsimp only [List.nil_append, List.cons_append, List.append_nil]); (with_reducible show wpAny _ _ (call (Value.ref 95) [Value.ref _]) _ _ _); k_dflt (refine' CC.useB (is_done _ _ _ _ _ _) ?Bq23 ?Fq23 ?Xq23 ?Nq23 ?Tq23 ?hkq23 ?hcq23 ?huq23 ?hdq23 ?hunq23 ?_; (case Bq23 => k_asm); (case Fq23 => k_asm); (case Xq23 => k_asm); (case Nq23 => k_asm); (case Tq23 => k_asm); (case hkq23 => first | exact rfl | assumption); (case hcq23 => k_mem); (case huq23 => (intro t9; k_upd));  (case hdq23 => ktr_room); (case hunq23 => ktr_units)); intro t9 h9 tk9 F9 N9; (try k_sweep); (try dsimp only); (try k_extra "kfold")))
  trivial
-- 04
theorem reg_p04 : True := by
  (k_with "eval Call" => (guard_hyp tag04 : True; (k_here; (with_reducible show wpAny _ _ (eval (Expr.Call (Expr.Name (Str.ofString "is_token_code") _) _ [] _) _) _ _ _); k_dflt (refine Call_ ?_))))
  (k_with "call ref" => (guard_hyp tag04 : True; (k_here; (try dsimp only [List.nil_append, List.cons_append, List.append_nil]); (with_reducible show wpAny _ _ (call (Value.ref 324) [Value.int _ _]) _ _ _); k_dflt (refine' MC.use1 (is_token_code _ _ _ _ ?p1q25) ?Bq25 ?Fq25 ?Xq25 ?Nq25 ?Tq25 ?hkq25 ?hdq25 ?hunq25 ?_; (case Bq25 => k_asm); (case Fq25 => k_asm); (case Xq25 => k_asm); (case Nq25 => k_asm); (case Tq25 => k_asm); (case hkq25 => first | exact rfl | assumption); (case p1q25 => first | omega | (apply pk_up; assumption)); (case hdq25 => ktr_room); (case hunq25 => ktr_units)); intro h9 tk9 F9 N9;  (try k_sweep); (try dsimp only); (try k_extra "kfold"))))
  trivial
theorem MC.use {w : World} {f : Addr} {vs : List Value} {kd ku : Nat} {Post : Value → Led → Prop}
  {mean : ExcName → Option Value} {mg mb : Str → Option Value} {dp un : Nat} {gd : Option (List Code)} {cn : Str} {cs : Scope} {a : Addr} {ccd : Value} {cl : List (Str × Addr)} {outer : List Env} {A₀ : Around} {base h₀ : Heap} {L : Addr}
    {m : Str → Option Value} {s : Shared} {Q E : Value → Shared → Prop} {news : Led} (h : MC w f vs news kd ku Post) (B : Below A₀ base outer h₀) (F : Fr h₀ L s.heap m) (X : (hd.heap_39 w.params).In h₀) (N : News h₀ L s.heap news) (T : Top hd.view_39 LO mean mg mb h₀) (hk : cs.kind = .function)
    (hd : dp + kd < recursionLimit) (hun : un + ku < cLine)
    (ret : ∀ v n' h' tk', Post v n' → Fr h₀ L h' m → News h₀ L h' n' → Q v { s with heap := h', toks := tk' }) :
    wpAny (model PySem.Challenge.rw_or0065_01.row.prog w) (ktrTop dp un gd cn cs L a ccd cl outer) (call (.ref f) vs) Q E s :=
  h mean mg mb dp un gd cn cs a ccd cl outer A₀ base h₀ L m s.heap s.gens s.drawn s.toks s.os Q E B F X N T hk hd hun ret
noncomputable def BytesV (l : List Int) : Value → Prop
  | .bytes b _ => KBw.bInts b = l
  | _ => False
theorem BytesV.out {l : List Int} {v : Value} (h : BytesV l v) : ∃ b t, v = .bytes b t ∧ KBw.bInts b = l := by
  cases v <;> first | exact ⟨_, _, rfl, h⟩ | exact h.elim
section
variable {w : World} {f : Addr} {vs : List Value} {c dc : Addr} {b : Array UInt8} {n i j : Int} {kd ku : Nat}
  {mean : ExcName → Option Value} {mg mb : Str → Option Value} {dp un : Nat} {gd : Option (List Code)} {cn : Str} {cs : Scope} {a : Addr} {ccd : Value} {cl : List (Str × Addr)} {outer : List Env} {A₀ : Around} {base h₀ : Heap} {L : Addr}
    {m : Str → Option Value} {s : Shared} {Q E : Value → Shared → Prop} {news : Led} {news' : Tok → Led} {k1 k2 k3 t1 t2 t3 : Tok}
theorem CC.useY {l : List Int} (h : CC w f vs c dc b n i j kd ku (BytesV l)) (B : Below A₀ base outer h₀) (F : Fr h₀ L s.heap m) (X : (hd.heap_39 w.params).In h₀) (N : News h₀ L s.heap news) (T : Top hd.view_39 LO mean mg mb h₀) (hk : cs.kind = .function)
    (hc : (c, instObj 155 dc) ∈ news) (hu : ∀ t2', Upd dc (curD w.params b i n k1 k2 k3 t1 t2 t3) (curD w.params b j n k1 k2 k3 t1 t2' t3) news (news' t2')) (hd : dp + kd < recursionLimit) (hun : un + ku < cLine)
    (ret : ∀ b u t2' h' tk', KBw.bInts b = l → Fr h₀ L h' m → News h₀ L h' (news' t2') → Q (.bytes b u) { s with heap := h', toks := tk' }) :
    wpAny (model PySem.Challenge.rw_or0065_01.row.prog w) (ktrTop dp un gd cn cs L a ccd cl outer) (call (.ref f) vs) Q E s :=
  CC.use h B F X N T hk hc hu hd hun fun v t2' h' tk' hV F' N' => by obtain ⟨b9, u, rfl, e9⟩ := BytesV.out hV; exact ret b9 u t2' h' tk' e9 F' N'
theorem MC.use1 {V : Value} (h : MC w f vs news kd ku (fun v n' => n' = news ∧ v = V)) (B : Below A₀ base outer h₀) (F : Fr h₀ L s.heap m) (X : (hd.heap_39 w.params).In h₀) (N : News h₀ L s.heap news) (T : Top hd.view_39 LO mean mg mb h₀) (hk : cs.kind = .function)
    (hd : dp + kd < recursionLimit) (hun : un + ku < cLine)
    (ret : ∀ h' tk', Fr h₀ L h' m → News h₀ L h' news → Q V { s with heap := h', toks := tk' }) :
    wpAny (model PySem.Challenge.rw_or0065_01.row.prog w) (ktrTop dp un gd cn cs L a ccd cl outer) (call (.ref f) vs) Q E s :=
  MC.use h B F X N T hk hd hun fun v n' h' tk' hV F' N' => by obtain ⟨rfl, rfl⟩ := hV; exact ret h' tk' F' N'
theorem MC.use1i {x : Int} (h : MC w f vs news kd ku (fun v n' => n' = news ∧ IntV x v)) (B : Below A₀ base outer h₀) (F : Fr h₀ L s.heap m) (X : (hd.heap_39 w.params).In h₀) (N : News h₀ L s.heap news) (T : Top hd.view_39 LO mean mg mb h₀) (hk : cs.kind = .function)
    (hd : dp + kd < recursionLimit) (hun : un + ku < cLine)
    (ret : ∀ u h' tk', Fr h₀ L h' m → News h₀ L h' news → Q (.int x u) { s with heap := h', toks := tk' }) :
    wpAny (model PySem.Challenge.rw_or0065_01.row.prog w) (ktrTop dp un gd cn cs L a ccd cl outer) (call (.ref f) vs) Q E s :=
  MC.use h B F X N T hk hd hun fun v n' h' tk' hV F' N' => by obtain ⟨rfl, e⟩ := hV; obtain ⟨u, rfl⟩ := IntV.out e; exact ret u h' tk' F' N'
theorem MC.use2 {g : Tok → Value} (h : MC w f vs news kd ku (fun v n' => n' = news ∧ ∃ t, v = g t)) (B : Below A₀ base outer h₀) (F : Fr h₀ L s.heap m) (X : (hd.heap_39 w.params).In h₀) (N : News h₀ L s.heap news) (T : Top hd.view_39 LO mean mg mb h₀) (hk : cs.kind = .function)
    (hd : dp + kd < recursionLimit) (hun : un + ku < cLine)
    (ret : ∀ t h' tk', Fr h₀ L h' m → News h₀ L h' news → Q (g t) { s with heap := h', toks := tk' }) :
    wpAny (model PySem.Challenge.rw_or0065_01.row.prog w) (ktrTop dp un gd cn cs L a ccd cl outer) (call (.ref f) vs) Q E s :=
  MC.use h B F X N T hk hd hun fun v n' h' tk' hV F' N' => by obtain ⟨rfl, t, rfl⟩ := hV; exact ret t h' tk' F' N'
theorem MC.use3 {o : Tok → Tok → Obj} (h : MC w f vs news kd ku (fun v n' => ∃ a t1 t2, v = .ref a ∧ n' = (a, o t1 t2) :: news)) (B : Below A₀ base outer h₀) (F : Fr h₀ L s.heap m) (X : (hd.heap_39 w.params).In h₀) (N : News h₀ L s.heap news) (T : Top hd.view_39 LO mean mg mb h₀) (hk : cs.kind = .function)
    (hd : dp + kd < recursionLimit) (hun : un + ku < cLine)
    (ret : ∀ a t1 t2 h' tk', Fr h₀ L h' m → News h₀ L h' ((a, o t1 t2) :: news) → Q (.ref a) { s with heap := h', toks := tk' }) :
    wpAny (model PySem.Challenge.rw_or0065_01.row.prog w) (ktrTop dp un gd cn cs L a ccd cl outer) (call (.ref f) vs) Q E s :=
  MC.use h B F X N T hk hd hun fun v n' h' tk' hV F' N' => by obtain ⟨a, t1, t2, rfl, rfl⟩ := hV; exact ret a t1 t2 h' tk' F' N'
theorem MC.use4 {o : Array UInt8 → Tok → Tok → Obj} (h : MC w f vs news kd ku (fun v n' => ∃ a b t1 t2, v = .ref a ∧ n' = (a, o b t1 t2) :: news)) (B : Below A₀ base outer h₀) (F : Fr h₀ L s.heap m) (X : (hd.heap_39 w.params).In h₀) (N : News h₀ L s.heap news) (T : Top hd.view_39 LO mean mg mb h₀) (hk : cs.kind = .function)
    (hd : dp + kd < recursionLimit) (hun : un + ku < cLine)
    (ret : ∀ a b t1 t2 h' tk', Fr h₀ L h' m → News h₀ L h' ((a, o b t1 t2) :: news) → Q (.ref a) { s with heap := h', toks := tk' }) :
    wpAny (model PySem.Challenge.rw_or0065_01.row.prog w) (ktrTop dp un gd cn cs L a ccd cl outer) (call (.ref f) vs) Q E s :=
  MC.use h B F X N T hk hd hun fun v n' h' tk' hV F' N' => by obtain ⟨a, b, t1, t2, rfl, rfl⟩ := hV; exact ret a b t1 t2 h' tk' F' N'
theorem MC.use4p {o : Array UInt8 → Tok → Tok → Obj} {P : Array UInt8 → Prop} (h : MC w f vs news kd ku (fun v n' => ∃ a b t1 t2, v = .ref a ∧ n' = (a, o b t1 t2) :: news ∧ P b)) (B : Below A₀ base outer h₀) (F : Fr h₀ L s.heap m) (X : (hd.heap_39 w.params).In h₀) (N : News h₀ L s.heap news) (T : Top hd.view_39 LO mean mg mb h₀) (hk : cs.kind = .function)
    (hd : dp + kd < recursionLimit) (hun : un + ku < cLine)
    (ret : ∀ a b t1 t2 h' tk', P b → Fr h₀ L h' m → News h₀ L h' ((a, o b t1 t2) :: news) → Q (.ref a) { s with heap := h', toks := tk' }) :
    wpAny (model PySem.Challenge.rw_or0065_01.row.prog w) (ktrTop dp un gd cn cs L a ccd cl outer) (call (.ref f) vs) Q E s :=
  MC.use h B F X N T hk hd hun fun v n' h' tk' hV F' N' => by obtain ⟨a, b, t1, t2, rfl, rfl, e⟩ := hV; exact ret a b t1 t2 h' tk' e F' N'
end
noncomputable def sub (ks : List Int) (i j : Int) : List Int := (ks.drop i.toNat).take (j - i).toNat
/-- from i up to j every code is of the kind, and at j none -/
structure Run (p : Int → Bool) (ks : List Int) (i j : Int) : Prop where
  lo : 0 ≤ i
  le : i ≤ j
  hi : j ≤ ks.length
  all : ∀ q, i ≤ q → q < j → p (pk ks q) = true
  stop : p (pk ks j) = false
theorem pk_up {b : Array UInt8} {ks : List Int} {i : Int} (h : KBw.bInts b = ks) : pk ks i < 256 := by
  subst h
  unfold pk
  split
  · exact (KBw.getD_in (ks := KBw.bInts b) (j := i.toNat) fun k hk => KBw.ints_in hk).2
  · omega
theorem tokB_pos {c : Int} (h : tokB c = true) : 0 ≤ c := by
  simp only [tokB, Bool.and_eq_true, decide_eq_true_eq] at h
  omega
theorem Run.at_end {p : Int → Bool} {ks : List Int} {i j q : Int} (all : ∀ q, i ≤ q → q < j → p (pk ks q) = true) (h1 : i ≤ q) (h2 : q ≤ j) (h : p (pk ks q) = false) : q = j := by
  by_cases e : q = j
  · exact e
  · have := all q h1 (by omega)
    rw [h] at this
    cases this
theorem clip_in {n : Nat} {k : Int} (h0 : 0 ≤ k) (h1 : k ≤ n) : clipAt n k = k.toNat := by
  obtain ⟨a, rfl⟩ := Int.eq_ofNat_of_zero_le h0
  rw [clipAt_nat, Int.toNat_natCast]
  exact Nat.min_eq_left (Int.ofNat_le.mp h1)
theorem sub_of {b : Array UInt8} {ks : List Int} {i j : Int} (h : KBw.bInts b = List.take (clipAt ks.length j - clipAt ks.length i) (List.drop (clipAt ks.length i) ks)) (h0 : 0 ≤ i) (h1 : i ≤ j) (h2 : j ≤ ks.length) : KBw.bInts b = sub ks i j := by
  rw [h, clip_in (by omega) h2, clip_in h0 (by omega), sub, nat_sub h0 h1]
theorem while_next {h₀ h' : Heap} {L : Addr} {s : Shared} {J : Nat → (Str → Option Value) → List (Addr × Obj) → Prop} {Q : Flow → Shared → Prop} {n n' tk : Nat} {m₂ : Str → Option Value} {news₂ : List (Addr × Obj)}
    (F : Fr h₀ L h' m₂) (N : News h₀ L h' news₂) (hn : n' < n) (j : J n' m₂ news₂) : WhileStep2 h₀ L s J Q n .next { s with heap := h', toks := tk } := ⟨_, _, _, _, _, rfl, F, N, hn, j⟩
inductive JT (P : Params) (c dc : Addr) (b : Array UInt8) (l i j : Int) (k1 k2 k3 t1 t3 : Tok) (rest : Led) : Nat → (Str → Option Value) → Led → Prop
  | mk (p : Int) (t t2' : Tok) (hp1 : i ≤ p) (hp2 : p ≤ j) : JT P c dc b l i j k1 k2 k3 t1 t3 rest (j - p).toNat (fun y => if y = Str.ofString "first" then some (Value.int i t) else List.lookup y [(Str.ofString "cursor", Value.ref c)])
      ((c, instObj 155 dc) :: (dc, curD P b p l k1 k2 k3 t1 t2' t3) :: rest)
inductive JZ (P : Params) (c dc : Addr) (b : Array UInt8) (l i : Int) (k1 k2 k3 t1 t3 : Tok) (rest : Led) : Nat → (Str → Option Value) → Led → Prop
  | mk (t t2' : Tok) : JZ P c dc b l i k1 k2 k3 t1 t3 rest 0 (fun y => if y = Str.ofString "first" then some (Value.int i t) else List.lookup y [(Str.ofString "cursor", Value.ref c)])
      ((c, instObj 155 dc) :: (dc, curD P b i l k1 k2 k3 t1 t2' t3) :: rest)
set_option maxHeartbeats 8000000 in
theorem take_token (w : World) (c dc : Addr) (b : Array UInt8) (ks : List Int) (i j : Int) (hk : KBw.bInts b = ks) (hr : Run tokB ks i j) (hij : i < j) (hsz : ks.length ≤ 16777216) :
   CC w 338 [.ref c] c dc b ks.length i j 4 40 (BytesV (sub ks i j)) := by
  intro k1 k2 k3 t1 t2 t3 rest hcd hoff
  have tag04 : True := trivial
  intro mean mg mb dp un gd cn cs a ccd cl outer A₀ base h₀ L m hp0 gs0 dr0 tk0 os0 Q E B F X N T hkk hd hu hret
  obtain ⟨hlo, hle, hhi, hall, hstop⟩ := hr
  k_with "exec While Call cons nil" => (
    guard_hyp tag04 : True
    rename Fr _ _ _ _ => lF
    rename News _ _ _ _ => lN
    with_unfolding_all refine While_inv2 (JT w.params c dc b ks.length i j k1 k2 k3 t1 t3 rest) lF lN ⟨i, _, _, by omega, by omega⟩ ?_
    clear lF lN
    rintro n m₁ nx h₁ tk₁ F₁ N₁ ⟨p, t, t2', hp1, hp2⟩
    have hp0 : 0 ≤ p := by omega
    have hp3 : p ≤ ks.length := by omega)
  k_extra "mc_enter"
  k_steps
  · have hne : p ≠ j := by rintro rfl; simp_all
    have h0 : 0 ≤ pk ks p := tokB_pos (by assumption)
    rw [if_pos h0] at *
    exact while_next (n' := (j - (p + 1)).toNat) (by assumption) (by assumption) (by omega) ⟨p + 1, _, _, by omega, by omega⟩
  · have := hall i (by omega) hij
    simp_all
  · have hpj : p = j := Run.at_end hall hp1 hp2 (by assumption)
    subst hpj
    refine hret _ _ _ _ ⟨?_, _, rfl⟩ (by k_asm) (by k_asm)
    exact sub_of (by assumption) hlo hle hhi
theorem reg_m04 : True := by
  (k_with "eval Call" => (k_here; (with_reducible show wpAny _ _ (eval (Expr.Call (Expr.Name (Str.ofString "is_token_code") _) _ [] _) _) _ _ _); k_dflt (refine Call_ ?_)))
  (k_with "call ref" => (k_here; (try dsimp only [List.nil_append, List.cons_append, List.append_nil]); (with_reducible show wpAny _ _ (call (Value.ref 324) [Value.int _ _]) _ _ _); k_dflt (refine' MC.use1 (is_token_code _ _ _ _ ?p1q27) ?Bq27 ?Fq27 ?Xq27 ?Nq27 ?Tq27 ?hkq27 ?hdq27 ?hunq27 ?_; (case Bq27 => k_asm); (case Fq27 => k_asm); (case Xq27 => k_asm); (case Nq27 => k_asm); (case Tq27 => k_asm); (case hkq27 => first | exact rfl | assumption); (case p1q27 => first | omega | (apply pk_up; assumption)); (case hdq27 => ktr_room); (case hunq27 => ktr_units)); intro h9 tk9 F9 N9;  (try k_sweep); (try dsimp only); (try k_extra "kfold")))
  trivial
-- 05
/-- at i stands l, to the end -/
structure At (ks : List Int) (i : Int) (l : List Int) : Prop where
  lo : 0 ≤ i
  hi : i ≤ ks.length
  eq : ks.drop i.toNat = l
theorem At.start (ks : List Int) : At ks 0 ks := ⟨by omega, by omega, rfl⟩
theorem At.len {ks : List Int} {i : Int} {l : List Int} (h : At ks i l) : i + l.length = ks.length := by
  have := congrArg List.length h.eq
  rw [List.length_drop] at this
  have := h.lo; have := h.hi
  omega
theorem At.app {ks : List Int} {i : Int} {u l : List Int} (h : At ks i (u ++ l)) : At ks (i + u.length) l := by
  have hl := h.len
  rw [List.length_append] at hl
  refine ⟨by have := h.lo; omega, by omega, ?_⟩
  have : (i + u.length).toNat = i.toNat + u.length := by have := h.lo; omega
  rw [this, ← List.drop_drop, h.eq, List.drop_left]
theorem At.next {ks : List Int} {i c : Int} {l : List Int} (h : At ks i (c :: l)) : At ks (i + 1) l := At.app (u := [c]) h
theorem At.lt {ks : List Int} {i c : Int} {l : List Int} (h : At ks i (c :: l)) : i < ks.length := by
  have := h.len
  rw [List.length_cons] at this
  omega
theorem At.pkc {ks : List Int} {i c : Int} {l : List Int} (h : At ks i (c :: l)) : pk ks i = c := by
  unfold pk
  rw [if_pos h.lt]
  have : ks[i.toNat]? = some c := by
    have e := congrArg (fun x => x[0]?) h.eq
    simpa using e
  simp [List.getD_eq_getElem?_getD, this]
theorem At.get {ks : List Int} {i c : Int} {l : List Int} (h : At ks i (c :: l)) : ks.getD i.toNat 0 = c := by
  have := h.pkc
  unfold pk at this
  rw [if_pos h.lt] at this
  exact this
theorem At.done {ks : List Int} {i : Int} (h : At ks i []) : i = ks.length := by
  have := h.len
  simpa using this
theorem At.pk_done {ks : List Int} {i : Int} (h : At ks i []) : pk ks i = -1 := by
  unfold pk
  rw [if_neg (by have := h.done; omega)]
theorem At.sub {ks : List Int} {i : Int} {u l : List Int} (h : At ks i (u ++ l)) : sub ks i (i + u.length) = u := by
  unfold Mine.sub
  rw [h.eq, show (i + (u.length : Int) - i).toNat = u.length by omega, List.take_left]
/-- the head of what is behind: -1 at the end -/
noncomputable def hd1 : List Int → Int
  | [] => -1
  | c :: _ => c
theorem At.pk_hd {ks : List Int} {i : Int} {l : List Int} (h : At ks i l) : pk ks i = hd1 l := by
  cases l with
  | nil => exact h.pk_done
  | cons c l => exact h.pkc
theorem Run.of_at {p : Int → Bool} {ks : List Int} {i : Int} {u l : List Int} (h : At ks i (u ++ l)) (hu : ∀ c ∈ u, p c = true) (hs : p (hd1 l) = false) : Run p ks i (i + u.length) := by
  refine ⟨h.lo, by omega, h.app.hi, fun q h1 h2 => ?_, by rw [h.app.pk_hd]; exact hs⟩
  have e : At ks q ((u.drop (q - i).toNat) ++ l) := by
    have : u = u.take (q - i).toNat ++ u.drop (q - i).toNat := (List.take_append_drop _ _).symm
    rw [this, List.append_assoc] at h
    have h' := h.app
    have hl : (u.take (q - i).toNat).length = (q - i).toNat := by rw [List.length_take]; omega
    rw [hl, show i + ((q - i).toNat : Int) = q by omega] at h'
    exact h'
  have hne : u.drop (q - i).toNat ≠ [] := by
    intro z
    have := congrArg List.length z
    rw [List.length_drop, List.length_nil] at this
    omega
  obtain ⟨c, r, hc⟩ := List.exists_cons_of_ne_nil hne
  rw [hc] at e
  rw [e.pkc]
  exact hu c (List.mem_of_mem_drop (i := (q - i).toNat) (by rw [hc]; exact List.mem_cons_self))
theorem At.slice {ks : List Int} {i : Int} {l : List Int} (h : At ks i l) (n : Nat) : List.take (clipAt ks.length (i + n) - clipAt ks.length i) (List.drop (clipAt ks.length i) ks) = l.take n := by
  have h1 := h.lo
  have h2 := h.hi
  have h3 := h.len
  rw [clip_in h1 h2, h.eq]
  have : clipAt ks.length (i + n) = min (i.toNat + n) ks.length := by
    have : i + (n : Int) = ((i.toNat + n : Nat) : Int) := by omega
    rw [this, clipAt_nat]
  rw [this]
  by_cases q : i.toNat + n ≤ ks.length
  · rw [show min (i.toNat + n) ks.length - i.toNat = n by omega]
  · rw [List.take_of_length_le (by omega), List.take_of_length_le (by omega)]
theorem At.slice1 {ks : List Int} {i c : Int} {l : List Int} (h : At ks i (c :: l)) : List.take (clipAt ks.length (i + 1) - clipAt ks.length i) (List.drop (clipAt ks.length i) ks) = [c] := h.slice 1
theorem At.slice2 {ks : List Int} {i c : Int} {l : List Int} (h : At ks i (c :: l)) : List.take (clipAt ks.length (i + 2) - clipAt ks.length i) (List.drop (clipAt ks.length i) ks) = c :: l.take 1 := h.slice 2
theorem ints_inj {a b : List UInt8} (h : a.map (fun c => (c.toNat : Int)) = b.map fun c => (c.toNat : Int)) : a = b := by
  induction a generalizing b with
  | nil => cases b with
    | nil => rfl
    | cons => cases h
  | cons x a ih => cases b with
    | nil => cases h
    | cons y b =>
      simp only [List.map_cons, List.cons.injEq] at h
      have : x = y := by apply UInt8.toNat_inj.mp; omega
      rw [this, ih h.2]
theorem beq_yes {b c : Array UInt8} (h : (b.toList == c.toList) = true) : KBw.bInts b = KBw.bInts c := by
  unfold KBw.bInts
  rw [eq_of_beq h]
theorem beq_no {b c : Array UInt8} (h : (b.toList == c.toList) = false) : KBw.bInts b ≠ KBw.bInts c := by
  intro e
  rw [ints_inj (a := b.toList) (b := c.toList) e] at h
  simp at h
set_option maxHeartbeats 8000000 in
theorem line_end_no (w : World) (b : Array UInt8) (tb ti : Tok) (ks : List Int) (i c : Int) (r : List Int) (news : Led) (hk : KBw.bInts b = ks) (hat : At ks i (c :: r)) (h10 : c ≠ 10) (h13 : c ≠ 13) (hsz : ks.length ≤ 16777216) :
   MC w 248 [.bytes b tb, .int i ti] news 1 8 (fun v n' => n' = news ∧ IntV (-1) v) := by
  intro mean mg mb dp un gd cn cs a ccd cl outer A₀ base h₀ L m hp0 gs0 dr0 tk0 os0 Q E B F X N T hkk hd hu hret
  have hlo := hat.lo
  have hlt := hat.lt
  k_extra "mc_enter"
  k_steps
  · have e := beq_yes (by assumption)
    simp_all [hat.slice1, KBw.bInts]
  · have e := beq_yes (by assumption)
    simp_all [hat.slice2, KBw.bInts]
  · exact hret _ _ _ _ ⟨rfl, rfl⟩ (by k_asm) (by k_asm)
theorem reg_m05 : True := by
  (k_with "eval Call" => (k_here; (with_reducible show wpAny _ _ (eval (Expr.Call (Expr.Name (Str.ofString "line_end") _) _ [] _) _) _ _ _); k_dflt (refine Call_ ?_)))
  (k_with "call ref" => (k_here; (try dsimp only [List.nil_append, List.cons_append, List.append_nil]); (with_reducible show wpAny _ _ (call (Value.ref 248) [Value.bytes _ _, Value.int _ _]) _ _ _); k_dflt (refine' MC.use1i (line_end_no _ _ _ _ _ _ _ _ _ ?p1q29 ?p2q29 ?p3q29 ?p4q29 ?p5q29) ?Bq29 ?Fq29 ?Xq29 ?Nq29 ?Tq29 ?hkq29 ?hdq29 ?hunq29 ?_; (case Bq29 => k_asm); (case Fq29 => k_asm); (case Xq29 => k_asm); (case Nq29 => k_asm); (case Tq29 => k_asm); (case hkq29 => first | exact rfl | assumption); (case p1q29 => assumption); (case p2q29 => assumption); (case p3q29 => assumption); (case p4q29 => assumption); (case p5q29 => assumption); (case hdq29 => ktr_room); (case hunq29 => ktr_units)); intro u9 h9 tk9 F9 N9;  (try k_sweep); (try dsimp only); (try k_extra "kfold")))
  trivial
-- 06
section
variable {prog : Program} {w : World} {A : Around} {E : Value → Shared → Prop} {s : Shared} {h₀ : Heap} {L : Addr} {m : Str → Option Value} {Q : Value → Shared → Prop}
theorem item_at {b : Array UInt8} {ks : List Int} {i c : Int} {r : List Int} {t ui : Tok} {value slice : PySem.Expr} (hk : KBw.bInts b = ks) (hat : At ks i (c :: r)) (hsz : ks.length ≤ 16777216)
    (h : ∀ t' k, 0 ≤ c → c < 256 → Q (.int c t') { s with toks := k })
    (hs : subscripted slice false (.bytes b t) (.int i ui) = operate [.bytes b t, .int i ui] (getItem (.bytes b t) (.int i ui)) := by with_unfolding_all rfl)
    (ht : ∀ r, letTemporaryGo value (.bytes b t) r = pure () := by intro _; with_unfolding_all rfl) : wpAny (model prog w) A (subscriptTail value slice (.bytes b t) (.int i ui)) Q E s := by
  refine KBw.item_K hk (by omega) hat.lo hat.lt ?_ hs ht
  rw [hat.get]
  exact h
theorem in_never_no {x : Int} {u : Tok} (F : Fr h₀ L s.heap m) (X : (hd.heap_39 w.params).In h₀) (h0 : x ≠ 0) (h1 : x ≠ 10) (h2 : x ≠ 13) (h : Q (.bool false) s) : wpAny (model prog w) A (compareOp .In (.int x u) (.ref 241)) Q E s := by
  have e : ([0, 10, 13] : List Int).any (· == x) = false := by simp; omega
  exact in_tuple_ints (tupK (X.keeps F.keep) (a := 241) rfl) (.cons 0 _ (.cons 10 _ (.cons 13 _ .nil))) (by rw [e]; exact h)
noncomputable def whiteB (x : Int) : Bool := ([9, 10, 13, 32] : List Int).any (· == x)
theorem in_white {x : Int} {u : Tok} {v : Bool} (F : Fr h₀ L s.heap m) (X : (hd.heap_39 w.params).In h₀) (e : whiteB x = v) (h : Q (.bool v) s) : wpAny (model prog w) A (compareOp .In (.int x u) (.ref 270)) Q E s := by
  subst e
  exact in_tuple_ints (tupK (X.keeps F.keep) (a := 270) rfl) (.cons 9 _ (.cons 10 _ (.cons 13 _ (.cons 32 _ .nil)))) h
end
section
variable {prog : Program} {w : World} {A : Around} {E : Value → Shared → Prop} {s : Shared} {Q : Value → Shared → Prop}
theorem is_one {b : Array UInt8} {c : Int} {k : UInt8} {n : Int} (h : KBw.bInts b = [c]) (hn : ((k.toNat : Nat) : Int) = n) : (b.toList == (#[k] : Array UInt8).toList) = decide (c = n) := by
  subst hn
  cases q : (b.toList == (#[k] : Array UInt8).toList) with
  | true =>
    have := beq_yes q
    rw [h] at this
    simp [KBw.bInts] at this
    simp [this]
  | false =>
    have := beq_no q
    rw [h] at this
    simp [KBw.bInts] at this
    simp [this]
theorem eq_b40 {b : Array UInt8} {c : Int} {t u : Tok} (hb : KBw.bInts b = [c]) (h : Q (.bool (decide (c = 40))) s) : wpAny (model prog w) A (compareOp .Eq (.bytes b t) (.bytes #[40] u)) Q E s :=
  eq_bytes (by rw [is_one hb (n := 40) rfl]; exact h)
theorem eq_b41 {b : Array UInt8} {c : Int} {t u : Tok} (hb : KBw.bInts b = [c]) (h : Q (.bool (decide (c = 41))) s) : wpAny (model prog w) A (compareOp .Eq (.bytes b t) (.bytes #[41] u)) Q E s :=
  eq_bytes (by rw [is_one hb (n := 41) rfl]; exact h)
theorem ne_b34 {b : Array UInt8} {c : Int} {t u : Tok} (hb : KBw.bInts b = [c]) (h : Q (.bool (decide (c ≠ 34))) s) : wpAny (model prog w) A (compareOp .NotEq (.bytes b t) (.bytes #[34] u)) Q E s :=
  ne_bytes (by rw [bne, is_one hb (n := 34) rfl]; simpa using h)
end
section
variable {prog : Program} {w : World} {A : Around} {E : Value → Shared → Prop} {s : Shared} {Q : Value → Shared → Prop}
theorem in_empty {i : Int} {t u : Tok} (h0 : 0 ≤ i) (h1 : i < 256) (h : Q (.bool false) s) : wpAny (model prog w) A (compareOp .In (.int i u) (.bytes #[] t)) Q E s := in_bytes h0 h1 (by simpa using h)
end
theorem reg_m06 : True := by
  (k_with "subscriptTail" => (k_here; (with_reducible show wpAny _ _ (subscriptTail _ _ (Value.bytes _ _) (Value.int _ _)) _ _ _); k_dflt (refine item_at (by with_reducible assumption) (by with_reducible assumption) (by with_reducible assumption) ?_); intro _ _ _ _))
  (k_with "compareOp In int ref" => (k_here; (with_reducible show wpAny _ _ (compareOp CmpOp.In (Value.int _ _) (Value.ref 241)) _ _ _); k_dflt (refine in_never_no (by with_reducible assumption) (by with_reducible assumption) (by omega) (by omega) (by omega) ?_)))
  (k_with "compareOp In int ref" => (k_here; (with_reducible show wpAny _ _ (compareOp CmpOp.In (Value.int _ _) (Value.ref 270)) _ _ _); k_dflt (refine in_white (by with_reducible assumption) (by with_reducible assumption) (by with_reducible assumption) ?_)))
  (k_with "compareOp Eq bytes bytes" => (k_here; first | refine eq_b40 (by with_reducible assumption) ?_ | refine eq_b41 (by with_reducible assumption) ?_))
  (k_with "compareOp NotEq bytes bytes" => (k_here; refine ne_b34 (by with_reducible assumption) ?_))
  (k_with "compareOp In int bytes" => (k_here; (with_reducible show wpAny _ _ (compareOp CmpOp.In _ (Value.bytes #[] _)) _ _ _); (refine in_empty (by omega) (by omega) ?_)))
  trivial
-- 06b
/-- two lists, item by item in a relation -/
inductive Two {α β : Type} (R : α → β → Prop) : List α → List β → Prop
  | nil : Two R [] []
  | cons {a : α} {b : β} {l : List α} {r : List β} (h : R a b) (t : Two R l r) : Two R (a :: l) (b :: r)
section
variable {α β γ : Type} {R S : α → β → Prop} {l l' : List α} {r r' : List β}
theorem Two.len (h : Two R l r) : l.length = r.length := by
  induction h with
  | nil => rfl
  | cons _ _ ih => exact congrArg (· + 1) ih
theorem Two.app (h : Two R l r) (h' : Two R l' r') : Two R (l ++ l') (r ++ r') := by
  induction h with
  | nil => exact h'
  | cons a _ ih => exact .cons a ih
theorem Two.snoc {a : α} {b : β} (h : Two R l r) (k : R a b) : Two R (l ++ [a]) (r ++ [b]) := h.app (.cons k .nil)
theorem Two.imp (hs : ∀ a b, R a b → S a b) (h : Two R l r) : Two S l r := by
  induction h with
  | nil => exact .nil
  | cons a _ ih => exact .cons (hs _ _ a) ih
theorem Two.get {i : Nat} {a : α} (h : Two R l r) (e : l[i]? = some a) : ∃ b, r[i]? = some b ∧ R a b := by
  induction h generalizing i with
  | nil => cases e
  | cons k _ ih => cases i with
    | zero => cases e; exact ⟨_, rfl, k⟩
    | succ i => exact ih e
theorem Two.take (n : Nat) (h : Two R l r) : Two R (l.take n) (r.take n) := by
  induction h generalizing n with
  | nil => rw [List.take_nil, List.take_nil]; exact .nil
  | cons a _ ih => cases n with
    | zero => exact .nil
    | succ n => exact .cons a (ih n)
/-- each item on the right side changed -/
theorem Two.right {f : β → β} (h : Two R l r) (hs : ∀ a b, a ∈ l → R a b → S a (f b)) : Two S l (r.map f) := by
  induction h with
  | nil => exact .nil
  | cons a _ ih => exact .cons (hs _ _ (.head _) a) (ih fun x y hx => hs x y (.tail _ hx))
theorem Two.any (p : β → Prop) (hs : ∀ a b, R a b → p b) (h : Two R l r) : ∀ b ∈ r, p b := by
  induction h with
  | nil => exact fun b hb => nomatch hb
  | cons a _ ih => exact List.forall_mem_cons.mpr ⟨hs _ _ a, ih⟩
end
/-- a list of bytes objects -/
noncomputable abbrev BsAre (vs : List Value) (us : List (List Int)) : Prop := Two (fun v u => BytesV u v) vs us
theorem bs_at {vs : List Value} {us : List (List Int)} {i : Nat} (hb : BsAre vs us) (hi : i < vs.length) : ∃ b t, vs[i] = .bytes b t ∧ us[i]? = some (KBw.bInts b) := by
  obtain ⟨u, e2, hu⟩ := hb.get (List.getElem?_eq_getElem hi)
  obtain ⟨b, tb, e1, rfl⟩ := hu.out
  exact ⟨b, tb, e1, e2⟩
section
variable {M : Model} {A : Around} {E : Value → Shared → Prop} {s : Shared}
theorem forRange {β : Type} {n : Nat} {f : Nat → β → Sem (ForInStep β)} (I : Nat → β → Shared → Prop) {Q : β → Shared → Prop} {c : β}
    (hstep : ∀ i c s, i < n → I i c s → wpAny M A (f i c) (fun r s' => match r with | .done c' => Q c' s' | .yield c' => I (i + 1) c' s') E s)
    (hend : ∀ c s, I n c s → Q c s) (h : I 0 c s) : wpAny M A (forIn [0:n] c f) Q E s := by
  rw [Std.Legacy.Range.forIn_eq_forIn_range']
  simp only [Std.Legacy.Range.size, Nat.sub_zero, Nat.add_sub_cancel, Nat.div_one]
  refine wpAny_forIn_list _ (fun l c s => ∃ i, i ≤ n ∧ l = List.range' i (n - i) 1 ∧ I i c s) Q ?_ ?_ _ c ⟨0, Nat.zero_le _, rfl, h⟩
  · rintro x rest c s ⟨i, hi, hl, hI⟩
    have hlt : i < n := by
      rcases Nat.lt_or_ge i n with h' | h'
      · exact h'
      · rw [show n - i = 0 by omega] at hl; simp at hl
    rw [show n - i = (n - (i + 1)) + 1 by omega, List.range'_succ] at hl
    obtain ⟨rfl, rfl⟩ := List.cons.inj hl
    refine wpAny_mono (hstep x c s hlt hI) (fun r s' h' => ?_) fun _ _ e => e
    cases r with
    | done c' => exact h'
    | yield c' => exact ⟨x + 1, hlt, rfl, h'⟩
  · rintro c s ⟨i, hi, hl, hI⟩
    have : i = n := by
      rcases Nat.lt_or_ge i n with h' | h'
      · rw [show n - i = (n - (i + 1)) + 1 by omega, List.range'_succ] at hl
        cases hl
      · omega
    exact hend c s (this ▸ hI)
end
section
variable {b c : Array UInt8} {t u : Tok}
theorem buffer_full {id : String} {full : Bool} : Bytes.buffer? id (.bytes b t) full = pure (some b) := by
  unfold Bytes.buffer?
  rw [KBy.special_eq KBy.look_buffer, KBy.own_buffer, KBy.own_release]
  kernel_rfl
theorem takeQuiet_eq {id : String} {f : Int} : Bytes.takeBufferQuiet? id (.bytes b t) f = pure (some (b, none)) := by
  delta Bytes.takeBufferQuiet? Bytes.takeBuffer?
  rw [KBy.special_eq KBy.look_buffer, KBy.own_buffer, buffer_full]
  kernel_rfl
end
namespace BJ
theorem slot_join : Slot "bytes" "join" "bytes.join" :=
  .of (owner := "bytes") (n := "join") (by rw [typeLookup_type, builtinLookup_eq_fast]; kernel_rfl) (by decide +kernel) (by decide +kernel) (by decide +kernel)
    (by first | exact .inl (by decide +kernel) | exact .inr (by decide +kernel)) (by rw [isSubtype_type]; kernel_rfl)
theorem type_join : typeOf (.builtin "bytes.join") = pure (.type "method_descriptor") := by show builtinType _ = _; rw [builtinType_eq_fast]; kernel_rfl
theorem entry_join : entryFor table "bytes.join" = some Builtin.«bytes.join» := entryFor_of_tree (by kernel_rfl)
theorem args_join (a b : Value) : argsOk "bytes.join" ⟨[a, b], []⟩ := by
  unfold argsOk; rw [signature?_of (id := "bytes.join") (n := ['n', 'i', 'o', 'j']) (o := ['s', 'e', 't', 'y', 'b']) (by kernel_rfl) FB.owner_bytes]; kernel_rfl
end BJ
noncomputable def catB (bs : List (Array UInt8)) : Array UInt8 := bs.foldl (· ++ ·) #[]
theorem joined_nil (bs : List (Array UInt8)) : KBw.bInts (Bytes.joined #[] bs) = (bs.map KBw.bInts).flatten := by
  unfold Bytes.joined
  have key : ∀ (l : List (Array UInt8)) (n : Nat) (o : Array UInt8), KBw.bInts ((l.zipIdx n).foldl (fun out (p, i) => (if i > 0 then out ++ #[] else out) ++ p) o) = KBw.bInts o ++ (l.map KBw.bInts).flatten := by
    intro l
    induction l with
    | nil => intro n o; simp
    | cons x l ih =>
      intro n o
      rw [List.zipIdx_cons, List.foldl_cons, ih]
      simp [KBw.bInts]
  rw [key]
  simp [KBw.bInts]
theorem letGo_plain {M : Model} {A : Around} {E : Value → Shared → Prop} {Q : Unit → Shared → Prop} {s : Shared} : ∀ (r k : List Value), Q () s → wpAny M A (letGo r k) Q E s
  | [], _, h => wpAny_pure h
  | _ :: r, k, h => wpAny_bind (wpAny_holding (wpAny_point (letGo_plain r k h)))
theorem joinLetGo_plain {M : Model} {A : Around} {E : Value → Shared → Prop} {Q : Unit → Shared → Prop} {s : Shared} : ∀ (r : List (Value × Option Value)) (k : List Value), (∀ p ∈ r, p.2 = none) → Q () s → wpAny M A (Bytes.joinLetGo r k) Q E s
  | [], _, _, h => wpAny_pure h
  | (x, none) :: r, k, hr, h => by
    unfold Bytes.joinLetGo
    exact wpAny_bind (letGo_plain _ _ (joinLetGo_plain r k (fun p hp => hr p (.tail _ hp)) h))
  | (x, some w) :: r, k, hr, h => nomatch hr _ (.head _)
theorem BsAre.take_succ {us : List (List Int)} {i : Nat} {u : List Int} (h : us[i]? = some u) : us.take (i + 1) = us.take i ++ [u] := by
  rw [List.take_add_one, h]; rfl
theorem size_catB : ∀ (l : List (Array UInt8)) (n : Nat), l.foldl (fun a x => a + x.size) n = n + ((l.map KBw.bInts).flatten).length
  | [], n => by simp
  | x :: l, n => by
    rw [List.foldl_cons, size_catB l]
    simp [KBw.bInts]
    omega
theorem take_flat_le : ∀ (us : List (List Int)) (i : Nat), ((us.take i).flatten).length ≤ us.flatten.length
  | [], i => by simp
  | u :: us, 0 => by simp
  | u :: us, i + 1 => by
    rw [List.take_succ_cons, List.flatten_cons, List.flatten_cons, List.length_append, List.length_append]
    have := take_flat_le us i
    omega
theorem match_one {α : Type} {M : Model} {A : Around} {E : Value → Shared → Prop} {s : Shared} {Q : α → Shared → Prop} {vs : List Value} {F : Value → Sem α} {G : Sem α}
    (h1 : ∀ x, vs = [x] → wpAny M A (F x) Q E s) (h2 : wpAny M A G Q E s) : wpAny M A (match vs.toArray with | #[x] => F x | _ => G) Q E s := by
  rcases vs with _ | ⟨x, _ | ⟨y, r⟩⟩
  · exact h2
  · exact h1 x rfl
  · exact h2
theorem bs_one {us : List (List Int)} {x : Value} (hb : BsAre [x] us) : ∃ b t, x = .bytes b t ∧ KBw.bInts b = us.flatten := by
  rcases hb with _ | ⟨h, ⟨⟩⟩
  obtain ⟨b, t, e, rfl⟩ := h.out
  exact ⟨b, t, e, (List.append_nil _).symm⟩
theorem meets_join (t : Tok) (l : Addr) {vs : List Value} {us : List (List Int)} (hb : BsAre vs us) (hz : us.flatten.length ≤ 16777216) :
    Meets (Builtin.«bytes.join» ⟨[.bytes #[] t, .ref l], []⟩) (fun _ R s => s.heap.IsList l vs.toArray ∧ ∀ v k, BytesV us.flatten v → R (.ok (.ret v)) { s with toks := k }) := by
  refine .of_wp fun prog w A R s hS => ?_
  obtain ⟨hl, h⟩ := hS
  obtain ⟨o, ho, hc, n, hd⟩ := id hl
  have hT : s.TypeIs (.ref l) "list" := ⟨o, ho, hc⟩
  show wpAny _ _ (Bytes.joinItems (.ref l) >>= fun r => _) _ _ s
  refine wpAny_bind ?_
  unfold Bytes.joinItems
  refine wpAny_bind (wpAny_typeOf hT (wpAny_pure ?_))
  refine wpAny_bind (wpAny_seqItems ho hd ?_)
  dsimp only
  refine wpAny_ite (KBc.ite_yes rfl ?_)
  refine match_one (fun x hx => ?_) ?_
  · obtain ⟨b, tb, rfl, e⟩ := bs_one (hx ▸ hb)
    refine wpAny_bind (wpAny_typeOf (typeIs_bytes _ b tb) ?_)
    refine wpAny_ite (KBc.ite_yes rfl ?_)
    exact wpAny_bind (wpAny_rule (wpAny_pure ⟨_, rfl, h _ _ e⟩))
  · refine wpAny_bind (forRange (fun i c s' => s' = s ∧ c.1.toList.map KBw.bInts = us.take i ∧ ∀ p ∈ c.2, p.2 = none ∧ p.1.onHeap = false) ?_ ?_ ⟨rfl, by simp, fun p hp => nomatch hp⟩)
    · rintro i ⟨parts, taken⟩ s' hi ⟨rfl, hp, ht⟩
      have hi' : i < vs.length := by simpa using hi
      obtain ⟨b, tb, e1, e2⟩ := bs_at hb hi'
      dsimp only
      refine wpAny_bind (wpAny_seqItems ho hd ?_)
      dsimp only
      have hx : vs.toArray.getD i Value.none = .bytes b tb := (dif_pos hi').trans e1
      rw [hx]
      have hany : (Bytes.Kind.bytes == Bytes.Kind.bytearray || taken.any fun x => x.fst.onHeap) = false := by
        rw [Bool.or_eq_false_iff]
        refine ⟨rfl, ?_⟩
        rw [List.any_eq_false]
        intro p hp
        simp [(ht p hp).2]
      refine wpAny_ite (KBy.ite_no (by rw [hany]; exact Bool.false_ne_true) ?_)
      refine wpAny_bind (wpAny_holding (wpAny_of_eq takeQuiet_eq ?_))
      dsimp only
      refine wpAny_bind (wpAny_seqItems ho hd ?_)
      dsimp only
      refine wpAny_ite (KBy.ite_no (by simp) ?_)
      refine wpAny_pure ⟨rfl, ?_, ?_⟩
      · rw [Array.toList_push, List.map_append, hp, BsAre.take_succ e2]; rfl
      · intro p hp
        rcases List.mem_append.mp hp with q | q
        · exact ht p q
        · rw [List.mem_singleton.mp q]; exact ⟨rfl, rfl⟩
    · rintro ⟨parts, taken⟩ s' ⟨rfl, hp, ht⟩
      have hlen : us.take vs.toArray.size = us := by
        rw [List.size_toArray, hb.len, List.take_length]
      rw [hlen] at hp
      dsimp only
      refine wpAny_bind (wpAny_of_eq (a := (#[] : Array UInt8)) rfl ?_)
      have htl : Bytes.tooLong (Array.foldl (fun x1 x2 => x1 + x2.size) ((#[] : Array UInt8).size * (parts.size - 1)) parts) = false := by
        refine KBy.tooLong_not ?_
        rw [← Array.foldl_toList, size_catB, hp]
        simp
        simpa using hz
      refine wpAny_ite (KBy.ite_no (by rw [htl]; exact Bool.false_ne_true) ?_)
      refine wpAny_bind (wpAny_mkBytes ?_ ?_)
      · refine wpAny_bind (wpAny_holding (wpAny_point ?_))
        refine wpAny_bind (joinLetGo_plain _ _ (fun p hp => (ht p hp).1) ?_)
        refine wpAny_pure ⟨_, rfl, h _ _ ?_⟩
        show KBw.bInts _ = _
        rw [joined_nil, hp]
      · have e := joined_nil parts.toList
        rw [hp] at e
        have := congrArg List.length e
        rw [KBw.ints_length] at this
        rw [this, sizeLine_eq]
        exact hz
section
variable {prog : Program} {w : World} {A : Around} {E : Value → Shared → Prop} {s : Shared}
theorem join_list {l : Addr} {t : Tok} {vs : List Value} {us : List (List Int)} {Q : Value → Shared → Prop} (hl : s.heap.IsList l vs.toArray) (hb : BsAre vs us) (hz : us.flatten.length ≤ 16777216)
    (h : ∀ v k, BytesV us.flatten v → Q v { s with toks := k }) : wpAny (model prog w) A (call (.builtin "bytes.join") [.bytes #[] t, .ref l]) Q E s :=
  call_meets BJ.slot_join (typeIs_bytes s _ t) BJ.entry_join (BJ.args_join _ _) (meets_join t l hb hz) ⟨hl, fun v k hv => h v k hv⟩
end
section
variable {prog : Program} {w : World} {A : Around} {E : Value → Shared → Prop} {s : Shared} {h₀ : Heap} {L : Addr} {m : Str → Option Value} {news : List (Addr × Obj)}
theorem join_news {l : Addr} {t : Tok} {its : Array Value} {n : Nat} {us : List (List Int)} {Q : Value → Shared → Prop} (N : News h₀ L s.heap news) (hm : (l, listOf its n) ∈ news) (hb : BsAre its.toList us) (hz : us.flatten.length ≤ 16777216)
    (h : ∀ v k, BytesV us.flatten v → Q v { s with toks := k }) : wpAny (model prog w) A (call (.builtin "bytes.join") [.bytes #[] t, .ref l]) Q E s :=
  join_list (vs := its.toList) ⟨_, (N _ hm).1, rfl, n, by simp⟩ hb hz h
theorem method_join {b : Array UInt8} {t : Tok} {pl : Sem Bool} {Q : Value × List Value → Shared → Prop} (h : Q (.builtin "bytes.join", [.bytes b t]) s) : wpAny (model prog w) A (getMethod (.bytes b t) (PySem.Str.ofString "join") pl) Q E s := by
  have hd : ∀ a, Value.bytes b t = .ref a → ∃ o, s.heap.get? a = some o ∧ o.dict = none := fun _ e => nomatch e
  with_reducible exact getMethod_builtin (typeIs_bytes s b t) FB.plainAttrs_bytes BJ.slot_join BJ.type_join hd h
theorem slice_m1 (its : Array Value) : slicePick its none (some (-1)) none = ((its.toList.take (its.size - 1))).toArray := by
  have e : sliceBounds none (some (-1)) none its.size = (((0 : Nat) : Int), ((its.size - 1 : Nat) : Int), 1) := by
    simp only [sliceBounds, Option.getD_none, show (1 : Int) > 0 by decide, if_true]
    rw [if_pos (show (-1 : Int) < 0 by decide)]
    congr 1
    congr 1
    omega
  rw [kmk_pick_nat _ e]
  simp
theorem bs_m1 {its : Array Value} {us : List (List Int)} (hb : BsAre its.toList us) : BsAre (slicePick its none (some (-1)) none).toList (us.take (its.size - 1)) := by
  rw [slice_m1]
  simpa using hb.take (its.size - 1)
end
theorem lt_ne {d : Addr} {l : Led} (h : ∀ p ∈ l, p.1 < d) : ∀ p ∈ l, p.1 ≠ d := fun p hp => Nat.ne_of_lt (h p hp)
local macro_rules | `(tactic| k_all) => `(tactic| exact lt_ne (by assumption))
theorem reg_m06b : True := by
  (k_with "getMethod bytes" => (k_here; (with_reducible show wpAny _ _ (getMethod (Value.bytes _ _) (PySem.Str.ofString "join") _) _ _ _); with_reducible refine method_join ?_))
  (k_with "call builtin:bytes.join" => (k_here; (with_reducible show wpAny _ _ (call (Value.builtin "bytes.join") [Value.bytes #[] _, Value.ref _]) _ _ _); k_dflt (refine' join_news ?Nq37 ?hmq37 ?hbq37 ?hzq37 ?_; (case Nq37 => k_asm); (case hmq37 => k_mem); (case hbq37 => first | assumption | exact bs_m1 (by assumption)); (case hzq37 => first | assumption | omega | exact Nat.le_trans (take_flat_le _ _) (by omega))); intro v9 k9 hv9; (obtain ⟨b9, t9, e9, e8⟩ := BytesV.out hv9); (subst e9)))
  (k_with "call builtin:list.append" => (k_here; (with_reducible show wpAny _ _ (call (Value.builtin _) [Value.ref _, _]) _ _ _); k_dflt (refine' append_K ?k1q38 ?k2q38 ?k3q38 ?_ ?zq38; (case k1q38 => k_asm); (case k2q38 => k_asm); (case k3q38 => k_upd); (case zq38 => (rw [sizeLine_eq]; omega)); k_whole); intro h' F' N'; (try k_sweep)))
  trivial
-- 07
noncomputable abbrev tupOf (vs : List Value) : Obj := { cls := .type "tuple", data := .seq vs.toArray }
set_option maxHeartbeats 8000000 in
theorem inside_at_plain (w : World) (b : Array UInt8) (tb ti tg : Tok) (ks : List Int) (i g c : Int) (r : List Int) (news : Led) (hk : KBw.bInts b = ks) (hat : At ks i (c :: r)) (h10 : c ≠ 10) (h13 : c ≠ 13) (h0 : c ≠ 0) (h92 : c ≠ 92) (hsz : ks.length ≤ 16777216) :
   MC w 255 [.bytes b tb, .int i ti, .int g tg] news 2 16 (fun v n' => ∃ a b1 t1 t2, v = .ref a ∧ n' = (a, tupOf [.bytes b1 t1, .int (i + 1) t2]) :: news ∧ KBw.bInts b1 = [c]) := by
  intro mean mg mb dp un gd cn cs a ccd cl outer A₀ base h₀ L m hp0 gs0 dr0 tk0 os0 Q E B F X N T hkk hd hu hret
  have hlo := hat.lo
  have hlt := hat.lt
  k_extra "mc_enter"
  k_steps
  refine hret _ _ _ _ ⟨_, _, _, _, rfl, rfl, ?_⟩ (by k_asm) (by k_asm)
  exact (by assumption : KBw.bInts _ = List.take _ _).trans hat.slice1
set_option maxHeartbeats 8000000 in
theorem inside_at_esc (w : World) (b : Array UInt8) (tb ti tg : Tok) (ks : List Int) (i g c : Int) (r : List Int) (news : Led) (hk : KBw.bInts b = ks) (hat : At ks i (92 :: c :: r)) (h10 : c ≠ 10) (h13 : c ≠ 13) (h0 : c ≠ 0) (hsz : ks.length ≤ 16777216) :
   MC w 255 [.bytes b tb, .int i ti, .int g tg] news 2 16 (fun v n' => ∃ a b1 t1 t2, v = .ref a ∧ n' = (a, tupOf [.bytes b1 t1, .int (i + 2) t2]) :: news ∧ KBw.bInts b1 = [c]) := by
  intro mean mg mb dp un gd cn cs a ccd cl outer A₀ base h₀ L m hp0 gs0 dr0 tk0 os0 Q E B F X N T hkk hd hu hret
  have hlo := hat.lo
  have hlt := hat.lt
  have hat1 := hat.next
  have hlt1 := hat1.lt
  k_extra "mc_enter"
  k_steps
  refine hret _ _ _ _ ⟨_, _, _, _, rfl, rfl, ?_⟩ (by k_asm) (by k_asm)
  refine (by assumption : KBw.bInts _ = List.take _ _).trans ?_
  have e := hat1.slice1
  rw [show i + 1 + 1 = i + 2 by omega] at e
  exact e
section
variable {prog : Program} {w : World} {A : Around} {E : Value → Shared → Prop} {s : Shared} {value slice : PySem.Expr} {b : Array UInt8} {t : Tok} {h₀ : Heap} {L : Addr} {m : PySem.Str → Option Value} {news : List (Addr × Obj)} {Q : Value → Shared → Prop} {ks : List Int} {i j c : Int} {r : List Int} {ti tj : Tok}
theorem slice1_K (hF : Fr h₀ L s.heap m) (hN : News h₀ L s.heap news) (hk : KBw.bInts b = ks) (hat : At ks i (c :: r)) (hj : j = i + 1) (hz : ks.length ≤ 16777216)
    (h : ∀ h' t' k, Fr h₀ L h' m → News h₀ L h' news → KBw.bInts (KBy.picked b (some i) (some j)) = [c] → Q (.bytes (KBy.picked b (some i) (some j)) t') { s with heap := h', toks := k })
    (hs : subscripted slice false (.bytes b t) (.ref s.heap.objs.size) = operate [.ref s.heap.objs.size, .bytes b t] (getItem (.bytes b t) (.ref s.heap.objs.size)) := by with_unfolding_all rfl)
    (ht : ∀ r, letTemporaryGo value (.bytes b t) r = pure () := by intro _; with_unfolding_all rfl) :
    wpAny (model prog w) A (subscriptTail value slice (.bytes b t) (.ref s.heap.objs.size)) Q E { s with heap := s.heap.push { cls := .type "slice", data := .fields #[.int i ti, .int j tj, .none] } } := by
  subst hj
  refine KBc.slice_K hF hN hk (.int _ _) (.int _ _) hz (fun h' t' k F' N' e => h h' t' k F' N' ?_) hs ht
  exact e.trans hat.slice1
end
theorem reg_m07 : True := by
  (k_with "eval Call" => (k_here; (with_reducible show wpAny _ _ (eval (Expr.Call (Expr.Name (Str.ofString "inside_at") _) _ [] _) _) _ _ _); k_dflt (refine Call_ ?_)))
  (k_with "call ref" => (k_here; (try dsimp only [List.nil_append, List.cons_append, List.append_nil]); (with_reducible show wpAny _ _ (call (Value.ref 255) [Value.bytes _ _, Value.int _ _, Value.int _ _]) _ _ _); k_dflt (refine' MC.use4p (inside_at_plain _ _ _ _ _ _ _ _ _ _ _ ?p1q40 ?p2q40 ?p3q40 ?p4q40 ?p5q40 ?p6q40 ?p7q40) ?Bq40 ?Fq40 ?Xq40 ?Nq40 ?Tq40 ?hkq40 ?hdq40 ?hunq40 ?_; (case Bq40 => k_asm); (case Fq40 => k_asm); (case Xq40 => k_asm); (case Nq40 => k_asm); (case Tq40 => k_asm); (case hkq40 => first | exact rfl | assumption); (case p1q40 => assumption); (case p2q40 => assumption); (case p3q40 => first | assumption | decide); (case p4q40 => first | assumption | decide); (case p5q40 => first | assumption | decide); (case p6q40 => first | assumption | decide); (case p7q40 => assumption); (case hdq40 => ktr_room); (case hunq40 => ktr_units)); intro a9 b9 u9 u8 h9 tk9 e7 F9 N9;  (try k_sweep); (try dsimp only); (try k_extra "kfold")))
  (k_with "call ref" => (k_here; (try dsimp only [List.nil_append, List.cons_append, List.append_nil]); (with_reducible show wpAny _ _ (call (Value.ref 255) [Value.bytes _ _, Value.int _ _, Value.int _ _]) _ _ _); k_dflt (refine' MC.use4p (inside_at_esc _ _ _ _ _ _ _ _ _ _ _ ?p1q41 ?p2q41 ?p3q41 ?p4q41 ?p5q41 ?p7q41) ?Bq41 ?Fq41 ?Xq41 ?Nq41 ?Tq41 ?hkq41 ?hdq41 ?hunq41 ?_; (case Bq41 => k_asm); (case Fq41 => k_asm); (case Xq41 => k_asm); (case Nq41 => k_asm); (case Tq41 => k_asm); (case hkq41 => first | exact rfl | assumption); (case p1q41 => assumption); (case p2q41 => assumption); (case p3q41 => assumption); (case p4q41 => assumption); (case p5q41 => assumption); (case p7q41 => assumption); (case hdq41 => ktr_room); (case hunq41 => ktr_units)); intro a9 b9 u9 u8 h9 tk9 e7 F9 N9;  (try k_sweep); (try dsimp only); (try k_extra "kfold")))
  (k_with "subscriptTail" => (k_here; (with_reducible show wpAny _ _ (subscriptTail _ (Expr.Slice (some _) (some _) none _) (Value.bytes _ _) (Value.ref _)) _ _ _); (with_reducible rename Fr _ _ _ _ => F'); (with_reducible rename News _ _ _ _ => N'); k_dflt (refine' slice1_K (s := ⟨_, _, _, _, _⟩) F' N' ?hkq42 ?hatq42 ?hjq42 ?hzq42 ?_ ?hsq42 ?htq42; (case hkq42 => with_reducible assumption); (case hatq42 => with_reducible assumption); (case hjq42 => omega); (case hzq42 => with_reducible assumption); (case hsq42 => with_unfolding_all rfl); (case htq42 => (intro _; with_unfolding_all rfl))); intro _ _ _ _ _ kbcE; (try k_sweep)))
  trivial
-- 08
/-- the rest of a comment, at a depth -/
inductive Cm : Nat → List Int → Prop
  | done : Cm 0 []
  | opens {d : Nat} {r : List Int} : d + 2 ≤ 20 → Cm (d + 2) r → Cm (d + 1) (40 :: r)
  | closes {d : Nat} {r : List Int} : Cm d r → Cm (d + 1) (41 :: r)
  | esc {d : Nat} {c : Int} {r : List Int} : c ≠ 0 → c ≠ 10 → c ≠ 13 → Cm (d + 1) r → Cm (d + 1) (92 :: c :: r)
  | plain {d : Nat} {c : Int} {r : List Int} : c ≠ 40 → c ≠ 41 → c ≠ 92 → c ≠ 0 → c ≠ 10 → c ≠ 13 → Cm (d + 1) r → Cm (d + 1) (c :: r)
noncomputable def ovr (m : Str → Option Value) : List (Str × Value) → Str → Option Value
  | [], y => m y
  | p :: r, y => if y = p.1 then some p.2 else ovr m r y
noncomputable def OvrAll (m : Str → Option Value) : List (Str × Value) → Prop
  | [] => True
  | p :: r => m p.1 = some p.2 ∧ OvrAll m r
theorem ovr_eq {m : Str → Option Value} : ∀ {ps : List (Str × Value)}, OvrAll m ps → ovr m ps = m
  | [], _ => rfl
  | p :: r, h => by
    funext y
    show (if y = p.1 then some p.2 else ovr m r y) = m y
    by_cases e : y = p.1
    · rw [if_pos e, e, h.1]
    · rw [if_neg e, ovr_eq h.2]
theorem fr_ovr {h₀ h : Heap} {L : Addr} {m : Str → Option Value} (F : Fr h₀ L h m) (ps : List (Str × Value)) (hp : OvrAll m ps) : Fr h₀ L h (ovr m ps) := by
  rw [ovr_eq hp]; exact F
theorem flat1 (us : List (List Int)) (c : Int) : (us ++ [[c]]).flatten.length = us.flatten.length + 1 := by simp
theorem Cm.zero {r : List Int} (h : Cm 0 r) : r = [] := by cases h; rfl
inductive J08 (ks r : List Int) (g : Int) (body : List Int) (b : Array UInt8) (tb tg : Tok) (P : Addr) (news : Led) : Nat → (Str → Option Value) → Led → Prop
  | mk {m : Str → Option Value} (d : Nat) (z p : Int) (rem : List Int) (its : Array Value) (us : List (List Int)) (t1 t2 k : Nat) (hz : z = (d : Int)) (hcm : Cm d rem) (hat1 : At ks p (rem ++ r)) (hp1 : p + rem.length = g + 1 + body.length)
    (hov : OvrAll m [(Str.ofString "at", .int p t1), (Str.ofString "depth", .int z t2), (Str.ofString "parts", .ref P), (Str.ofString "data", .bytes b tb), (Str.ofString "begun", .int g tg)])
    (hbs : BsAre its.toList us) (hz1 : (its.size : Int) ≤ p - g - 1) (hz2 : us.flatten.length ≤ its.size) (hoff : ∀ p ∈ news, p.1 ≠ P) : J08 ks r g body b tb tg P news rem.length m ((P, listOf its k) :: news)
set_option maxHeartbeats 8000000 in
theorem comment_at (w : World) (b : Array UInt8) (tb tg : Tok) (ks : List Int) (g : Int) (body r : List Int) (news : Led) (hk : KBw.bInts b = ks) (hat : At ks g (40 :: (body ++ r))) (hc : Cm 1 body) (hsz : ks.length ≤ 16777216) :
   MC w 269 [.bytes b tb, .int g tg] news 4 40 (fun v n' => ∃ a b1 t1 t2, v = .ref a ∧ n' = (a, tupOf [.bytes b1 t1, .int (g + 1 + body.length) t2]) :: news) := by
  have tag08 : True := trivial
  intro mean mg mb dp un gd cn cs a ccd cl outer A₀ base h₀ L m hp0 gs0 dr0 tk0 os0 Q E B F X N T hkk hd hu hret
  k_with "exec While Compare cons nil" => (
    guard_hyp tag08 : True
    rename Fr _ _ _ _ => lF
    rename News _ _ _ _ => lN
    with_unfolding_all refine While_inv2 (J08 ks r g body b tb tg _ news) lF lN ⟨1, _, g + 1, body, #[], [], _, _, _, rfl, hc, hat.next, rfl, ⟨rfl, rfl, rfl, rfl, rfl, trivial⟩, .nil, by show (0 : Int) ≤ _; omega, Nat.le_refl _, lt_ne (by assumption)⟩ ?_
    clear lF lN
    rintro n m₁ nx h₁ tk₁ F₁ N₁ ⟨d, z, p, rem, its, us, t1, t2, k, hz, hcm, hat1, hp1, hov, hbs, hz1, hz2, hoff⟩
    replace F₁ := fr_ovr F₁ _ hov
    have hlo := hat1.lo
    have hhi := hat1.hi
    have hg := hat.lo
    rcases hcm with _ | ⟨h1, h2⟩ | ⟨h2⟩ | ⟨h0, h10, h13, h2⟩ | ⟨h40, h41, h92, h0, h10, h13, h2⟩
    all_goals (try (rw [List.cons_append] at hat1; rw [List.length_cons] at hp1; have hlt := hat1.lt; have hat2 := hat1.next))
    all_goals (try (rw [List.cons_append] at hat1 hat2; rw [List.length_cons] at hp1; have hlt2 := hat2.lt; have hat3 := hat2.next; rw [show p + 1 + 1 = p + 2 by omega] at hat3)))
  k_extra "mc_enter"
  k_steps
  · have e : p = g + 1 + body.length := by simpa using hp1
    subst e
    exact hret _ _ _ _ ⟨_, _, _, _, rfl, rfl⟩ (by k_asm) (cb_drop (by assumption) (by kcj_in))
  · refine while_next (by assumption) (cb_drop (by assumption) (by kcj_in)) (Nat.lt_succ_self _) ⟨_, _, _, _, _, us ++ [[_]], _, _, _, ?_, h2, hat2, ?_, ⟨rfl, rfl, rfl, rfl, rfl, trivial⟩, by rw [Array.toList_push]; exact hbs.snoc (by assumption), ?_, ?_, hoff⟩
    all_goals (try rw [Array.size_push])
    all_goals (try rw [flat1])
    all_goals omega
  · refine while_next (by assumption) (cb_drop (by assumption) (by kcj_in)) (Nat.lt_succ_self _) ⟨_, _, _, _, _, us ++ [[_]], _, _, _, ?_, h2, hat2, ?_, ⟨rfl, rfl, rfl, rfl, rfl, trivial⟩, by rw [Array.toList_push]; exact hbs.snoc (by assumption), ?_, ?_, hoff⟩
    all_goals (try rw [Array.size_push])
    all_goals (try rw [flat1])
    all_goals omega
  · refine while_next (by assumption) (cb_drop (by assumption) (by kcj_in)) (Nat.lt_succ_of_lt (Nat.lt_succ_self _)) ⟨_, _, _, _, _, us ++ [[_]], _, _, _, ?_, h2, hat3, ?_, ⟨rfl, rfl, rfl, rfl, rfl, trivial⟩, by rw [Array.toList_push]; exact hbs.snoc (by assumption), ?_, ?_, hoff⟩
    all_goals (try rw [Array.size_push])
    all_goals (try rw [flat1])
    all_goals omega
  · refine while_next (by assumption) (cb_drop (by assumption) (by kcj_in)) (Nat.lt_succ_self _) ⟨_, _, _, _, _, us ++ [[_]], _, _, _, ?_, h2, hat2, ?_, ⟨rfl, rfl, rfl, rfl, rfl, trivial⟩, by rw [Array.toList_push]; exact hbs.snoc (by assumption), ?_, ?_, hoff⟩
    all_goals (try rw [Array.size_push])
    all_goals (try rw [flat1])
    all_goals omega
theorem reg_m08 : True := by
  (k_with "eval Call" => (k_here; (with_reducible show wpAny _ _ (eval (Expr.Call (Expr.Name (Str.ofString "comment_at") _) _ [] _) _) _ _ _); k_dflt (refine Call_ ?_)))
  (k_with "call ref" => (k_here; (try dsimp only [List.nil_append, List.cons_append, List.append_nil]); (with_reducible show wpAny _ _ (call (Value.ref 269) [Value.bytes _ _, Value.int _ _]) _ _ _); k_dflt (refine' MC.use4 (comment_at _ _ _ _ _ _ _ _ _ ?p1q44 ?p2q44 ?p3q44 ?p4q44) ?Bq44 ?Fq44 ?Xq44 ?Nq44 ?Tq44 ?hkq44 ?hdq44 ?hunq44 ?_; (case Bq44 => k_asm); (case Fq44 => k_asm); (case Xq44 => k_asm); (case Nq44 => k_asm); (case Tq44 => k_asm); (case hkq44 => first | exact rfl | assumption); (case p1q44 => with_reducible assumption); (case p2q44 => with_reducible assumption); (case p3q44 => with_reducible assumption); (case p4q44 => with_reducible assumption); (case hdq44 => ktr_room); (case hunq44 => ktr_units)); intro a9 b9 u9 u8 h9 tk9 F9 N9;  (try k_sweep); (try dsimp only); (try k_extra "kfold")))
  trivial
-- 09
/-- a gap: white signs and comments -/
inductive Gp : List Int → Prop
  | nil : Gp []
  | white {c : Int} {r : List Int} : whiteB c = true → Gp r → Gp (c :: r)
  | com {body r : List Int} : Cm 1 body → Gp r → Gp (40 :: (body ++ r))
theorem white_pos {c : Int} (h : whiteB c = true) : 0 ≤ c := by
  simp [whiteB] at h
  omega
inductive J09 (P : Params) (c dc : Addr) (b : Array UInt8) (ks l : List Int) (e : Int) (k1 k2 k3 t1 t3 : Tok) (rest : Led) : Nat → (Str → Option Value) → Led → Prop
  | mk {m : Str → Option Value} (v : List Int) (p : Int) (t2' : Tok) (hgv : Gp v) (hat1 : At ks p (v ++ l)) (hp1 : p + v.length = e) (hov : OvrAll m [(Str.ofString "cursor", .ref c)]) :
      J09 P c dc b ks l e k1 k2 k3 t1 t3 rest v.length m ((c, instObj 155 dc) :: (dc, curD P b p ks.length k1 k2 k3 t1 t2' t3) :: rest)
set_option maxHeartbeats 8000000 in
theorem skip_between (w : World) (c dc : Addr) (b : Array UInt8) (ks : List Int) (i : Int) (u l : List Int) (hk : KBw.bInts b = ks) (hat : At ks i (u ++ l)) (hg : Gp u) (hw1 : whiteB (hd1 l) = false) (hb1 : hd1 l ≠ 40) (hsz : ks.length ≤ 16777216) :
   CC w 331 [.ref c] c dc b ks.length i (i + u.length) 6 60 NoneV := by
  intro k1 k2 k3 t1 t2 t3 rest hcd hoff
  have tag09 : True := trivial
  intro mean mg mb dp un gd cn cs a ccd cl outer A₀ base h₀ L m hp0 gs0 dr0 tk0 os0 Q E B F X N T hkk hd hu hret
  k_with "exec While UnaryOp cons nil" => (
    guard_hyp tag09 : True
    rename Fr _ _ _ _ => lF
    rename News _ _ _ _ => lN
    with_unfolding_all refine While_inv2 (J09 w.params c dc b ks l (i + u.length) k1 k2 k3 t1 t3 rest) lF lN ⟨u, i, _, hg, hat, rfl, ⟨rfl, trivial⟩⟩ ?_
    clear lF lN
    rintro n m₁ nx h₁ tk₁ F₁ N₁ ⟨v, p, t2', hgv, hat1, hp1, hov⟩
    replace F₁ := fr_ovr F₁ _ hov
    have hlo := hat1.lo
    have hhi := hat1.hi
    rcases hgv with _ | ⟨hc1, hgr⟩ | ⟨hc1, hgr⟩
    rw [List.nil_append] at hat1
    rcases l with _ | ⟨d, l⟩
    all_goals (try rw [List.cons_append] at hat1)
    all_goals (try (have hpk := hat1.pkc; have hlt := hat1.lt))
    all_goals (try (have hdn := hat1.done))
    rotate_left
    have hwp : whiteB (pk ks p) = false := by rw [hpk]; exact hw1
    have h40 : pk ks p ≠ 40 := by rw [hpk]; exact hb1
    rotate_left
    have hwp : whiteB (pk ks p) = true := by rw [hpk]; exact hc1
    have hpos := white_pos hwp
    rotate_left
    have hwp : whiteB (pk ks p) = false := by rw [hpk]; rfl
    rw [List.append_assoc] at hat1
    rotate_left)
  k_extra "mc_enter"
  k_steps
  · have e : p = i + u.length := by simpa using hp1
    subst e
    exact hret _ _ _ _ ⟨rfl, _, rfl⟩ (by k_asm) (by k_asm)
  · have e : p = i + u.length := by simpa using hp1
    subst e
    dsimp only [WhileStep2]
    k_steps
    exact hret _ _ _ _ ⟨rfl, _, rfl⟩ (by k_asm) (by k_asm)
  · rw [if_pos hpos] at *
    rw [List.length_cons] at hp1
    refine while_next (by assumption) (by assumption) (Nat.lt_succ_self _) ⟨_, _, _, hgr, hat1.next, ?_, ⟨rfl, trivial⟩⟩
    omega
  · rw [List.length_cons, List.length_append] at hp1
    refine while_next (by assumption) (cb_drop (by assumption) (by kcj_in)) ?_ ⟨_, _, _, hgr, hat1.next.app, ?_, ⟨rfl, trivial⟩⟩
    · rw [List.length_cons, List.length_append]; omega
    · omega
theorem reg_m09 : True := by
  (k_with "eval Call" => (k_here; (with_reducible show wpAny _ _ (eval (Expr.Call (Expr.Name (Str.ofString "skip_between") _) _ [] _) _) _ _ _); k_dflt (refine Call_ ?_)))
  (k_with "call ref" => (k_here; (try dsimp only [List.nil_append, List.cons_append, List.append_nil]); (with_reducible show wpAny _ _ (call (Value.ref 331) [Value.ref _]) _ _ _); k_dflt (refine' CC.useN (skip_between _ _ _ _ _ _ _ _ ?p1q46 ?p2q46 ?p3q46 ?p4q46 ?p5q46 ?p6q46) ?Bq46 ?Fq46 ?Xq46 ?Nq46 ?Tq46 ?hkq46 ?hcq46 ?huq46 ?hdq46 ?hunq46 ?_; (case Bq46 => k_asm); (case Fq46 => k_asm); (case Xq46 => k_asm); (case Nq46 => k_asm); (case Tq46 => k_asm); (case hkq46 => first | exact rfl | assumption); (case hcq46 => k_mem); (case huq46 => (intro t9; k_upd)); (case p1q46 => with_reducible assumption); (case p2q46 => with_reducible assumption); (case p3q46 => with_reducible assumption); (case p4q46 => with_reducible assumption); (case p5q46 => with_reducible assumption); (case p6q46 => with_reducible assumption); (case hdq46 => ktr_room); (case hunq46 => ktr_units)); intro t9 h9 tk9 F9 N9; (try k_sweep); (try dsimp only); (try k_extra "kfold")))
  trivial
-- 10
/-- the rest of a quoted worth, and what it says -/
inductive Qt : List Int → List Int → Prop
  | close : Qt [34] []
  | esc {c : Int} {r o : List Int} : c ≠ 0 → c ≠ 10 → c ≠ 13 → Qt r o → Qt (92 :: c :: r) (c :: o)
  | plain {c : Int} {r o : List Int} : c ≠ 34 → c ≠ 92 → c ≠ 0 → c ≠ 10 → c ≠ 13 → Qt r o → Qt (c :: r) (c :: o)
theorem Qt.le {r o : List Int} (h : Qt r o) : o.length < r.length := by
  induction h with
  | close => simp
  | esc _ _ _ _ ih => simp; omega
  | plain _ _ _ _ _ _ ih => simp; omega
theorem flat2 (us : List (List Int)) (c : Int) (o : List Int) : (us ++ [[c]]).flatten ++ o = us.flatten ++ c :: o := by simp
inductive J10 (ks r out : List Int) (g : Int) (e : Int) (b : Array UInt8) (tb tg tq te : Tok) (S : Addr) (news : Led) : Nat → (Str → Option Value) → Led → Prop
  | mk {m : Str → Option Value} (p : Int) (rem o : List Int) (its : Array Value) (us : List (List Int)) (t1 k : Nat) (hq : Qt rem o) (hat1 : At ks p (rem ++ r)) (hp1 : p + rem.length = e)
    (hov : OvrAll m [(Str.ofString "at", .int p t1), (Str.ofString "parts", .ref S), (Str.ofString "data", .bytes b tb), (Str.ofString "begun", .int g tg), (Str.ofString "closing", .bytes #[34] tq), (Str.ofString "barred", .bytes #[] te)])
    (hbs : BsAre its.toList us) (hout : us.flatten ++ o = out) (hz1 : (its.size : Int) ≤ p - g - 1) (hoff : ∀ p ∈ news, p.1 ≠ S) : J10 ks r out g e b tb tg tq te S news rem.length m ((S, listOf its k) :: news)
set_option maxHeartbeats 8000000 in
theorem closed_at (w : World) (b : Array UInt8) (tb tg tq te : Tok) (ks : List Int) (g : Int) (body r out : List Int) (news : Led) (hk : KBw.bInts b = ks) (hat : At ks g (34 :: (body ++ r))) (hc : Qt body out) (hsz : ks.length ≤ 16777216) :
   MC w 262 [.bytes b tb, .int g tg, .bytes #[34] tq, .bytes #[] te] news 4 40 (fun v n' => ∃ a b1 t1 t2, v = .ref a ∧ n' = (a, tupOf [.bytes b1 t1, .int (g + 1 + body.length) t2]) :: news ∧ KBw.bInts b1 = out) := by
  have tag10 : True := trivial
  intro mean mg mb dp un gd cn cs a ccd cl outer A₀ base h₀ L m hp0 gs0 dr0 tk0 os0 Q E B F X N T hkk hd hu hret
  k_with "exec While Compare cons nil" => (
    guard_hyp tag10 : True
    rename Fr _ _ _ _ => lF
    rename News _ _ _ _ => lN
    with_unfolding_all refine While_inv2 (J10 ks r out g (g + 1 + body.length) b tb tg tq te _ news) lF lN ⟨g + 1, body, out, #[], [], _, _, hc, hat.next, rfl, ⟨rfl, rfl, rfl, rfl, rfl, rfl, trivial⟩, .nil, rfl, by show (0 : Int) ≤ _; omega, lt_ne (by assumption)⟩ ?_
    clear lF lN
    rintro n m₁ nx h₁ tk₁ F₁ N₁ ⟨p, rem, o, its, us, t1, k, hq, hat1, hp1, hov, hbs, hout, hz1, hoff⟩
    replace F₁ := fr_ovr F₁ _ hov
    have hlo := hat1.lo
    have hhi := hat1.hi
    have hg := hat.lo
    have hol := congrArg List.length hout
    have hol2 := hc.le
    have hbl := hat.len
    rw [List.length_append] at hol
    rw [List.length_cons, List.length_append] at hbl
    rcases hq with _ | ⟨h0, h10, h13, h2⟩ | ⟨h34, h92, h0, h10, h13, h2⟩
    all_goals (try (rw [List.cons_append] at hat1; rw [List.length_cons] at hp1; have hlt := hat1.lt; have hat2 := hat1.next))
    all_goals (try (rw [List.cons_append] at hat1 hat2; rw [List.length_cons] at hp1; have hlt2 := hat2.lt; have hat3 := hat2.next; rw [show p + 1 + 1 = p + 2 by omega] at hat3)))
  k_extra "mc_enter"
  k_steps
  · have e : g + 1 + (body.length : Int) = p + 1 := by simp at hp1; omega
    rw [e] at hret
    refine hret _ _ _ _ ⟨_, _, _, _, rfl, rfl, ?_⟩ (by k_asm) (cb_drop (by assumption) (by kcj_in))
    rw [List.append_nil] at hout
    exact (by assumption : KBw.bInts _ = us.flatten).trans hout
  · refine while_next (by assumption) (cb_drop (by assumption) (by kcj_in)) (Nat.lt_succ_of_lt (Nat.lt_succ_self _)) ⟨_, _, _, _, us ++ [[_]], _, _, h2, hat3, ?_, ⟨rfl, rfl, rfl, rfl, rfl, rfl, trivial⟩, by rw [Array.toList_push]; exact hbs.snoc (by assumption), ?_, ?_, hoff⟩
    · omega
    · rw [flat2]; exact hout
    · rw [Array.size_push]; omega
  · refine while_next (by assumption) (cb_drop (by assumption) (by kcj_in)) (Nat.lt_succ_self _) ⟨_, _, _, _, us ++ [[_]], _, _, h2, hat2, ?_, ⟨rfl, rfl, rfl, rfl, rfl, rfl, trivial⟩, by rw [Array.toList_push]; exact hbs.snoc (by assumption), ?_, ?_, hoff⟩
    · omega
    · rw [flat2]; exact hout
    · rw [Array.size_push]; omega
theorem reg_m10 : True := by
  (k_with "eval Call" => (k_here; (with_reducible show wpAny _ _ (eval (Expr.Call (Expr.Name (Str.ofString "closed_at") _) _ [] _) _) _ _ _); k_dflt (refine Call_ ?_)))
  (k_with "call ref" => (k_here; (try dsimp only [List.nil_append, List.cons_append, List.append_nil]); (with_reducible show wpAny _ _ (call (Value.ref 262) [Value.bytes _ _, Value.int _ _, Value.bytes _ _, Value.bytes _ _]) _ _ _); k_dflt (refine' MC.use4p (closed_at _ _ _ _ _ _ _ _ _ _ _ _ ?p1q48 ?p2q48 ?p3q48 ?p4q48) ?Bq48 ?Fq48 ?Xq48 ?Nq48 ?Tq48 ?hkq48 ?hdq48 ?hunq48 ?_; (case Bq48 => k_asm); (case Fq48 => k_asm); (case Xq48 => k_asm); (case Nq48 => k_asm); (case Tq48 => k_asm); (case hkq48 => first | exact rfl | assumption); (case p1q48 => with_reducible assumption); (case p2q48 => with_reducible assumption); (case p3q48 => with_reducible assumption); (case p4q48 => with_reducible assumption); (case hdq48 => ktr_room); (case hunq48 => ktr_units)); intro a9 b9 u9 u8 h9 tk9 e7 F9 N9;  (try k_sweep); (try dsimp only); (try k_extra "kfold")))
  trivial
-- 11
noncomputable def worthB (c : Int) : Bool := decide (127 < c) || tokB c
theorem worthB_pos {c : Int} (h : worthB c = true) : 0 ≤ c := by
  simp only [worthB, Bool.or_eq_true, decide_eq_true_eq] at h
  rcases h with h | h
  · omega
  · exact tokB_pos h
set_option maxHeartbeats 8000000 in
theorem is_worth_code (w : World) (c : Int) (t : Tok) (news : Led) (hc2 : c < 256): MC w 345 [.int c t] news 2 16 (fun v n' => n' = news ∧ v = .bool (worthB c)) := by
  intro mean mg mb dp un gd cn cs a ccd cl outer A₀ base h₀ L m hp0 gs0 dr0 tk0 os0 Q E B F X N T hk hd hu hret
  k_extra "mc_enter"
  k_steps
  all_goals (refine hret _ _ _ _ ⟨rfl, ?_⟩ (by k_asm) (by k_asm))
  all_goals (simp only [worthB]; simp [*]; try omega)
theorem reg_m11 : True := by
  (k_with "eval Call" => (k_here; (with_reducible show wpAny _ _ (eval (Expr.Call (Expr.Name (Str.ofString "is_worth_code") _) _ [] _) _) _ _ _); k_dflt (refine Call_ ?_)))
  (k_with "call ref" => (k_here; (try dsimp only [List.nil_append, List.cons_append, List.append_nil]); (with_reducible show wpAny _ _ (call (Value.ref 345) [Value.int _ _]) _ _ _); k_dflt (refine' MC.use1 (is_worth_code _ _ _ _ ?p1q50) ?Bq50 ?Fq50 ?Xq50 ?Nq50 ?Tq50 ?hkq50 ?hdq50 ?hunq50 ?_; (case Bq50 => k_asm); (case Fq50 => k_asm); (case Xq50 => k_asm); (case Nq50 => k_asm); (case Tq50 => k_asm); (case hkq50 => first | exact rfl | assumption); (case p1q50 => first | omega | (apply pk_up; assumption)); (case hdq50 => ktr_room); (case hunq50 => ktr_units)); intro h9 tk9 F9 N9;  (try k_sweep); (try dsimp only); (try k_extra "kfold")))
  trivial
-- 12
set_option maxHeartbeats 8000000 in
theorem take_worth (w : World) (c dc : Addr) (b : Array UInt8) (ks : List Int) (i j : Int) (hk : KBw.bInts b = ks) (hr : Run worthB ks i j) (hij : i < j) (hq : pk ks i ≠ 34) (hsz : ks.length ≤ 16777216) :
   CC w 352 [.ref c] c dc b ks.length i j 5 50 (BytesV (sub ks i j)) := by
  intro k1 k2 k3 t1 t2 t3 rest hcd hoff
  have tag12 : True := trivial
  intro mean mg mb dp un gd cn cs a ccd cl outer A₀ base h₀ L m hp0 gs0 dr0 tk0 os0 Q E B F X N T hkk hd hu hret
  obtain ⟨hlo, hle, hhi, hall, hstop⟩ := hr
  have hin : i ≤ ks.length := by omega
  k_with "exec While Call cons nil" => (
    guard_hyp tag12 : True
    rename Fr _ _ _ _ => lF
    rename News _ _ _ _ => lN
    with_unfolding_all refine While_inv2 (JT w.params c dc b ks.length i j k1 k2 k3 t1 t3 rest) lF lN ⟨i, _, _, by omega, by omega⟩ ?_
    clear lF lN
    rintro n m₁ nx h₁ tk₁ F₁ N₁ ⟨p, t, t2', hp1, hp2⟩
    have hp0 : 0 ≤ p := by omega
    have hp3 : p ≤ ks.length := by omega)
  k_extra "mc_enter"
  k_steps
  · have ht : worthB (pk ks p) = true := by assumption
    have hne : p ≠ j := by intro e; rw [e, hstop] at ht; cases ht
    have h0 : 0 ≤ pk ks p := worthB_pos (by assumption)
    rw [if_pos h0] at *
    exact while_next (n' := (j - (p + 1)).toNat) (by assumption) (by assumption) (by omega) ⟨p + 1, _, _, by omega, by omega⟩
  · have ht : worthB (pk ks p) = false := by assumption
    have hp : p = i := by assumption
    have := hall i (by omega) hij
    rw [hp, this] at ht
    cases ht
  · have hpj : p = j := Run.at_end hall hp1 hp2 (by assumption)
    subst hpj
    refine hret _ _ _ _ ⟨?_, _, rfl⟩ (by k_asm) (by k_asm)
    exact sub_of (by assumption) hlo hle hhi
-- 13
set_option maxHeartbeats 8000000 in
theorem take_quoted (w : World) (c dc : Addr) (b : Array UInt8) (ks : List Int) (i : Int) (body r out : List Int) (hk : KBw.bInts b = ks) (hat : At ks i (34 :: (body ++ r))) (hc : Qt body out) (hsz : ks.length ≤ 16777216) :
   CC w 352 [.ref c] c dc b ks.length i (i + 1 + body.length) 5 50 (BytesV out) := by
  intro k1 k2 k3 t1 t2 t3 rest hcd hoff
  intro mean mg mb dp un gd cn cs a ccd cl outer A₀ base h₀ L m hp0 gs0 dr0 tk0 os0 Q E B F X N T hkk hd hu hret
  have hlo := hat.lo
  have hhi := hat.hi
  have hpk := hat.pkc
  k_extra "mc_enter"
  k_steps
  exact hret _ _ _ _ ⟨by assumption, _, rfl⟩ (by k_asm) (cb_drop (by assumption) (by kcj_in))
-- 14
/-- a comprehension over octets -/
noncomputable def BSrc (prog : Program) (w : World) (A : Around) (h₀ : Heap) (L : Addr) (m : Str → Option Value) (env : Env) (elt : Expr) (x : Str) (scope : Scope) (cl : List (Str × Addr)) (Q : Value → Shared → Prop) (xv : Value) (s₁ : Shared) : Prop :=
  ∃ b t ks news, xv = .bytes b t ∧ A.handled = none ∧ KBw.bInts b = ks ∧ ks.length ≤ sizeLine ∧ Fr h₀ L s₁.heap m ∧ News h₀ L s₁.heap news ∧
    ∀ g, LCg.CompRest prog w A h₀ L m env elt x scope cl { s₁ with heap := g } (fun _ => True) (fun i v => ∃ k u, ks[i]? = some k ∧ v = .int k u) (LCg.FinE h₀ L m { s₁ with heap := g } Q) ks.length 0 [] news
section
variable {prog : Program} {w : World} {A : Around} {E : Value → Shared → Prop} {s : Shared} {h₀ : Heap} {L : Addr} {m : Str → Option Value} {env : Env}
theorem bsrc_walks (hh : A.handled = none) (I : Addr) (b : Array UInt8) (t : Tok) (ks : List Int) (hk : KBw.bInts b = ks) :
    Walks prog w A I [I] [I] ks.length (fun i v => ∃ k u, ks[i]? = some k ∧ v = .int k u) (fun i h => KBw.IsBytesIter h I b t i) := by
  subst hk
  have W := KBw.walks (prog := prog) (w := w) (A := A) hh I b t
  rw [KBw.ints_length]
  refine Walks.mk W.sub W.frame ?_ W.done W.self
  intro i s Q E hi st hQ
  refine W.item i s Q E hi st fun v h' tk hP => hQ v h' tk ?_
  obtain ⟨c, u, e, rfl⟩ := hP
  exact ⟨_, u, KBw.ints_get e, rfl⟩
theorem ListComp_B {elt iter : Expr} {x : Str} {px : Pos} {scope : Scope} {cl : List (Str × Addr)} {pos : Pos} {Q : Value → Shared → Prop} (F₀ : Fr h₀ L s.heap m)
    (hclos : closureFor scope env = pure cl) (hcell : ∀ y ∈ scope.names, y.2 ≠ .cell) (hkind : scope.kind = .function)
    (hnames : ∀ y ∈ scope.names, y.2 = .local → scope.names.lookup y.1 = some .local) (hx : scope.names.lookup x = some .local)
    (h : wpAny (model prog w) A (eval iter env) (BSrc prog w A h₀ L m env elt x scope cl Q) E s)
    (hs : ∀ x, foldedSetIterable iter env x = pure x := by intro _; rfl) :
    wpAny (model prog w) A (eval (.ListComp elt [⟨.Name x px, iter, [], 0⟩] scope pos) env) Q E s := by
  rw [eval_ListComp]
  refine wpAny_comprehension_free (use := none) rfl hs hclos hkind hnames (wpAny_mono h (fun xv s₁ h₁ => ?_) fun _ _ e => e)
  obtain ⟨b, t, ks, news, rfl, hh, hk, hsz, F, N, R⟩ := h₁
  refine KBw.pyIter_bytes ?_
  refine LCg.block_U (bsrc_walks hh s₁.heap.objs.size b t ks hk) hsz (fun i h st => by obtain ⟨o, e, _⟩ := st; exact ⟨o, e⟩)
    (fun i h h' o nw st e e' _ _ _ => by obtain ⟨o', q, r⟩ := st; rw [e] at q; cases q; exact ⟨o, e', r⟩) hcell hkind hx ⟨_, Heap.get?_push_size _ rfl, rfl, rfl⟩ (fun b hb => ?_)
    (F.keeps fun _ _ e => Heap.get?_push_of_some _ e) (N.grown fun _ _ e => Heap.get?_push_of_some _ e) (Nat.ne_of_lt F.ns.lt) (next_is_new F) (fun p hp => Nat.ne_of_lt (Heap.lt_size (N p hp).1)) trivial (R _) ?_
  · rw [List.mem_singleton.mp hb]
    show s₁.heap.objs.size < (s₁.heap.push _).objs.size
    rw [Heap.size_push]; exact Nat.lt_succ_self _
  · intro D C h tk m' ys news' F' N' o1 hn hC₀ hD₀ hCL hDL hCD offC fin
    refine ⟨m', hn, fun h'' hs'' => fin D h'' tk (F'.change hs'' hCL hC₀) (fun p hp => ?_) o1⟩
    refine ⟨hs''.extBut _ _ ?_ (N' p hp).1, (N' p hp).2⟩
    rcases List.mem_cons.mp hp with rfl | hp
    · exact Ne.symm hCD
    · exact offC p hp
theorem BSrc.ints {elt : Expr} {x : Str} {scope : Scope} {cl : List (Str × Addr)} {Q : Value → Shared → Prop} {b : Array UInt8} {t : Tok} {ks : List Int} {news : Led} (g : Int → Int)
    (hh : A.handled = none) (hk : KBw.bInts b = ks) (hsz : ks.length ≤ sizeLine) (F : Fr h₀ L s.heap m) (N : News h₀ L s.heap news)
    (turn : ∀ k t I oI C oC D m₂ ys h tk (E' : Value → Shared → Prop), k ∈ ks → 0 ≤ k → k < 256 → LCg.NsObj oC m₂ → m₂ x = some (.int k t) → Fr h₀ L h m → News h₀ L h ((I, oI) :: (C, oC) :: (D, LCg.lst ys) :: news) → LCg.Off3 I C D news → ((@Ne Nat I C) ∧ (@Ne Nat I D) ∧ (@Ne Nat C D)) →
      wpAny (model prog w) A (eval elt (compEnvC scope cl C env)) (LCg.CompEnd h₀ L m { s with heap := h, toks := tk } I oI C oC D (LCg.lst ys) (fun _ => True) (fun y news' => KCfEl news (g k) y news')) E' { s with heap := h, toks := tk })
    (fin : ∀ ys D h tk, IntsAre ys (ks.map g) → Fr h₀ L h m → News h₀ L h ((D, LCg.lst ys) :: news) → LCg.Off1 D news → Q (.ref D) { s with heap := h, toks := tk }) :
    BSrc prog w A h₀ L m env elt x scope cl Q (.bytes b t) s := by
  refine ⟨b, t, ks, news, rfl, hh, hk, hsz, F, N, fun h' => kcf_rest (s := { s with heap := h' }) g rfl (fun i v _ hv => let ⟨k, u, e, e'⟩ := hv; ⟨k, u, e, e'⟩) (fun k t I oI C oC D m₂ ys h tk E' hm hC hx F N off ne _ => ?_) ?_⟩
  · have hin : 0 ≤ k ∧ k < 256 := KBw.ints_in (hk ▸ hm)
    exact turn k t I oI C oC D m₂ ys h tk E' hm hin.1 hin.2 hC hx F N off ne
  · intro ys hi D h tk F N o1
    exact fin ys D h tk hi F N o1
theorem BSrc.texts {elt : Expr} {x : Str} {scope : Scope} {cl : List (Str × Addr)} {Q : Value → Shared → Prop} {b : Array UInt8} {t : Tok} {ks : List Int} {news : Led} (g : Int → Str)
    (hh : A.handled = none) (hk : KBw.bInts b = ks) (hsz : ks.length ≤ sizeLine) (F : Fr h₀ L s.heap m) (N : News h₀ L s.heap news)
    (turn : ∀ k t I oI C oC D m₂ ys h tk (E' : Value → Shared → Prop), k ∈ ks → 0 ≤ k → k < 256 → LCg.NsObj oC m₂ → m₂ x = some (.int k t) → Fr h₀ L h m → News h₀ L h ((I, oI) :: (C, oC) :: (D, LCg.lst ys) :: news) → LCg.Off3 I C D news → ((@Ne Nat I C) ∧ (@Ne Nat I D) ∧ (@Ne Nat C D)) →
      wpAny (model prog w) A (eval elt (compEnvC scope cl C env)) (LCg.CompEnd h₀ L m { s with heap := h, toks := tk } I oI C oC D (LCg.lst ys) (fun _ => True) (fun y news' => KCtEl news (g k) y news')) E' { s with heap := h, toks := tk })
    (fin : ∀ ys D h tk, CarriedAll ys (ks.map fun k => PyData.str (g k)) → Fr h₀ L h m → News h₀ L h ((D, LCg.lst ys) :: news) → LCg.Off1 D news → Q (.ref D) { s with heap := h, toks := tk }) :
    BSrc prog w A h₀ L m env elt x scope cl Q (.bytes b t) s := by
  refine ⟨b, t, ks, news, rfl, hh, hk, hsz, F, N, fun h' => kct_rest (s := { s with heap := h' }) g rfl (fun i v _ hv => let ⟨k, u, e, e'⟩ := hv; ⟨k, u, e, e'⟩) (fun k t I oI C oC D m₂ ys h tk E' hm hC hx F N off ne _ => ?_) ?_⟩
  · have hin : 0 ≤ k ∧ k < 256 := KBw.ints_in (hk ▸ hm)
    exact turn k t I oI C oC D m₂ ys h tk E' hm hin.1 hin.2 hC hx F N off ne
  · intro ys hi _ D h tk F N o1
    exact fin ys D h tk hi F N o1
end
noncomputable def lowC (c : Int) : Int := if 65 ≤ c ∧ c ≤ 90 then c + 32 else c
theorem lowC_in {c : Int} (h0 : 0 ≤ c) (h1 : c < 256) : 0 ≤ lowC c ∧ lowC c < 256 := by unfold lowC; split <;> omega
set_option maxHeartbeats 8000000 in
theorem lower_code (w : World) (c : Int) (t : Tok) (news : Led) (h0 : 0 ≤ c) (h1 : c < 256) : MC w 166 [.int c t] news 2 16 (fun v n' => n' = news ∧ ∃ t, v = .int (lowC c) t) := by
  intro mean mg mb dp un gd cn cs a ccd cl outer A₀ base h₀ L m hp0 gs0 dr0 tk0 os0 Q E B F X N T hk hd hu hret
  k_extra "mc_enter"
  k_steps
  · rw [show c + 32 = lowC c by unfold lowC; rw [if_pos (by omega)]]
    exact hret _ _ _ _ ⟨rfl, _, rfl⟩ (by k_asm) (by k_asm)
  all_goals (
    have e : c = lowC c := by unfold lowC; rw [if_neg (by omega)]
    exact hret _ _ _ _ ⟨rfl, _, congrArg (fun z => Value.int z t) e⟩ (by k_asm) (by k_asm))
theorem reg_m14 : True := by
  (k_with "eval Call" => (k_here; (with_reducible show wpAny _ _ (eval (Expr.Call (Expr.Name (Str.ofString "lower_code") _) _ [] _) _) _ _ _); k_dflt (refine Call_ ?_)))
  (k_with "eval Call" => (k_here; (with_reducible show wpAny _ _ (eval (Expr.Call (Expr.Name (Str.ofString "lower") _) _ [] _) _) _ _ _); k_dflt (refine Call_ ?_)))
  (k_with "eval Call" => (k_here; (with_reducible show wpAny _ _ (eval (Expr.Call (Expr.Name (Str.ofString "small_word") _) _ [] _) _) _ _ _); k_dflt (refine Call_ ?_)))
  (k_with "call ref" => (k_here; (try dsimp only [List.nil_append, List.cons_append, List.append_nil]); (with_reducible show wpAny _ _ (call (Value.ref 166) [Value.int _ _]) _ _ _); k_dflt (refine' MC.use2 (lower_code _ _ _ _ ?p1q54 ?p2q54) ?Bq54 ?Fq54 ?Xq54 ?Nq54 ?Tq54 ?hkq54 ?hdq54 ?hunq54 ?_; (case Bq54 => k_asm); (case Fq54 => k_asm); (case Xq54 => k_asm); (case Nq54 => k_asm); (case Tq54 => k_asm); (case hkq54 => first | exact rfl | assumption); (case p1q54 => assumption); (case p2q54 => assumption); (case hdq54 => ktr_room); (case hunq54 => ktr_units)); intro t9 h9 tk9 F9 N9;  (try k_sweep); (try dsimp only); (try k_extra "kfold")))
  (k_with "eval ListComp" => (k_here; (first | (with_reducible show wpAny _ _ (eval (Expr.ListComp (Expr.Call (Expr.Name (Str.ofString "lower_code") _) [Expr.Name _ _] _ _) _ _ _) _) _ _ _) | (with_reducible show wpAny _ _ (eval (Expr.ListComp (Expr.Call (Expr.Name (Str.ofString "chr") _) [Expr.Name _ _] _ _) _ _ _) _) _ _ _)); k_dflt (refine ListComp_B (F₀ := by k_asm) (by with_unfolding_all rfl) (by decide) (by rfl) (by decide) (by rfl) ?_)))
  trivial
-- 15
set_option maxHeartbeats 8000000 in
theorem lower (w : World) (b : Array UInt8) (t : Tok) (ks : List Int) (hk : KBw.bInts b = ks) (hz : ks.length ≤ 16777216) (news : Led) : MC w 171 [.bytes b t] news 3 24 (fun v n' => n' = news ∧ BytesV (ks.map lowC) v) := by
  intro mean mg mb dp un gd cn cs a ccd cl outer A₀ base h₀ L m hp0 gs0 dr0 tk0 os0 Q E B F X N T hkk hd hu hret
  have hsz : ks.length ≤ sizeLine := by rw [sizeLine_eq]; omega
  k_extra "mc_enter"
  k_steps
  refine BSrc.ints lowC rfl hk hsz (by assumption) (by assumption) ?_ ?_
  · intro k t I oI C oC D m₂ ys h tk E' hm h0 h1 hC hx F N off ne
    (try simp only [LCg.Off3, and_true] at off)
    k_steps
    exact ⟨rfl, _, rfl⟩
  · intro ys D h tk hi F N o1
    have hin : KBa.In (ks.map lowC) := by
      intro n hn
      obtain ⟨c, hc, rfl⟩ := List.mem_map.1 hn
      have := KBw.ints_in (hk ▸ hc : c ∈ KBw.bInts b)
      exact lowC_in this.1 this.2
    k_steps
    exact hret _ _ _ _ ⟨rfl, KBa.ints_make hin⟩ (by k_asm) (cb_drop (by assumption) (by kcj_in))
theorem reg_m15 : True := by
  (k_with "call ref" => (k_here; (try dsimp only [List.nil_append, List.cons_append, List.append_nil]); (with_reducible show wpAny _ _ (call (Value.ref 171) [Value.bytes _ _]) _ _ _); k_dflt (refine' MC.use (lower _ _ _ _ ?p1q56 ?p2q56 _) ?Bq56 ?Fq56 ?Xq56 ?Nq56 ?Tq56 ?hkq56 ?hdq56 ?hunq56 ?_; (case Bq56 => k_asm); (case Fq56 => k_asm); (case Xq56 => k_asm); (case Nq56 => k_asm); (case Tq56 => k_asm); (case hkq56 => first | exact rfl | assumption); (case p1q56 => with_reducible assumption); (case p2q56 => with_reducible assumption); (case hdq56 => ktr_room); (case hunq56 => ktr_units)); intro v9 n9 h9 tk9 hV9 F9 N9; (obtain ⟨e9, e8⟩ := hV9; obtain ⟨b9, u9, e7, e6⟩ := BytesV.out e8; rw [e9] at N9; clear e9; subst e7); (try k_sweep); (try dsimp only); (try k_extra "kfold")))
  trivial
-- 16
/-- the text of a token in small letters -/
noncomputable def lowStr (ks : List Int) : Str := Txt.join (Str.ofString "") ((ks.map lowC).map fun c => (⟨#[c.toNat]⟩ : Str))
set_option maxHeartbeats 8000000 in
theorem small_word (w : World) (b : Array UInt8) (t : Tok) (ks : List Int) (hk : KBw.bInts b = ks) (hz : ks.length ≤ 16777216) (hz2 : ks.length ≤ 1048576) (news : Led) : MC w 357 [.bytes b t] news 4 30 (fun v n' => n' = news ∧ ∃ t, v = .str (lowStr ks) t) := by
  intro mean mg mb dp un gd cn cs a ccd cl outer A₀ base h₀ L m hp0 gs0 dr0 tk0 os0 Q E B F X N T hkk hd hu hret
  have hsz : (ks.map lowC).length ≤ sizeLine := by rw [sizeLine_eq]; simpa using hz
  k_extra "mc_enter"
  k_steps
  refine BSrc.texts (fun c => ⟨#[c.toNat]⟩) rfl (by assumption) hsz (by assumption) (by assumption) ?_ ?_
  · intro k t I oI C oC D m₂ ys h tk E' hm h0 h1 hC hx F N off ne
    (try simp only [LCg.Off3, and_true] at off)
    k_steps
    exact LCg.CompEnd.intro F N news (fun p hp => hp) off trivial ⟨rfl, _, rfl⟩
  · intro ys D h tk hi F N o1
    k_steps
    all_goals (try exact hret _ _ _ _ ⟨rfl, _, rfl⟩ (by k_asm) (cb_drop (by assumption) (by kcj_in)))
theorem reg_m16 : True := by
  (k_with "call ref" => (k_here; (try dsimp only [List.nil_append, List.cons_append, List.append_nil]); (with_reducible show wpAny _ _ (call (Value.ref 357) [Value.bytes _ _]) _ _ _); k_dflt (refine' MC.use2 (small_word _ _ _ _ ?p1q57 ?p2q57 ?p3q57 _) ?Bq57 ?Fq57 ?Xq57 ?Nq57 ?Tq57 ?hkq57 ?hdq57 ?hunq57 ?_; (case Bq57 => k_asm); (case Fq57 => k_asm); (case Xq57 => k_asm); (case Nq57 => k_asm); (case Tq57 => k_asm); (case hkq57 => first | exact rfl | assumption); (case p1q57 => with_reducible assumption); (case p2q57 => first | with_reducible assumption | omega); (case p3q57 => first | with_reducible assumption | omega); (case hdq57 => ktr_room); (case hunq57 => ktr_units)); intro u9 h9 tk9 F9 N9;  (try k_sweep); (try dsimp only); (try k_extra "kfold")))
  trivial
-- 17
theorem eq_b47 {z : Array UInt8} {k : Int} (h : KBw.bInts z = [k]) : (z.toList == [47]) = decide (k = 47) := is_one (k := 47) h rfl
set_option maxHeartbeats 8000000 in
theorem starts (w : World) (c dc : Addr) (b : Array UInt8) (ks : List Int) (i : Int) (l : List Int) (t : Tok) (hk : KBw.bInts b = ks) (hat : At ks i l) (hsz : ks.length ≤ 16777216) :
   CC w 117 [.ref c, .bytes #[47] t] c dc b ks.length i i 1 12 (BoolV (decide (hd1 l = 47))) := by
  intro k1 k2 k3 t1 t2 t3 rest hcd hoff
  intro mean mg mb dp un gd cn cs a ccd cl outer A₀ base h₀ L m hp0 gs0 dr0 tk0 os0 Q E B F X N T hkk hd hu hret
  have hlo := hat.lo
  have hle := hat.hi
  have hlen := hat.len
  have e1 : ((#[47] : Array UInt8).size : Int) = 1 := rfl
  rcases l with _ | ⟨k, l⟩
  · have e2 : (([] : List Int).length : Int) = 0 := rfl
    k_extra "mc_enter"
    k_steps
    have e3 : decide (i + ((#[47] : Array UInt8).size : Int) ≤ ks.length) = false := decide_eq_false (by omega)
    first | rw [e3] | (rw [e1] at e3; rw [e3])
    exact hret _ _ _ _ ⟨rfl, _, rfl⟩ (by k_asm) (by k_asm)
  · have hlt := hat.lt
    k_extra "mc_enter"
    k_steps
    rename KBw.bInts (KBy.picked _ _ _) = _ => eP
    have e4 := eq_b47 eP
    first | rw [e4] | (rw [← e1] at e4; rw [e4])
    exact hret _ _ _ _ ⟨rfl, _, rfl⟩ (by k_asm) (by k_asm)
theorem reg_m17 : True := by
  (k_with "call ref" => (k_here; (try dsimp only [List.nil_append, List.cons_append, List.append_nil]); (with_reducible show wpAny _ _ (call (Value.ref 117) [Value.ref _, Value.bytes _ _]) _ _ _); k_dflt (refine' CC.useB (starts _ _ _ _ _ _ _ _ ?p1q58 ?p2q58 ?p3q58) ?Bq58 ?Fq58 ?Xq58 ?Nq58 ?Tq58 ?hkq58 ?hcq58 ?huq58 ?hdq58 ?hunq58 ?_; (case Bq58 => k_asm); (case Fq58 => k_asm); (case Xq58 => k_asm); (case Nq58 => k_asm); (case Tq58 => k_asm); (case hkq58 => first | exact rfl | assumption); (case hcq58 => k_mem); (case huq58 => (intro t9; k_upd)); (case p1q58 => with_reducible assumption); (case p2q58 => with_reducible assumption); (case p3q58 => with_reducible assumption); (case hdq58 => ktr_room); (case hunq58 => ktr_units)); intro t9 h9 tk9 F9 N9; (try k_sweep); (try dsimp only); (try k_extra "kfold")))
  trivial
-- 18
set_option maxHeartbeats 8000000 in
theorem skip_slash (w : World) (c dc : Addr) (b : Array UInt8) (ks : List Int) (i : Int) (l : List Int) (t : Tok) (hk : KBw.bInts b = ks) (hat : At ks i l) (hsz : ks.length ≤ 16777216) :
   CC w 124 [.ref c, .bytes #[47] t] c dc b ks.length i (if hd1 l = 47 then i + 1 else i) 2 20 (BoolV (decide (hd1 l = 47))) := by
  intro k1 k2 k3 t1 t2 t3 rest hcd hoff
  intro mean mg mb dp un gd cn cs a ccd cl outer A₀ base h₀ L m hp0 gs0 dr0 tk0 os0 Q E B F X N T hkk hd hu hret
  have hlo := hat.lo
  have hle := hat.hi
  k_extra "mc_enter"
  k_steps
  · have hh : hd1 l = 47 := by assumption
    rw [if_pos hh, decide_eq_true hh] at hret
    exact hret _ _ _ _ ⟨rfl, _, rfl⟩ (by k_asm) (by k_asm)
  · have hh : ¬hd1 l = 47 := by assumption
    rw [if_neg hh, decide_eq_false hh] at hret
    exact hret _ _ _ _ ⟨rfl, _, rfl⟩ (by k_asm) (by k_asm)
theorem reg_m18 : True := by
  (k_with "call ref" => (k_here; (try dsimp only [List.nil_append, List.cons_append, List.append_nil]); (with_reducible show wpAny _ _ (call (Value.ref 124) [Value.ref _, Value.bytes _ _]) _ _ _); k_dflt (refine' CC.useB (skip_slash _ _ _ _ _ _ _ _ ?p1q59 ?p2q59 ?p3q59) ?Bq59 ?Fq59 ?Xq59 ?Nq59 ?Tq59 ?hkq59 ?hcq59 ?huq59 ?hdq59 ?hunq59 ?_; (case Bq59 => k_asm); (case Fq59 => k_asm); (case Xq59 => k_asm); (case Nq59 => k_asm); (case Tq59 => k_asm); (case hkq59 => first | exact rfl | assumption); (case hcq59 => k_mem); (case huq59 => (intro t9; k_upd)); (case p1q59 => with_reducible assumption); (case p2q59 => with_reducible assumption); (case p3q59 => with_reducible assumption); (case hdq59 => ktr_room); (case hunq59 => ktr_units)); intro t9 h9 tk9 F9 N9; (try k_sweep); (try dsimp only); (try k_extra "kfold")))
  trivial
-- 19
theorem take_at (w : World) (c dc : Addr) (b : Array UInt8) (ks : List Int) (i k : Int) (l : List Int) (hk : KBw.bInts b = ks) (hat : At ks i (k :: l)) (h0 : 0 ≤ k) (hsz : ks.length ≤ 16777216) :
   CC w 110 [.ref c] c dc b ks.length i (i + 1) 2 16 (IntV k) := by
  have h := take w c dc b ks i hk hat.lo hat.hi hsz
  rw [hat.pkc, if_pos h0] at h
  exact h
theorem take_token_at (w : World) (c dc : Addr) (b : Array UInt8) (ks : List Int) (i : Int) (u l : List Int) (hk : KBw.bInts b = ks) (hat : At ks i (u ++ l)) (hu : ∀ c ∈ u, tokB c = true) (hne : u ≠ []) (hl : tokB (hd1 l) = false) (hsz : ks.length ≤ 16777216) :
   CC w 338 [.ref c] c dc b ks.length i (i + u.length) 4 40 (BytesV u) := by
  have h := take_token w c dc b ks i (i + u.length) hk (Run.of_at hat hu hl) (by have := List.length_pos_iff.mpr hne; omega) hsz
  rw [hat.sub] at h
  exact h
/-- what stands for a worth, and what it says -/
inductive Wt : List Int → List Int → Prop
  | plain {u : List Int} : (∀ c ∈ u, worthB c = true) → u ≠ [] → Wt u u
  | quoted {u o : List Int} : Qt u o → Wt (34 :: u) o
theorem worth34 : worthB 34 = false := by decide
theorem take_worth_at (w : World) (c dc : Addr) (b : Array UInt8) (ks : List Int) (i : Int) (u o l : List Int) (hk : KBw.bInts b = ks) (hat : At ks i (u ++ l)) (hu : Wt u o) (hl : worthB (hd1 l) = false) (hsz : ks.length ≤ 16777216) :
   CC w 352 [.ref c] c dc b ks.length i (i + u.length) 5 50 (BytesV o) := by
  rcases hu with ⟨hu, hne⟩ | hq
  · have h := take_worth w c dc b ks i (i + u.length) hk (Run.of_at hat hu hl) (by have := List.length_pos_iff.mpr hne; omega) (by
      intro e
      obtain ⟨d, r, hd⟩ := List.exists_cons_of_ne_nil hne
      subst hd
      rw [List.cons_append] at hat
      rw [hat.pkc] at e
      have := hu d (by simp)
      rw [e, worth34] at this
      cases this) hsz
    rw [hat.sub] at h
    exact h
  · rename_i u
    rw [List.cons_append] at hat
    have h := take_quoted w c dc b ks i u l o hk hat hq hsz
    rw [show i + 1 + (u.length : Int) = i + ((34 :: u).length : Nat) by rw [List.length_cons]; omega] at h
    exact h
theorem is_not_done (w : World) (c dc : Addr) (b : Array UInt8) (n i : Int) (h : i < n) :
   CC w 95 [.ref c] c dc b n i i 1 8 (BoolV false) := by
  have h' := is_done w c dc b n i
  rw [decide_eq_false (by omega)] at h'
  exact h'
theorem reg_m19 : True := by
  (k_with "eval Call" => (k_here; (with_reducible show wpAny _ _ (eval (Expr.Call (Expr.Name (Str.ofString "take_token") _) _ [] _) _) _ _ _); k_dflt (refine Call_ ?_)))
  (k_with "eval Call" => (k_here; (with_reducible show wpAny _ _ (eval (Expr.Call (Expr.Name (Str.ofString "take_worth") _) _ [] _) _) _ _ _); k_dflt (refine Call_ ?_)))
  (k_with "call ref" => (k_here; (try dsimp only [List.nil_append, List.cons_append, List.append_nil]); (with_reducible show wpAny _ _ (call (Value.ref 110) [Value.ref _]) _ _ _); k_dflt (refine' CC.useI (take_at _ _ _ _ _ _ _ _ ?p1q62 ?p2q62 ?p3q62 ?p4q62) ?Bq62 ?Fq62 ?Xq62 ?Nq62 ?Tq62 ?hkq62 ?hcq62 ?huq62 ?hdq62 ?hunq62 ?_; (case Bq62 => k_asm); (case Fq62 => k_asm); (case Xq62 => k_asm); (case Nq62 => k_asm); (case Tq62 => k_asm); (case hkq62 => first | exact rfl | assumption); (case hcq62 => k_mem); (case huq62 => (intro t9; k_upd)); (case p1q62 => with_reducible assumption); (case p2q62 => with_reducible assumption); (case p3q62 => omega); (case p4q62 => with_reducible assumption); (case hdq62 => ktr_room); (case hunq62 => ktr_units)); intro u9 t9 h9 tk9 F9 N9; (try k_sweep); (try dsimp only); (try k_extra "kfold")))
  (k_with "call ref" => (k_here; (try dsimp only [List.nil_append, List.cons_append, List.append_nil]); (with_reducible show wpAny _ _ (call (Value.ref 338) [Value.ref _]) _ _ _); k_dflt (refine' CC.useY (take_token_at _ _ _ _ _ _ _ _ ?p1q63 ?p2q63 ?p3q63 ?p4q63 ?p5q63 ?p6q63) ?Bq63 ?Fq63 ?Xq63 ?Nq63 ?Tq63 ?hkq63 ?hcq63 ?huq63 ?hdq63 ?hunq63 ?_; (case Bq63 => k_asm); (case Fq63 => k_asm); (case Xq63 => k_asm); (case Nq63 => k_asm); (case Tq63 => k_asm); (case hkq63 => first | exact rfl | assumption); (case hcq63 => k_mem); (case huq63 => (intro t9; k_upd)); (case p1q63 => with_reducible assumption); (case p2q63 => with_reducible assumption); (case p3q63 => with_reducible assumption); (case p4q63 => with_reducible assumption); (case p5q63 => with_reducible assumption); (case p6q63 => with_reducible assumption); (case hdq63 => ktr_room); (case hunq63 => ktr_units)); intro b9 u9 t9 h9 tk9 e8 F9 N9; (try k_sweep); (try dsimp only); (try k_extra "kfold")))
  (k_with "call ref" => (k_here; (try dsimp only [List.nil_append, List.cons_append, List.append_nil]); (with_reducible show wpAny _ _ (call (Value.ref 352) [Value.ref _]) _ _ _); k_dflt (refine' CC.useY (take_worth_at _ _ _ _ _ _ _ _ _ ?p1q64 ?p2q64 ?p3q64 ?p4q64 ?p5q64) ?Bq64 ?Fq64 ?Xq64 ?Nq64 ?Tq64 ?hkq64 ?hcq64 ?huq64 ?hdq64 ?hunq64 ?_; (case Bq64 => k_asm); (case Fq64 => k_asm); (case Xq64 => k_asm); (case Nq64 => k_asm); (case Tq64 => k_asm); (case hkq64 => first | exact rfl | assumption); (case hcq64 => k_mem); (case huq64 => (intro t9; k_upd)); (case p1q64 => with_reducible assumption); (case p2q64 => with_reducible assumption); (case p3q64 => with_reducible assumption); (case p4q64 => with_reducible assumption); (case p5q64 => with_reducible assumption); (case hdq64 => ktr_room); (case hunq64 => ktr_units)); intro b9 u9 t9 h9 tk9 e8 F9 N9; (try k_sweep); (try dsimp only); (try k_extra "kfold")))
  trivial
-- 20
/-- the parameters' text, and the pairs that it tells -/
inductive Prs : List Int → List (Str × List Int) → Prop
  | nil : Prs [] []
  | last {u : List Int} : Gp u → Prs (59 :: u) []
  | pair {u1 nm u2 u3 wt o u4 r : List Int} {ps : List (Str × List Int)} : Gp u1 → (∀ c ∈ nm, tokB c = true) → nm ≠ [] → nm.length ≤ 100 → Gp u2 → Gp u3 → Wt wt o → Gp u4 → Prs r ps →
      Prs (59 :: (u1 ++ (nm ++ (u2 ++ (61 :: (u3 ++ (wt ++ (u4 ++ r)))))))) ((lowStr nm, o) :: ps)
theorem Prs.hd {r : List Int} {ps : List (Str × List Int)} (h : Prs r ps) : hd1 r = -1 ∨ hd1 r = 59 := by
  cases h with
  | nil => exact .inl rfl
  | last => exact .inr rfl
  | pair => exact .inr rfl
theorem white_cases {c : Int} (h : whiteB c = true) : c = 9 ∨ c = 10 ∨ c = 13 ∨ c = 32 := by
  simp [whiteB] at h
  exact h.imp Eq.symm (or3 Eq.symm Eq.symm Eq.symm)
theorem white_of {c : Int} (h : c ≠ 9 ∧ c ≠ 10 ∧ c ≠ 13 ∧ c ≠ 32) : whiteB c = false := by
  rw [Bool.eq_false_iff]
  intro e
  rcases white_cases e with e | e | e | e <;> omega
theorem Gp.hd {u l : List Int} (h : Gp u) : hd1 (u ++ l) = hd1 l ∨ hd1 (u ++ l) = 40 ∨ whiteB (hd1 (u ++ l)) = true := by
  cases h with
  | nil => exact .inl rfl
  | white hc _ => exact .inr (.inr hc)
  | com _ _ => exact .inr (.inl rfl)
theorem tok_white {c : Int} (h : whiteB c = true) : tokB c = false := by
  rcases white_cases h with e | e | e | e <;> subst e <;> decide
theorem worth_white {c : Int} (h : whiteB c = true) : worthB c = false := by
  rcases white_cases h with e | e | e | e <;> subst e <;> decide
theorem Gp.tok {u l : List Int} (h : Gp u) (hl : tokB (hd1 l) = false) : tokB (hd1 (u ++ l)) = false := by
  rcases h.hd (l := l) with e | e | e
  · rw [e]; exact hl
  · rw [e]; decide
  · exact tok_white e
theorem Gp.worth {u l : List Int} (h : Gp u) (hl : worthB (hd1 l) = false) : worthB (hd1 (u ++ l)) = false := by
  rcases h.hd (l := l) with e | e | e
  · rw [e]; exact hl
  · rw [e]; decide
  · exact worth_white e
theorem tok_head {nm l : List Int} (h : ∀ c ∈ nm, tokB c = true) (hne : nm ≠ []) : tokB (hd1 (nm ++ l)) = true := by
  obtain ⟨d, r, hd⟩ := List.exists_cons_of_ne_nil hne
  subst hd
  exact h d (by simp)
theorem tok_not {c : Int} (h : tokB c = true) : whiteB c = false ∧ c ≠ 40 ∧ c ≠ 59 ∧ c ≠ 61 := by
  refine ⟨?_, ?_, ?_, ?_⟩
  · cases e : whiteB c with
    | false => rfl
    | true => rw [tok_white e] at h; cases h
  all_goals (intro e; subst e; revert h; decide)
theorem worth_not {c : Int} (h : worthB c = true) : whiteB c = false ∧ c ≠ 40 := by
  refine ⟨?_, ?_⟩
  · cases e : whiteB c with
    | false => rfl
    | true => rw [worth_white e] at h; cases h
  · intro e; subst e; revert h; decide
theorem Wt.head {wt o l : List Int} (h : Wt wt o) : whiteB (hd1 (wt ++ l)) = false ∧ hd1 (wt ++ l) ≠ 40 := by
  cases h with
  | plain hu hne =>
    obtain ⟨d, r, hd⟩ := List.exists_cons_of_ne_nil hne
    subst hd
    exact worth_not (hu d (by simp))
  | quoted => exact ⟨by show whiteB 34 = false; decide, by show (34 : Int) ≠ 40; decide⟩
theorem Prs.white {r : List Int} {ps : List (Str × List Int)} (h : Prs r ps) : whiteB (hd1 r) = false ∧ hd1 r ≠ 40 ∧ worthB (hd1 r) = false := by
  rcases h.hd with e | e <;> rw [e] <;> decide
noncomputable def PairR (tl : Led) (v : Value) (p : Str × List Int) : Prop := ∃ a b t1 t2, v = .ref a ∧ (a, tupOf [.str p.1 t1, .bytes b t2]) ∈ tl ∧ KBw.bInts b = p.2
theorem PairR.mono {tl tl' : Led} (hs : ∀ q ∈ tl, q ∈ tl') {v : Value} {p : Str × List Int} (h : PairR tl v p) : PairR tl' v p := by
  obtain ⟨a, b, t1, t2, e, hm, hb⟩ := h
  exact ⟨a, b, t1, t2, e, hs _ hm, hb⟩
/-- the list's items are tuples of the ledger that tell the pairs -/
noncomputable abbrev PairsAre (tl : Led) (vs : List Value) (ps : List (Str × List Int)) : Prop := Two (PairR tl) vs ps
theorem reg_m20 : True := by
  (k_with "cc_val" => (obtain ⟨b9, u9, e9, e8⟩ := BytesV.out (by assumption); subst e9))
  trivial
-- 21
theorem reg_p21 : True := by
  (k_with "eval Call" => (guard_hyp tag21 : True; (k_here; (with_reducible show wpAny _ _ (eval (Expr.Call (Expr.Name (Str.ofString "small_word") _) _ [] _) _) _ _ _); k_dflt (refine Call_ ?_))))
  trivial
theorem At.nil' {ks : List Int} {i : Int} {l : List Int} (h : At ks i l) : At ks i (l ++ []) := by rw [List.append_nil]; exact h
theorem Wt.headA {ks : List Int} {i : Int} {wt o l : List Int} (h : Wt wt o) (_ : At ks i (wt ++ l)) : whiteB (hd1 (wt ++ l)) = false ∧ hd1 (wt ++ l) ≠ 40 := h.head
theorem Gp.worthA {ks : List Int} {i : Int} {u l : List Int} (h : Gp u) (_ : At ks i (u ++ l)) (hl : worthB (hd1 l) = false) : worthB (hd1 (u ++ l)) = false := h.worth hl
theorem Gp.tokA {ks : List Int} {i : Int} {u l : List Int} (h : Gp u) (_ : At ks i (u ++ l)) (hl : tokB (hd1 l) = false) : tokB (hd1 (u ++ l)) = false := h.tok hl
theorem tok_headA {ks : List Int} {i : Int} {nm l : List Int} (_ : At ks i (nm ++ l)) (h : ∀ c ∈ nm, tokB c = true) (hne : nm ≠ []) : tokB (hd1 (nm ++ l)) = true := tok_head h hne
theorem white61A {ks : List Int} {i : Int} {l : List Int} (_ : At ks i (61 :: l)) : whiteB (hd1 (61 :: l)) = false := by show whiteB 61 = false; decide
theorem b61A {ks : List Int} {i : Int} {l : List Int} (_ : At ks i (61 :: l)) : hd1 (61 :: l) ≠ 40 := by show (61 : Int) ≠ 40; decide
theorem nil40 : hd1 [] ≠ 40 := by decide
theorem tok61 {l : List Int} : tokB (hd1 (61 :: l)) = false := by show tokB 61 = false; decide
theorem tok_pos {c : Int} (h : tokB c = true) : 0 ≤ c := tokB_pos h
theorem At.lt1 {ks : List Int} {i : Int} {l : List Int} (h : At ks i l) (h0 : 0 ≤ hd1 l) : i < ks.length := by
  cases l with
  | nil => exact absurd h0 (by decide)
  | cons => exact h.lt
theorem offC {T d : Addr} {o : Obj} {l : Led} (h : T ≠ d) (h2 : ∀ p ∈ l, p.1 ≠ d) : ∀ p ∈ (T, o) :: l, p.1 ≠ d := by
  intro p hp
  rcases List.mem_cons.mp hp with rfl | hp
  · exact h
  · exact h2 p hp
theorem tp_close {h₀ h : Heap} {L T D c dc : Addr} {x : Str} {t1 t2 : Tok} {b1 : Array UInt8} {its : Array Value} {k : Nat} {o1 o2 : Obj} {tl rest : Led}
    (N : News h₀ L h ((T, tupOf [.str x t1, .bytes b1 t2]) :: (D, listOf (its.push (.ref T)) k) :: (c, o1) :: (dc, o2) :: (tl ++ rest))) :
    News h₀ L h ((D, listOf (its.push (.ref T)) k) :: (c, o1) :: (dc, o2) :: (((T, tupOf [.str x t1, .bytes b1 t2]) :: tl) ++ rest)) := cb_drop N (by kcj_in)
inductive J21 (P : Params) (c dc : Addr) (b : Array UInt8) (ks : List Int) (k1 k2 k3 t1 t3 : Tok) (rest : Led) (ps : List (Str × List Int)) : Nat → (Str → Option Value) → Led → Prop
  | mk {m : Str → Option Value} (D : Addr) (q : List Int) (p : Int) (t2' : Tok) (its : Array Value) (k : Nat) (tl : Led) (ps1 ps2 : List (Str × List Int)) (hpq : Prs q ps2) (hat1 : At ks p q) (hps : ps1 ++ ps2 = ps) (hpa : PairsAre tl its.toList ps1) (hz1 : its.size ≤ p)
    (hof1 : ∀ p ∈ tl ++ rest, p.1 ≠ dc) (hof2 : ∀ p ∈ tl ++ rest, p.1 ≠ D) (hcD : c ≠ D) (hDd : D ≠ dc) (hov : OvrAll m [(Str.ofString "cursor", .ref c), (Str.ofString "pairs", .ref D)]) :
      J21 P c dc b ks k1 k2 k3 t1 t3 rest ps q.length m ((D, listOf its k) :: (c, instObj 155 dc) :: (dc, curD P b p ks.length k1 k2 k3 t1 t2' t3) :: (tl ++ rest))
set_option maxHeartbeats 8000000 in
theorem take_pairs (w : World) (c dc : Addr) (b : Array UInt8) (ks : List Int) (i : Int) (u r : List Int) (ps : List (Str × List Int)) (k1 k2 k3 t1 t2 t3 : Tok) (rest : Led) (hcd : c ≠ dc) (hoff : ∀ p ∈ rest, p.1 ≠ dc)
   (hk : KBw.bInts b = ks) (hat : At ks i (u ++ r)) (hg : Gp u) (hp : Prs r ps) (hsz : ks.length ≤ 16777216) :
   MC w 364 [.ref c] ((c, instObj 155 dc) :: (dc, curD w.params b i ks.length k1 k2 k3 t1 t2 t3) :: rest) 8 80 (fun v n' => ∃ D its k tl, v = .ref D ∧ n' = (D, listOf its k) :: (tl ++ rest) ∧ (∀ p ∈ tl ++ rest, p.1 ≠ D) ∧ PairsAre tl its.toList ps) := by
  have tag21 : True := trivial
  intro mean mg mb dp un gd cn cs a ccd cl outer A₀ base h₀ L m hp0 gs0 dr0 tk0 os0 Q E B F X N T hkk hd hu hret
  have hw0 := hp.white
  have hw1 := hw0.1
  have hw2 := hw0.2.1
  have hw3 := hw0.2.2
  have hlo := hat.lo
  have hhi := hat.hi
  k_with "exec While UnaryOp cons nil" => (
    guard_hyp tag21 : True
    rename Fr _ _ _ _ => lF
    rename News _ _ _ _ => lN
    rename _ ∧ _ ∧ AllLt _ _ => lA
    with_unfolding_all refine While_inv2 (J21 w.params c dc b ks k1 k2 k3 t1 t3 rest ps) lF lN (n₀ := r.length) ?_ ?_
    focus (with_unfolding_all exact ⟨_, r, i + u.length, _, #[], _, [], [], ps, hp, hat.app, rfl, .nil, Int.le_trans (Int.natCast_nonneg _) hat.app.lo, hoff, allLt_ne lA.2.2, Nat.ne_of_lt lA.1, Nat.ne_of_gt lA.2.1, ⟨rfl, rfl, trivial⟩⟩)
    clear lF lN lA
    rintro n m₁ nx h₁ tk₁ F₁ N₁ ⟨D, q, p, t2', its, k, tl, ps1, ps2, hpq, hat1, hps, hpa, hz1, hof1, hof2, hcD, hDd, hov⟩
    replace F₁ := fr_ovr F₁ _ hov
    have hlo := hat1.lo
    have hhi := hat1.hi
    rcases hpq with _ | ⟨hu1⟩ | ⟨hu1, hn1, hn2, hn3, hu2, hu3, hwt, hu4, hpr⟩
    focus (have hdn := hat1.done)
    rotate_left
    focus (have hlt := hat1.lt; have a2 := hat1.next.nil'; have a3 := a2.app; have hdn := a3.done; have a4 := a3.lo; have e1 : whiteB (hd1 []) = false := rfl; have e2 : hd1 [] ≠ 40 := nil40)
    rotate_left
    focus (have hlt := hat1.lt; have a2 := hat1.next; have a3 := a2.app; have a4 := a3.app; have a5 := a4.app; have a6 := a5.next; have a7 := a6.app; have a8 := a7.app; have a9 := a8.app; have b2 := a2.lo; have b3 := a3.lo; have b4 := a4.lo; have b5 := a5.lo; have b6 := a6.lo; have b7 := a7.lo; have b8 := a8.lo; have b9 := a9.lo; have c3 := a3.hi; have c4 := a4.hi; have c5 := a5.lt; have c7 := a7.hi; have c8 := a8.hi; have c9 := a9.hi; have hw0 := hpr.white; have d1 := hw0.1; have d2 := hw0.2.1; have d3 := hu4.worthA a8 hw0.2.2; have hw1 := hwt.headA a7; have d4 := hw1.1; have d5 := hw1.2; have d6 := hu2.tokA a4 tok61; have hw2 := tok_not (tok_headA a3 hn1 hn2); have d7 := hw2.1; have d8 := hw2.2.1; have d9 := hw2.2.2.1; have e3 := a3.pk_hd; have f1 := white61A a5; have f2 := b61A a5; have e4 := a3.lt1 (tok_pos (tok_headA a3 hn1 hn2)))
    rotate_left)
  k_extra "mc_enter"
  k_steps
  · refine hret _ _ _ _ ⟨D, its, k, tl, rfl, rfl, hof2, ?_⟩ (by k_asm) (cb_drop (by assumption) (by kcj_in))
    rw [List.append_nil] at hps
    rw [← hps]
    exact hpa
  · exact while_next (by assumption) (by assumption) (Nat.succ_pos _) ⟨D, [], _, _, its, k, tl, ps1, [], Prs.nil, a3, hps, hpa, by omega, hof1, hof2, hcD, hDd, ⟨rfl, rfl, trivial⟩⟩
  · rename _ ∧ _ ∧ _ ∧ AllLt _ _ => lA
    refine while_next (by assumption) (tp_close (by assumption)) ?_ ⟨D, _, _, _, _, _, _, ps1 ++ [_], _, hpr, a9, (List.append_assoc _ [_] _).trans hps, ?_, ?_, offC (Nat.ne_of_gt lA.2.2.1) hof1, offC (Nat.ne_of_gt lA.1) hof2, hcD, hDd, ⟨rfl, rfl, trivial⟩⟩
    · simp only [List.length_cons, List.length_append]; omega
    · rw [Array.toList_push]
      exact (Two.imp (fun _ _ => PairR.mono fun _ h => .tail _ h) hpa).snoc ⟨_, _, _, _, rfl, .head _, by assumption⟩
    · rw [Array.size_push]; omega
-- 30
theorem reg_p30 : True := by
  (k_with "exec For Name Name cons nil" => (guard_hyp tag30 : True; (k_here; (with_reducible show wpAny _ _ (exec (Stmt.For _ _ _ [] _) _) _ _ _); k_strName; (rename Fr _ _ _ _ => lF'); (with_unfolding_all refine' For_invVF lF' ?k1q67 ?k2q67 ?_; (case k1q67 => exact rfl); (case k2q67 => exact rfl); k_whole); k_dflt (refine ld lF' (by rfl) ?_); k_strUnr)))
  (k_with "UnrEnd" => (guard_hyp tag30 : True; (k_here; refine UnrEnd.intro (by assumption) (by assumption) _ (fun _ hp => hp) (lt_ne' (by assumption)) ?_; (try dsimp only))))
  trivial
theorem lt_ne' {l : Led} {d : Addr} (h : ∀ p ∈ l, p.1 < d) : ∀ p ∈ l, p.1 ≠ d := fun p hp => Nat.ne_of_lt (h p hp)
section
set_option maxHeartbeats 8000000 in
theorem part_number_0 (w : World) (x : Str) (hx : x = Str.ofString "0") (t : Tok) (news : Led) : MC w 371 [.str x t] news 2 20 (fun v n' => n' = news ∧ ∃ t, v = .int 0 t) := by
  subst hx
  have tag30 : True := trivial
  intro mean mg mb dp un gd cn cs a ccd cl outer A₀ base h₀ L m hp0 gs0 dr0 tk0 os0 Q E B F X N T hk hd hu hret
  k_extra "mc_enter"
  k_steps
  exact hret _ _ _ _ ⟨rfl, _, congrArg (Value.int · _) (by kernel_rfl!)⟩ (by k_asm) (by k_asm)
set_option maxHeartbeats 8000000 in
theorem part_number_1 (w : World) (x : Str) (hx : x = Str.ofString "1") (t : Tok) (news : Led) : MC w 371 [.str x t] news 2 20 (fun v n' => n' = news ∧ ∃ t, v = .int 1 t) := by
  subst hx
  have tag30 : True := trivial
  intro mean mg mb dp un gd cn cs a ccd cl outer A₀ base h₀ L m hp0 gs0 dr0 tk0 os0 Q E B F X N T hk hd hu hret
  k_extra "mc_enter"
  k_steps
  exact hret _ _ _ _ ⟨rfl, _, congrArg (Value.int · _) (by kernel_rfl!)⟩ (by k_asm) (by k_asm)
end
theorem reg_m30 : True := by
  (k_with "exec For Name Name cons nil" => (k_here; (with_reducible show wpAny _ _ (exec (Stmt.For _ _ _ [] _) _) _ _ _); k_strName; (rename Fr _ _ _ _ => lF'); (with_unfolding_all refine' For_invVF lF' ?k1q69 ?k2q69 ?_; (case k1q69 => exact rfl); (case k2q69 => exact rfl); k_whole); k_dflt (refine ld lF' (by rfl) ?_); k_strUnr))
  (k_with "UnrEnd" => (k_here; refine UnrEnd.intro (by assumption) (by assumption) _ (fun _ hp => hp) (lt_ne' (by assumption)) ?_; (try dsimp only)))
  (k_with "eval Call" => (k_here; (with_reducible show wpAny _ _ (eval (Expr.Call (Expr.Name (Str.ofString "part_number") _) _ [] _) _) _ _ _); k_dflt (refine Call_ ?_)))
  (k_with "call ref" => (k_here; (try dsimp only [List.nil_append, List.cons_append, List.append_nil]); (with_reducible show wpAny _ _ (call (Value.ref 371) [Value.str _ _]) _ _ _); k_dflt (refine' MC.use2 (part_number_0 _ _ ?p1q72 _ _) ?Bq72 ?Fq72 ?Xq72 ?Nq72 ?Tq72 ?hkq72 ?hdq72 ?hunq72 ?_; (case Bq72 => k_asm); (case Fq72 => k_asm); (case Xq72 => k_asm); (case Nq72 => k_asm); (case Tq72 => k_asm); (case hkq72 => first | exact rfl | assumption); (case p1q72 => kernel_rfl!); (case hdq72 => ktr_room); (case hunq72 => ktr_units)); intro u9 h9 tk9 F9 N9;  (try k_sweep); (try dsimp only); (try k_extra "kfold")))
  (k_with "call ref" => (k_here; (try dsimp only [List.nil_append, List.cons_append, List.append_nil]); (with_reducible show wpAny _ _ (call (Value.ref 371) [Value.str _ _]) _ _ _); k_dflt (refine' MC.use2 (part_number_1 _ _ ?p1q73 _ _) ?Bq73 ?Fq73 ?Xq73 ?Nq73 ?Tq73 ?hkq73 ?hdq73 ?hunq73 ?_; (case Bq73 => k_asm); (case Fq73 => k_asm); (case Xq73 => k_asm); (case Nq73 => k_asm); (case Tq73 => k_asm); (case hkq73 => first | exact rfl | assumption); (case p1q73 => kernel_rfl!); (case hdq73 => ktr_room); (case hunq73 => ktr_units)); intro u9 h9 tk9 F9 N9;  (try k_sweep); (try dsimp only); (try k_extra "kfold")))
  trivial
-- 31
set_option maxHeartbeats 8000000 in
theorem part_of_none (w : World) (x : Str) (hx : x = Str.ofString "a" ∨ x = Str.ofString "name" ∨ x = Str.ofString "e" ∨ x = Str.ofString "f") (t : Tok) (news : Led) : MC w 378 [.str x t] news 4 40 (fun v n' => n' = news ∧ v = .none) := by
  intro mean mg mb dp un gd cn cs a ccd cl outer A₀ base h₀ L m hp0 gs0 dr0 tk0 os0 Q E B F X N T hk hd hu hret
  rcases hx with rfl | rfl | rfl | rfl
  all_goals (
    k_extra "mc_enter"
    k_steps
    exact hret _ _ _ _ ⟨rfl, rfl⟩ (by k_asm) (by k_asm))
set_option maxHeartbeats 8000000 in
theorem part_of_c0 (w : World) (t : Tok) (news : Led) : MC w 378 [.str (Str.ofString "c*0") t] news 4 40 (fun v n' => ∃ a t1 t2, v = .ref a ∧ n' = (a, tupOf [.str (Str.ofString "c") t1, .int 0 t2, .bool false]) :: news) := by
  intro mean mg mb dp un gd cn cs a ccd cl outer A₀ base h₀ L m hp0 gs0 dr0 tk0 os0 Q E B F X N T hk hd hu hret
  k_extra "mc_enter"
  k_steps
  rw [show (Txt.item (Str.ofString "c*0") (-1) == Str.ofString "*") = false by kernel_rfl!] at *
  exact hret _ _ _ _ ⟨_, _, _, rfl, rfl⟩ (by k_asm) (by k_asm)
set_option maxHeartbeats 8000000 in
theorem part_of_c1 (w : World) (t : Tok) (news : Led) : MC w 378 [.str (Str.ofString "c*1*") t] news 4 40 (fun v n' => ∃ a t1 t2, v = .ref a ∧ n' = (a, tupOf [.str (Str.ofString "c") t1, .int 1 t2, .bool true]) :: news) := by
  intro mean mg mb dp un gd cn cs a ccd cl outer A₀ base h₀ L m hp0 gs0 dr0 tk0 os0 Q E B F X N T hk hd hu hret
  k_extra "mc_enter"
  k_steps
  rw [show (Txt.item (Str.ofString "c*1*") (-1) == Str.ofString "*") = true by kernel_rfl!] at *
  exact hret _ _ _ _ ⟨_, _, _, rfl, rfl⟩ (by k_asm) (by k_asm)
set_option maxHeartbeats 8000000 in
theorem part_of_d (w : World) (t : Tok) (news : Led) : MC w 378 [.str (Str.ofString "d*") t] news 4 40 (fun v n' => ∃ a t1 t2, v = .ref a ∧ n' = (a, tupOf [.str (Str.ofString "d") t1, .int 0 t2, .bool true]) :: news) := by
  intro mean mg mb dp un gd cn cs a ccd cl outer A₀ base h₀ L m hp0 gs0 dr0 tk0 os0 Q E B F X N T hk hd hu hret
  k_extra "mc_enter"
  k_steps
  exact hret _ _ _ _ ⟨_, _, _, rfl, rfl⟩ (by k_asm) (by k_asm)
theorem reg_m31 : True := by
  (k_with "eval Call" => (k_here; (with_reducible show wpAny _ _ (eval (Expr.Call (Expr.Name (Str.ofString "part_of") _) _ [] _) _) _ _ _); k_dflt (refine Call_ ?_)))
  (k_with "call ref" => (k_here; (try dsimp only [List.nil_append, List.cons_append, List.append_nil]); (with_reducible show wpAny _ _ (call (Value.ref 378) [Value.str _ _]) _ _ _); k_dflt (refine' MC.use1 (part_of_none _ _ ?p1q75 _ _) ?Bq75 ?Fq75 ?Xq75 ?Nq75 ?Tq75 ?hkq75 ?hdq75 ?hunq75 ?_; (case Bq75 => k_asm); (case Fq75 => k_asm); (case Xq75 => k_asm); (case Nq75 => k_asm); (case Tq75 => k_asm); (case hkq75 => first | exact rfl | assumption); (case p1q75 => first | exact Or.inl rfl | exact Or.inr (Or.inl rfl) | exact Or.inr (Or.inr (Or.inl rfl)) | exact Or.inr (Or.inr (Or.inr rfl))); (case hdq75 => ktr_room); (case hunq75 => ktr_units)); intro h9 tk9 F9 N9;  (try k_sweep); (try dsimp only); (try k_extra "kfold")))
  (k_with "call ref" => (k_here; (try dsimp only [List.nil_append, List.cons_append, List.append_nil]); (with_reducible show wpAny _ _ (call (Value.ref 378) [Value.str (Str.ofString "c*0") _]) _ _ _); k_dflt (refine' MC.use3 (part_of_c0 _ _ _) ?Bq76 ?Fq76 ?Xq76 ?Nq76 ?Tq76 ?hkq76 ?hdq76 ?hunq76 ?_; (case Bq76 => k_asm); (case Fq76 => k_asm); (case Xq76 => k_asm); (case Nq76 => k_asm); (case Tq76 => k_asm); (case hkq76 => first | exact rfl | assumption);  (case hdq76 => ktr_room); (case hunq76 => ktr_units)); intro a9 u9 u8 h9 tk9 F9 N9;  (try k_sweep); (try dsimp only); (try k_extra "kfold")))
  (k_with "call ref" => (k_here; (try dsimp only [List.nil_append, List.cons_append, List.append_nil]); (with_reducible show wpAny _ _ (call (Value.ref 378) [Value.str (Str.ofString "c*1*") _]) _ _ _); k_dflt (refine' MC.use3 (part_of_c1 _ _ _) ?Bq77 ?Fq77 ?Xq77 ?Nq77 ?Tq77 ?hkq77 ?hdq77 ?hunq77 ?_; (case Bq77 => k_asm); (case Fq77 => k_asm); (case Xq77 => k_asm); (case Nq77 => k_asm); (case Tq77 => k_asm); (case hkq77 => first | exact rfl | assumption);  (case hdq77 => ktr_room); (case hunq77 => ktr_units)); intro a9 u9 u8 h9 tk9 F9 N9;  (try k_sweep); (try dsimp only); (try k_extra "kfold")))
  (k_with "call ref" => (k_here; (try dsimp only [List.nil_append, List.cons_append, List.append_nil]); (with_reducible show wpAny _ _ (call (Value.ref 378) [Value.str (Str.ofString "d*") _]) _ _ _); k_dflt (refine' MC.use3 (part_of_d _ _ _) ?Bq78 ?Fq78 ?Xq78 ?Nq78 ?Tq78 ?hkq78 ?hdq78 ?hunq78 ?_; (case Bq78 => k_asm); (case Fq78 => k_asm); (case Xq78 => k_asm); (case Nq78 => k_asm); (case Tq78 => k_asm); (case hkq78 => first | exact rfl | assumption);  (case hdq78 => ktr_room); (case hunq78 => ktr_units)); intro a9 u9 u8 h9 tk9 F9 N9;  (try k_sweep); (try dsimp only); (try k_extra "kfold")))
  trivial
-- 32
set_option maxHeartbeats 8000000 in
theorem utf8_sign (w : World) (b : Array UInt8) (tb ti : Tok) (ks : List Int) (i c : Int) (r : List Int) (hk : KBw.bInts b = ks) (hat : At ks i (c :: r)) (hc : c < 128) (hsz : ks.length ≤ 16777216) (news : Led) :
   MC w 212 [.bytes b tb, .int i ti] news 2 20 (fun v n' => ∃ a t1 t2, v = .ref a ∧ n' = (a, tupOf [.int c t1, .int 1 t2]) :: news) := by
  intro mean mg mb dp un gd cn cs a ccd cl outer A₀ base h₀ L m hp0 gs0 dr0 tk0 os0 Q E B F X N T hkk hd hu hret
  k_extra "mc_enter"
  k_steps
  exact hret _ _ _ _ ⟨_, _, _, rfl, rfl⟩ (by k_asm) (by k_asm)
theorem reg_m32 : True := by
  (k_with "eval Call" => (k_here; (with_reducible show wpAny _ _ (eval (Expr.Call (Expr.Name (Str.ofString "utf8_sign") _) _ [] _) _) _ _ _); k_dflt (refine Call_ ?_)))
  (k_with "call ref" => (k_here; (try dsimp only [List.nil_append, List.cons_append, List.append_nil]); (with_reducible show wpAny _ _ (call (Value.ref 212) [Value.bytes _ _, Value.int _ _]) _ _ _); k_dflt (refine' MC.use3 (utf8_sign _ _ _ _ _ _ _ _ ?p1q80 ?p2q80 ?p3q80 ?p4q80 _) ?Bq80 ?Fq80 ?Xq80 ?Nq80 ?Tq80 ?hkq80 ?hdq80 ?hunq80 ?_; (case Bq80 => k_asm); (case Fq80 => k_asm); (case Xq80 => k_asm); (case Nq80 => k_asm); (case Tq80 => k_asm); (case hkq80 => first | exact rfl | assumption); (case p1q80 => with_reducible assumption); (case p2q80 => with_reducible assumption); (case p3q80 => with_reducible assumption); (case p4q80 => with_reducible assumption); (case hdq80 => ktr_room); (case hunq80 => ktr_units)); intro a9 u9 u8 h9 tk9 F9 N9;  (try k_sweep); (try dsimp only); (try k_extra "kfold")))
  trivial
-- 33
theorem reg_p33 : True := by
  (k_with "compareOp NotIn str ref" => (guard_hyp tag33 : True; (k_here; (with_reducible show wpAny _ _ (compareOp CmpOp.NotIn (Value.str _ _) (Value.ref 177)) _ _ _); k_dflt (refine notIn_charsets (by with_reducible assumption) (by with_reducible assumption) ?_))))
  trivial
theorem notIn_charsets {prog : Program} {w : World} {A : Around} {E : Value → Shared → Prop} {s : Shared} {h₀ : Heap} {L : Addr} {m : Str → Option Value} {Q : Value → Shared → Prop} {u : Tok} (F : Fr h₀ L s.heap m) (X : (hd.heap_39 w.params).In h₀) (h : Q (.bool false) s) : wpAny (model prog w) A (compareOp .NotIn (.str (Str.ofString "utf-8") u) (.ref 177)) Q E s := by
  have e : ([Str.ofString "us-ascii", Str.ofString "iso-8859-1", Str.ofString "utf-8"].any (· == Str.ofString "utf-8")) = true := by kernel_rfl!
  exact notin_tuple_strs (tupK (X.keeps F.keep) (a := 177) rfl) (.cons _ _ (.cons _ _ (.cons _ _ .nil))) (by rw [e]; exact h)
set_option maxHeartbeats 8000000 in
theorem sign_at (w : World) (b : Array UInt8) (tc tb ti : Tok) (ks : List Int) (i c : Int) (r : List Int) (hk : KBw.bInts b = ks) (hat : At ks i (c :: r)) (hc : c < 128) (hsz : ks.length ≤ 16777216) (news : Led) :
   MC w 219 [.str (Str.ofString "utf-8") tc, .bytes b tb, .int i ti] news 3 30 (fun v n' => ∃ a t1 t2, v = .ref a ∧ n' = (a, tupOf [.int c t1, .int 1 t2]) :: news) := by
  have tag33 : True := trivial
  intro mean mg mb dp un gd cn cs a ccd cl outer A₀ base h₀ L m hp0 gs0 dr0 tk0 os0 Q E B F X N T hkk hd hu hret
  k_extra "mc_enter"
  k_steps
  exact hret _ _ _ _ ⟨_, _, _, rfl, rfl⟩ (by k_asm) (by k_asm)
set_option maxHeartbeats 8000000 in
theorem need_charset (w : World) (tc : Tok) (news : Led) :
   MC w 198 [.str (Str.ofString "utf-8") tc] news 1 10 (fun v n' => n' = news ∧ v = .none) := by
  have tag33 : True := trivial
  intro mean mg mb dp un gd cn cs a ccd cl outer A₀ base h₀ L m hp0 gs0 dr0 tk0 os0 Q E B F X N T hkk hd hu hret
  k_extra "mc_enter"
  k_steps
  exact hret _ _ _ _ ⟨rfl, rfl⟩ (by k_asm) (by k_asm)
theorem reg_m33 : True := by
  (k_with "eval Call" => (k_here; (with_reducible show wpAny _ _ (eval (Expr.Call (Expr.Name (Str.ofString "sign_at") _) _ [] _) _) _ _ _); k_dflt (refine Call_ ?_)))
  (k_with "eval Call" => (k_here; (with_reducible show wpAny _ _ (eval (Expr.Call (Expr.Name (Str.ofString "need_charset") _) _ [] _) _) _ _ _); k_dflt (refine Call_ ?_)))
  (k_with "call ref" => (k_here; (try dsimp only [List.nil_append, List.cons_append, List.append_nil]); (with_reducible show wpAny _ _ (call (Value.ref 219) [Value.str _ _, Value.bytes _ _, Value.int _ _]) _ _ _); k_dflt (refine' MC.use3 (sign_at _ _ _ _ _ _ _ _ _ ?p1q84 ?p2q84 ?p3q84 ?p4q84 _) ?Bq84 ?Fq84 ?Xq84 ?Nq84 ?Tq84 ?hkq84 ?hdq84 ?hunq84 ?_; (case Bq84 => k_asm); (case Fq84 => k_asm); (case Xq84 => k_asm); (case Nq84 => k_asm); (case Tq84 => k_asm); (case hkq84 => first | exact rfl | assumption); (case p1q84 => with_reducible assumption); (case p2q84 => with_reducible assumption); (case p3q84 => with_reducible assumption); (case p4q84 => with_reducible assumption); (case hdq84 => ktr_room); (case hunq84 => ktr_units)); intro a9 u9 u8 h9 tk9 F9 N9;  (try k_sweep); (try dsimp only); (try k_extra "kfold")))
  (k_with "call ref" => (k_here; (try dsimp only [List.nil_append, List.cons_append, List.append_nil]); (with_reducible show wpAny _ _ (call (Value.ref 198) [Value.str _ _]) _ _ _); k_dflt (refine' MC.use1 (need_charset _ _ _) ?Bq85 ?Fq85 ?Xq85 ?Nq85 ?Tq85 ?hkq85 ?hdq85 ?hunq85 ?_; (case Bq85 => k_asm); (case Fq85 => k_asm); (case Xq85 => k_asm); (case Nq85 => k_asm); (case Tq85 => k_asm); (case hkq85 => first | exact rfl | assumption);  (case hdq85 => ktr_room); (case hunq85 => ktr_units)); intro h9 tk9 F9 N9;  (try k_sweep); (try dsimp only); (try k_extra "kfold")))
  trivial
-- 34
noncomputable def sgn (c : Int) : Str := ⟨#[c.toNat]⟩
/-- the text of plain octets -/
noncomputable def txt (ks : List Int) : Str := Txt.join (Str.ofString "") (ks.map sgn)
theorem pre_le {pre ks : List Int} {n : Nat} (h : pre ++ [] = ks) (h2 : ks.length ≤ n) : pre.length ≤ n := by
  rw [List.append_nil] at h; subst h; exact h2
theorem pre_mem {pre ks rem : List Int} {c : Int} (h : pre ++ c :: rem = ks) : c ∈ ks := by
  subst h; simp
theorem arr_of (its : Array Value) : ∃ vs : List Value, its = vs.toArray := ⟨its.toList, by simp⟩
theorem ca_of {vs : List Value} {pre : List Int} (h : CarriedAll vs.toArray.toList (pre.map fun c => PyData.str (sgn c))) : CarriedAll vs (pre.map fun c => PyData.str ⟨#[c.toNat]⟩) := h
theorem ca_snoc {vs : List Value} {ds : List PyData} {v : Value} {d : PyData} (h : CarriedAll vs ds) (k : Carried v d) : CarriedAll (vs ++ [v]) (ds ++ [d]) := by
  induction h with
  | nil => exact .cons k .nil
  | cons a _ ih => exact .cons a ih
inductive J34 (ks : List Int) (b : Array UInt8) (tb tc : Tok) (news : Led) : Nat → (Str → Option Value) → Led → Prop
  | mk {m : Str → Option Value} (S : Addr) (p : Int) (pre rem : List Int) (its : Array Value) (k t1 : Nat) (hpre : pre ++ rem = ks) (hat : At ks p rem) (hz : its.size ≤ p) (hca : CarriedAll its.toList (pre.map fun c => PyData.str (sgn c))) (hoff : ∀ p ∈ news, p.1 ≠ S)
    (hov : OvrAll m [(Str.ofString "charset", .str (Str.ofString "utf-8") tc), (Str.ofString "octets", .bytes b tb), (Str.ofString "signs", .ref S), (Str.ofString "at", .int p t1)]) : J34 ks b tb tc news rem.length m ((S, listOf its k) :: news)
set_option maxHeartbeats 8000000 in
theorem strict_text (w : World) (b : Array UInt8) (tc tb : Tok) (ks : List Int) (hk : KBw.bInts b = ks) (hall : ∀ c ∈ ks, c < 128) (hsz : ks.length ≤ 16777216) (hsz2 : ks.length ≤ 1048576) (news : Led) :
   MC w 233 [.str (Str.ofString "utf-8") tc, .bytes b tb] news 5 60 (fun v n' => n' = news ∧ ∃ t, v = .str (txt ks) t) := by
  have tag34 : True := trivial
  intro mean mg mb dp un gd cn cs a ccd cl outer A₀ base h₀ L m hp0 gs0 dr0 tk0 os0 Q E B F X N T hkk hd hu hret
  k_with "exec While Compare cons nil" => (
    guard_hyp tag34 : True
    rename Fr _ _ _ _ => lF
    rename News _ _ _ _ => lN
    with_unfolding_all refine While_inv2 (J34 ks b tb tc news) lF lN (n₀ := ks.length) ?_ ?_
    focus (with_unfolding_all exact ⟨_, 0, [], ks, #[], _, _, rfl, At.start ks, Int.le_refl 0, CarriedAll.nil, lt_ne (by assumption), ⟨rfl, rfl, rfl, rfl, trivial⟩⟩)
    clear lF lN
    rintro n m₁ nx h₁ tk₁ F₁ N₁ ⟨S, p, pre, rem, its, k, t1, hpre, hat, hz, hca, hoff, hov⟩
    replace F₁ := fr_ovr F₁ _ hov
    have hlo := hat.lo
    have hhi := hat.hi
    rcases rem with _ | ⟨c, rem⟩
    focus (have hdn := hat.done; obtain ⟨vs, rfl⟩ : ∃ vs : List Value, its = vs.toArray := arr_of its; have hpl : pre.length ≤ 1048576 := pre_le hpre hsz2; have hca := ca_of hca)
    rotate_left
    focus (have hlt := hat.lt; have hcm : c ∈ ks := pre_mem hpre; have hc : c < 128 := hall c hcm; have hc0 : 0 ≤ c := (KBw.ints_in (hk ▸ hcm : c ∈ KBw.bInts b)).1; have hat2 := hat.next)
    rotate_left)
  k_extra "mc_enter"
  k_steps
  · have e : pre = ks := by rw [← hpre, List.append_nil]
    subst e
    exact hret _ _ _ _ ⟨rfl, _, rfl⟩ (by k_asm) (cb_drop (by assumption) (by kcj_in))
  · refine while_next (by assumption) (cb_drop (by assumption) (by kcj_in)) (Nat.lt_succ_self _) ⟨S, p + 1, pre ++ [c], rem, _, _, _, (List.append_assoc _ [_] _).trans hpre, hat2, ?_, ?_, hoff, ⟨rfl, rfl, rfl, rfl, trivial⟩⟩
    · rw [Array.size_push]; omega
    · rw [Array.toList_push, List.map_append]
      exact ca_snoc hca (.str _ _)
theorem reg_m34 : True := by
  (k_with "eval Call" => (k_here; (with_reducible show wpAny _ _ (eval (Expr.Call (Expr.Name (Str.ofString "strict_text") _) _ [] _) _) _ _ _); k_dflt (refine Call_ ?_)))
  (k_with "eval Call" => (k_here; (with_reducible show wpAny _ _ (eval (Expr.Call (Expr.Name (Str.ofString "guessed_text") _) _ [] _) _) _ _ _); k_dflt (refine Call_ ?_)))
  (k_with "call ref" => (k_here; (try dsimp only [List.nil_append, List.cons_append, List.append_nil]); (with_reducible show wpAny _ _ (call (Value.ref 233) [Value.str _ _, Value.bytes _ _]) _ _ _); k_dflt (refine' MC.use2 (strict_text _ _ _ _ _ ?p1q88 ?p2q88 ?p3q88 ?p4q88 _) ?Bq88 ?Fq88 ?Xq88 ?Nq88 ?Tq88 ?hkq88 ?hdq88 ?hunq88 ?_; (case Bq88 => k_asm); (case Fq88 => k_asm); (case Xq88 => k_asm); (case Nq88 => k_asm); (case Tq88 => k_asm); (case hkq88 => first | exact rfl | assumption); (case p1q88 => with_reducible assumption); (case p2q88 => with_reducible assumption); (case p3q88 => first | with_reducible assumption | omega); (case p4q88 => first | with_reducible assumption | omega); (case hdq88 => ktr_room); (case hunq88 => ktr_units)); intro u9 h9 tk9 F9 N9;  (try k_sweep); (try dsimp only); (try k_extra "kfold")))
  trivial
-- 35
set_option maxHeartbeats 8000000 in
theorem guessed_text (w : World) (b : Array UInt8) (tb : Tok) (ks : List Int) (hk : KBw.bInts b = ks) (hall : ∀ c ∈ ks, c < 128) (hsz : ks.length ≤ 1048576) (news : Led) :
   MC w 240 [.bytes b tb] news 7 80 (fun v n' => n' = news ∧ ∃ t, v = .str (txt ks) t) := by
  intro mean mg mb dp un gd cn cs a ccd cl outer A₀ base h₀ L m hp0 gs0 dr0 tk0 os0 Q E B F X N T hkk hd hu hret
  k_extra "mc_enter"
  k_steps
  exact hret _ _ _ _ ⟨rfl, _, rfl⟩ (by k_asm) (by k_asm)
theorem reg_m35 : True := by
  (k_with "call ref" => (k_here; (try dsimp only [List.nil_append, List.cons_append, List.append_nil]); (with_reducible show wpAny _ _ (call (Value.ref 240) [Value.bytes _ _]) _ _ _); k_dflt (refine' MC.use2 (guessed_text _ _ _ _ ?p1q89 ?p2q89 ?p3q89 _) ?Bq89 ?Fq89 ?Xq89 ?Nq89 ?Tq89 ?hkq89 ?hdq89 ?hunq89 ?_; (case Bq89 => k_asm); (case Fq89 => k_asm); (case Xq89 => k_asm); (case Nq89 => k_asm); (case Tq89 => k_asm); (case hkq89 => first | exact rfl | assumption); (case p1q89 => with_reducible assumption); (case p2q89 => with_reducible assumption); (case p3q89 => first | with_reducible assumption | omega); (case hdq89 => ktr_room); (case hunq89 => ktr_units)); intro u9 h9 tk9 F9 N9;  (try k_sweep); (try dsimp only); (try k_extra "kfold")))
  trivial
-- 36
namespace BI
theorem slot : Slot "bytes" "index" "bytes.index" :=
  .of (owner := "bytes") (n := "index") (by rw [typeLookup_type, builtinLookup_eq_fast]; kernel_rfl) (by decide +kernel) (by decide +kernel) (by decide +kernel)
    (by first | exact .inl (by decide +kernel) | exact .inr (by decide +kernel)) (by rw [isSubtype_type]; kernel_rfl)
theorem type : typeOf (.builtin "bytes.index") = pure (.type "method_descriptor") := by show builtinType _ = _; rw [builtinType_eq_fast]; kernel_rfl
theorem entry : entryFor table "bytes.index" = some Builtin.«bytes.index» := entryFor_of_tree (by kernel_rfl)
theorem args (a b : Value) : argsOk "bytes.index" ⟨[a, b], []⟩ := by
  unfold argsOk; rw [signature?_of (id := "bytes.index") (n := ['x', 'e', 'd', 'n', 'i']) (o := ['s', 'e', 't', 'y', 'b']) (by kernel_rfl) FB.owner_bytes]; kernel_rfl
theorem no_buffer : typeLookup (.type "int") "__buffer__" = pure none := by rw [typeLookup_type, builtinLookup_eq_fast]; kernel_rfl
theorem buffer_int {id : String} {i : Int} {u : Tok} : Bytes.buffer? id (.int i u) = pure none := by
  unfold Bytes.buffer?
  have e : specialOf (.int i u) "__buffer__" = typeLookup (.type "int") "__buffer__" := rfl
  rw [e, no_buffer]
  rfl
theorem meets (b : Array UInt8) (t u : Tok) (i : Int) (k : Nat) (h0 : 0 ≤ i) (h1 : i < 256) (hf : Bytes.find? b #[i.toNat.toUInt8] 0 b.size = some k) (hz : 1 ≤ b.size) :
    Meets (Builtin.«bytes.index» ⟨[.bytes b t, .int i u], []⟩) (fun _ R s => ∀ t' tk, R (.ok (.ret (.int k t'))) { s with toks := tk }) := by
  refine .of_wp fun prog w A R s h => ?_
  show wpAny _ _ (Bytes.searchArgs .bytes "index" _ >>= fun r => _) _ _ s
  refine wpAny_bind ?_
  unfold Bytes.searchArgs
  refine wpAny_bind (wpAny_of_eq (a := (Value.bytes b t, [Value.int i u])) rfl ?_)
  dsimp only
  refine wpAny_bind (wpAny_of_eq (a := none) rfl ?_)
  refine wpAny_bind (wpAny_of_eq (a := none) rfl ?_)
  refine wpAny_bind (wpAny_of_eq buffer_int ?_)
  dsimp only
  refine wpAny_bind (wpAny_specialOf (T := "int") (typeIs_int _ _ _) F.slot_int_index.lookup ?_)
  refine wpAny_ite (KBy.ite_no (show ¬ (Option.isNone (some _) = true) from Bool.false_ne_true) ?_)
  refine wpAny_bind (wpAny_of_eq (a := i) rfl ?_)
  refine wpAny_ite (KBy.ite_no (by simp; omega) ?_)
  refine wpAny_bind (wpAny_of_eq (a := #[i.toNat.toUInt8]) rfl ?_)
  refine wpAny_bind (wpAny_of_eq (a := b) rfl ?_)
  refine wpAny_pure ?_
  have e1 : Bytes.window b.size none none = (0, (b.size : Int)) := by simp [Bytes.window]; omega
  rw [e1]
  dsimp only
  rw [if_neg (show ¬ ((b.size : Int) - 0 < ((#[i.toNat.toUInt8] : Array UInt8).size : Int)) by simp; omega)]
  have e2 : (some ((0 : Int).toNat, (b.size : Int).toNat)).bind (fun x => if false = true then Bytes.rfind? b #[i.toNat.toUInt8] x.fst x.snd else Bytes.find? b #[i.toNat.toUInt8] x.fst x.snd) = some k := by
    simpa using hf
  rw [e2]
  dsimp only
  exact wpAny_bind (wpAny_mkInt (wpAny_pure ⟨_, rfl, h _ _⟩))
end BI
namespace BS
theorem slot : Slot "bytes" "split" "bytes.split" :=
  .of (owner := "bytes") (n := "split") (by rw [typeLookup_type, builtinLookup_eq_fast]; kernel_rfl) (by decide +kernel) (by decide +kernel) (by decide +kernel)
    (by first | exact .inl (by decide +kernel) | exact .inr (by decide +kernel)) (by rw [isSubtype_type]; kernel_rfl)
theorem type : typeOf (.builtin "bytes.split") = pure (.type "method_descriptor") := by show builtinType _ = _; rw [builtinType_eq_fast]; kernel_rfl
theorem entry : entryFor table "bytes.split" = some Builtin.«bytes.split» := entryFor_of_tree (by kernel_rfl)
theorem args (a b c : Value) : argsOk "bytes.split" ⟨[a, b, c], []⟩ := by
  unfold argsOk; rw [signature?_of (id := "bytes.split") (n := ['t', 'i', 'l', 'p', 's']) (o := ['s', 'e', 't', 'y', 'b']) (by kernel_rfl) FB.owner_bytes]; kernel_rfl
theorem mapM3 {M : Model} {A : Around} {E : Value → Shared → Prop} {s : Shared} {X : List (Array UInt8)} {a b c : Array UInt8} {Q : List Value → Shared → Prop} (e : X = [a, b, c]) (ha : a.size ≤ sizeLine) (hb : b.size ≤ sizeLine) (hc : c.size ≤ sizeLine)
    (h : Q [.bytes a s.toks, .bytes b (s.toks + 1), .bytes c (s.toks + 1 + 1)] { s with toks := s.toks + 1 + 1 + 1 }) : wpAny M A (List.mapM Bytes.Kind.bytes.new X) Q E s := by
  subst e
  simp only [List.mapM_cons, List.mapM_nil]
  refine wpAny_bind (wpAny_mkBytes ?_ ha)
  refine wpAny_bind ?_
  refine wpAny_bind (wpAny_mkBytes ?_ hb)
  refine wpAny_bind ?_
  refine wpAny_bind (wpAny_mkBytes ?_ hc)
  refine wpAny_bind (wpAny_pure ?_)
  refine wpAny_pure ?_
  refine wpAny_pure ?_
  exact wpAny_pure h
theorem meets (t u v : Tok) :
    Meets (Builtin.«bytes.split» ⟨[.bytes #[117, 116, 102, 45, 56, 39, 39, 37, 67, 51, 37, 65, 57] t, .bytes #[39] u, .int 2 v], []⟩) (fun _ R s => ∀ t1 t2 t3 tk, R (.ok (.ret (.ref s.heap.objs.size))) { s with heap := s.heap.push { cls := .type "list", data := .seq #[.bytes #[117, 116, 102, 45, 56] t1, .bytes #[] t2, .bytes #[37, 67, 51, 37, 65, 57] t3] }, toks := tk }) := by
  refine .of_wp fun prog w A R s h => ?_
  unfold Builtin.«bytes.split» Bytes.splitM
  dsimp only
  refine wpAny_bind (wpAny_of_eq (a := [some (Value.bytes #[39] u), some (Value.int 2 v)]) rfl ?_)
  dsimp only
  refine wpAny_bind (wpAny_of_eq (a := (2 : Int)) rfl ?_)
  refine wpAny_bind (wpAny_of_eq (a := #[117, 116, 102, 45, 56, 39, 39, 37, 67, 51, 37, 65, 57]) rfl ?_)
  have eL : ∀ id : String, Bytes.bytesLike id (.bytes #[39] u) = pure #[39] := fun id => by
    unfold Bytes.bytesLike
    rw [KBy.buffer_eq]
    rfl
  refine wpAny_bind (wpAny_of_eq (eL _) ?_)
  refine wpAny_ite (KBy.ite_no (by decide) ?_)
  refine wpAny_ite (KBy.ite_no (by decide +kernel) ?_)
  refine wpAny_bind (mapM3 (a := #[117, 116, 102, 45, 56]) (b := #[]) (c := #[37, 67, 51, 37, 65, 57]) (by kernel_rfl!) (by rw [sizeLine_eq]; decide) (by rw [sizeLine_eq]; decide) (by rw [sizeLine_eq]; decide) ?_)
  refine wpAny_bind (wpAny_newList ?_)
  exact wpAny_pure ⟨_, rfl, h _ _ _ _⟩
end BS
section
variable {prog : Program} {w : World} {A : Around} {E : Value → Shared → Prop} {s : Shared} {b : Array UInt8} {t : Tok}
theorem method_index {pl : Sem Bool} {Q : Value × List Value → Shared → Prop} (h : Q (.builtin "bytes.index", [.bytes b t]) s) : wpAny (model prog w) A (getMethod (.bytes b t) (PySem.Str.ofString "index") pl) Q E s := by
  have hd : ∀ a, Value.bytes b t = .ref a → ∃ o, s.heap.get? a = some o ∧ o.dict = none := fun _ e => nomatch e
  with_reducible exact getMethod_builtin (typeIs_bytes s b t) FB.plainAttrs_bytes BI.slot BI.type hd h
theorem method_split {pl : Sem Bool} {Q : Value × List Value → Shared → Prop} (h : Q (.builtin "bytes.split", [.bytes b t]) s) : wpAny (model prog w) A (getMethod (.bytes b t) (PySem.Str.ofString "split") pl) Q E s := by
  have hd : ∀ a, Value.bytes b t = .ref a → ∃ o, s.heap.get? a = some o ∧ o.dict = none := fun _ e => nomatch e
  with_reducible exact getMethod_builtin (typeIs_bytes s b t) FB.plainAttrs_bytes BS.slot BS.type hd h
theorem call_index {u : Tok} {i : Int} {k : Nat} {Q : Value → Shared → Prop} (h0 : 0 ≤ i) (h1 : i < 256) (hf : Bytes.find? b #[i.toNat.toUInt8] 0 b.size = some k) (hz : 1 ≤ b.size) (h : ∀ t' tk, Q (.int k t') { s with toks := tk }) :
    wpAny (model prog w) A (call (.builtin "bytes.index") [.bytes b t, .int i u]) Q E s :=
  call_meets BI.slot (typeIs_bytes s _ t) BI.entry (BI.args _ _) (BI.meets b t u i k h0 h1 hf hz) fun t' tk => h t' tk
theorem call_split {h₀ : Heap} {L : Addr} {m : Str → Option Value} {news : Led} {u v : Tok} {Q : Value → Shared → Prop} (F : Fr h₀ L s.heap m) (N : News h₀ L s.heap news)
    (h : ∀ D h' t1 t2 t3 tk, Fr h₀ L h' m → News h₀ L h' ((D, listOf #[.bytes #[117, 116, 102, 45, 56] t1, .bytes #[] t2, .bytes #[37, 67, 51, 37, 65, 57] t3] 0) :: news) → (∀ p ∈ news, p.1 < D) → Q (.ref D) { s with heap := h', toks := tk }) :
    wpAny (model prog w) A (call (.builtin "bytes.split") [.bytes #[117, 116, 102, 45, 56, 39, 39, 37, 67, 51, 37, 65, 57] t, .bytes #[39] u, .int 2 v]) Q E s :=
  call_meets BS.slot (typeIs_bytes s _ t) BS.entry (BS.args _ _ _) (BS.meets t u v) fun t1 t2 t3 tk => h _ _ t1 t2 t3 tk (F.push _) (News.push F N _ rfl) (fun q hq => Heap.lt_size (N q hq).1)
end
theorem reg_m36 : True := by
  (k_with "getMethod bytes" => (k_here; first | ((with_reducible show wpAny _ _ (getMethod (Value.bytes _ _) (PySem.Str.ofString "index") _) _ _ _); with_reducible refine method_index ?_) | ((with_reducible show wpAny _ _ (getMethod (Value.bytes _ _) (PySem.Str.ofString "split") _) _ _ _); with_reducible refine method_split ?_)))
  (k_with "call builtin:bytes.index" => (k_here; (with_reducible show wpAny _ _ (call (Value.builtin "bytes.index") [Value.bytes _ _, Value.int _ _]) _ _ _); (refine call_index (by omega) (by omega) (by with_reducible assumption) (by decide) ?_); intro _ _))
  (k_with "call builtin:bytes.split" => (k_here; (with_reducible show wpAny _ _ (call (Value.builtin "bytes.split") [Value.bytes _ _, Value.bytes _ _, Value.int _ _]) _ _ _); k_dflt (refine call_split (by k_asm) (by k_asm) ?_); intro D' h' _ _ _ _ F' N' l1; (try k_lt l1); (try k_sweep)))
  trivial
-- 37
theorem reg_p37 : True := by
  (k_with "eval ListComp" => (guard_hyp tag37 : True; (k_here; (with_reducible show wpAny _ _ (eval (Expr.ListComp (Expr.IfExp _ _ _ _) _ _ _) _) _ _ _); k_dflt (refine ListComp_B (F₀ := by k_asm) (by with_unfolding_all rfl) (by decide) (by rfl) (by decide) (by rfl) ?_))))
  (k_with "compareOp NotIn int bytes" => (guard_hyp tag37 : True; (k_here; (refine notIn_hex (by omega) (by omega) (by with_reducible assumption) ?_))))
  trivial
noncomputable abbrev hexA : Array UInt8 := #[48, 49, 50, 51, 52, 53, 54, 55, 56, 57, 65, 66, 67, 68, 69, 70]
noncomputable def upC (c : Int) : Int := if 97 ≤ c ∧ c ≤ 102 then c - 32 else c
theorem upC_in {c : Int} (h0 : 0 ≤ c) (h1 : c < 256) : 0 ≤ upC c ∧ upC c < 256 := by unfold upC; split <;> omega
theorem notIn_hex {prog : Program} {w : World} {A : Around} {E : Value → Shared → Prop} {s : Shared} {b : Array UInt8} {t u : Tok} {i : Int} {Q : Value → Shared → Prop} (h0 : 0 ≤ i) (h1 : i < 256) (hc : b.contains i.toNat.toUInt8 = true) (h : Q (.bool false) s) : wpAny (model prog w) A (compareOp .NotIn (.int i u) (.bytes b t)) Q E s :=
  notIn_bytes h0 h1 (by rw [hc]; exact h)
set_option maxHeartbeats 8000000 in
theorem hex_worth (w : World) (b : Array UInt8) (t : Tok) (x y x' y' : Int) (p q : Nat) (hk : KBw.bInts b = [x, y]) (hx : [x, y].map upC = [x', y']) (cx : hexA.contains x'.toNat.toUInt8 = true) (cy : hexA.contains y'.toNat.toUInt8 = true)
    (fx : Bytes.find? hexA #[x'.toNat.toUInt8] 0 hexA.size = some p) (fy : Bytes.find? hexA #[y'.toNat.toUInt8] 0 hexA.size = some q) (news : Led) :
    MC w 383 [.bytes b t] news 3 24 (fun v n' => n' = news ∧ IntV (16 * p + q) v) := by
  have tag37 : True := trivial
  intro mean mg mb dp un gd cn cs a ccd cl outer A₀ base h₀ L m hp0 gs0 dr0 tk0 os0 Q E B F X N T hkk hd hu hret
  have hsz : ([x, y] : List Int).length ≤ sizeLine := by rw [sizeLine_eq]; exact Nat.le_of_ble_eq_true rfl
  have hx0 : 0 ≤ x ∧ x < 256 := KBw.ints_in (hk ▸ (by simp) : x ∈ KBw.bInts b)
  have hy0 : 0 ≤ y ∧ y < 256 := KBw.ints_in (hk ▸ (by simp) : y ∈ KBw.bInts b)
  have hh : x' = upC x ∧ y' = upC y := by simp at hx; exact ⟨hx.1.symm, hx.2.symm⟩
  have hx1 : 0 ≤ x' ∧ x' < 256 := hh.1 ▸ upC_in hx0.1 hx0.2
  have hy1 : 0 ≤ y' ∧ y' < 256 := hh.2 ▸ upC_in hy0.1 hy0.2
  have cx' : hexA.contains ([x', y'].getD (Int.toNat 0) 0).toNat.toUInt8 = true := cx
  have cy' : hexA.contains ([x', y'].getD (Int.toNat 1) 0).toNat.toUInt8 = true := cy
  have fx' : Bytes.find? hexA #[([x', y'].getD (Int.toNat 0) 0).toNat.toUInt8] 0 hexA.size = some p := fx
  have fy' : Bytes.find? hexA #[([x', y'].getD (Int.toNat 1) 0).toNat.toUInt8] 0 hexA.size = some q := fy
  k_extra "mc_enter"
  k_steps
  refine BSrc.ints upC rfl hk hsz (by assumption) (by assumption) ?_ ?_
  · intro k t I oI C oC D m₂ ys h tk E' hm h0 h1 hC hx F N off ne
    (try simp only [LCg.Off3, and_true] at off)
    k_steps
    all_goals (refine ⟨rfl, _, congrArg (Value.int · _) ?_⟩; unfold upC; first | rw [if_pos (by omega)] | rw [if_neg (by omega)])
  · intro ys D h tk hi F N o1
    have hin : KBa.In ([x, y].map upC) := by
      intro n hn
      obtain ⟨c, hc, rfl⟩ := List.mem_map.1 hn
      have := KBw.ints_in (hk ▸ hc : c ∈ KBw.bInts b)
      exact upC_in this.1 this.2
    rw [hx] at hi hin
    k_steps
    · rename (_ : Int) ≠ 2 => hne
      exact absurd rfl hne
    · exact hret _ _ _ _ ⟨rfl, rfl⟩ (by k_asm) (cb_drop (by assumption) (by kcj_in))
theorem reg_m37 : True := by
  (k_with "eval Call" => (k_here; (with_reducible show wpAny _ _ (eval (Expr.Call (Expr.Name (Str.ofString "hex_worth") _) _ [] _) _) _ _ _); k_dflt (refine Call_ ?_)))
  (k_with "eval Call" => (k_here; (with_reducible show wpAny _ _ (eval (Expr.Call (Expr.Name (Str.ofString "percent_decoded") _) _ [] _) _) _ _ _); k_dflt (refine Call_ ?_)))
  trivial
-- 38
theorem reg_p38 : True := by
  (k_with "call ref" => (guard_hyp tag38 : True; (k_here; (try dsimp only [List.nil_append, List.cons_append, List.append_nil]); (with_reducible show wpAny _ _ (call (Value.ref 383) [Value.bytes _ _]) _ _ _); k_dflt (refine' MC.use1i (hex_41 _ _ _ ?p1q97 _) ?Bq97 ?Fq97 ?Xq97 ?Nq97 ?Tq97 ?hkq97 ?hdq97 ?hunq97 ?_; (case Bq97 => k_asm); (case Fq97 => k_asm); (case Xq97 => k_asm); (case Nq97 => k_asm); (case Tq97 => k_asm); (case hkq97 => first | exact rfl | assumption); (case p1q97 => kernel_rfl!); (case hdq97 => ktr_room); (case hunq97 => ktr_units)); intro u9 h9 tk9 F9 N9;  (try k_sweep); (try dsimp only); (try k_extra "kfold"))))
  (k_with "call ref" => (guard_hyp tag38 : True; (k_here; (try dsimp only [List.nil_append, List.cons_append, List.append_nil]); (with_reducible show wpAny _ _ (call (Value.ref 383) [Value.bytes _ _]) _ _ _); k_dflt (refine' MC.use1i (hex_C3 _ _ _ ?p1q98 _) ?Bq98 ?Fq98 ?Xq98 ?Nq98 ?Tq98 ?hkq98 ?hdq98 ?hunq98 ?_; (case Bq98 => k_asm); (case Fq98 => k_asm); (case Xq98 => k_asm); (case Nq98 => k_asm); (case Tq98 => k_asm); (case hkq98 => first | exact rfl | assumption); (case p1q98 => kernel_rfl!); (case hdq98 => ktr_room); (case hunq98 => ktr_units)); intro u9 h9 tk9 F9 N9;  (try k_sweep); (try dsimp only); (try k_extra "kfold"))))
  (k_with "call ref" => (guard_hyp tag38 : True; (k_here; (try dsimp only [List.nil_append, List.cons_append, List.append_nil]); (with_reducible show wpAny _ _ (call (Value.ref 383) [Value.bytes _ _]) _ _ _); k_dflt (refine' MC.use1i (hex_A9 _ _ _ ?p1q99 _) ?Bq99 ?Fq99 ?Xq99 ?Nq99 ?Tq99 ?hkq99 ?hdq99 ?hunq99 ?_; (case Bq99 => k_asm); (case Fq99 => k_asm); (case Xq99 => k_asm); (case Nq99 => k_asm); (case Tq99 => k_asm); (case hkq99 => first | exact rfl | assumption); (case p1q99 => kernel_rfl!); (case hdq99 => ktr_room); (case hunq99 => ktr_units)); intro u9 h9 tk9 F9 N9;  (try k_sweep); (try dsimp only); (try k_extra "kfold"))))
  trivial
theorem hex_41 (w : World) (b : Array UInt8) (t : Tok) (h : b = #[52, 49]) (news : Led) : MC w 383 [.bytes b t] news 3 24 (fun v n' => n' = news ∧ IntV 65 v) := by
  subst h
  exact hex_worth w _ t 52 49 52 49 4 1 rfl rfl (by decide +kernel) (by decide +kernel) (by decide +kernel) (by decide +kernel) news
theorem hex_C3 (w : World) (b : Array UInt8) (t : Tok) (h : b = #[67, 51]) (news : Led) : MC w 383 [.bytes b t] news 3 24 (fun v n' => n' = news ∧ IntV 195 v) := by
  subst h
  exact hex_worth w _ t 67 51 67 51 12 3 rfl rfl (by decide +kernel) (by decide +kernel) (by decide +kernel) (by decide +kernel) news
theorem hex_A9 (w : World) (b : Array UInt8) (t : Tok) (h : b = #[65, 57]) (news : Led) : MC w 383 [.bytes b t] news 3 24 (fun v n' => n' = news ∧ IntV 169 v) := by
  subst h
  exact hex_worth w _ t 65 57 65 57 10 9 rfl rfl (by decide +kernel) (by decide +kernel) (by decide +kernel) (by decide +kernel) news
set_option maxHeartbeats 8000000 in
theorem percent_1 (w : World) (b : Array UInt8) (hb : b = #[37, 52, 49]) (t : Tok) (news : Led) :
    MC w 390 [.bytes b t] news 5 40 (fun v n' => n' = news ∧ ∃ t, v = .bytes #[65] t) := by
  subst hb
  have tag38 : True := trivial
  intro mean mg mb dp un gd cn cs a ccd cl outer A₀ base h₀ L m hp0 gs0 dr0 tk0 os0 Q E B F X N T hkk hd hu hret
  k_extra "mc_enter"
  k_steps
  exact hret _ _ _ _ ⟨rfl, _, rfl⟩ (by k_asm) (cb_drop (by assumption) (by kcj_in))
set_option maxHeartbeats 8000000 in
theorem percent_2 (w : World) (b : Array UInt8) (hb : b = #[37, 67, 51, 37, 65, 57]) (t : Tok) (news : Led) :
    MC w 390 [.bytes b t] news 5 40 (fun v n' => n' = news ∧ ∃ t, v = .bytes #[195, 169] t) := by
  subst hb
  have tag38 : True := trivial
  intro mean mg mb dp un gd cn cs a ccd cl outer A₀ base h₀ L m hp0 gs0 dr0 tk0 os0 Q E B F X N T hkk hd hu hret
  k_extra "mc_enter"
  k_steps
  exact hret _ _ _ _ ⟨rfl, _, rfl⟩ (by k_asm) (cb_drop (by assumption) (by kcj_in))
theorem reg_m38 : True := by
  (k_with "call ref" => (k_here; (try dsimp only [List.nil_append, List.cons_append, List.append_nil]); (with_reducible show wpAny _ _ (call (Value.ref 390) [Value.bytes _ _]) _ _ _); k_dflt (refine' MC.use2 (percent_1 _ _ ?p1q100 _ _) ?Bq100 ?Fq100 ?Xq100 ?Nq100 ?Tq100 ?hkq100 ?hdq100 ?hunq100 ?_; (case Bq100 => k_asm); (case Fq100 => k_asm); (case Xq100 => k_asm); (case Nq100 => k_asm); (case Tq100 => k_asm); (case hkq100 => first | exact rfl | assumption); (case p1q100 => kernel_rfl!); (case hdq100 => ktr_room); (case hunq100 => ktr_units)); intro u9 h9 tk9 F9 N9;  (try k_sweep); (try dsimp only); (try k_extra "kfold")))
  (k_with "call ref" => (k_here; (try dsimp only [List.nil_append, List.cons_append, List.append_nil]); (with_reducible show wpAny _ _ (call (Value.ref 390) [Value.bytes _ _]) _ _ _); k_dflt (refine' MC.use2 (percent_2 _ _ ?p1q101 _ _) ?Bq101 ?Fq101 ?Xq101 ?Nq101 ?Tq101 ?hkq101 ?hdq101 ?hunq101 ?_; (case Bq101 => k_asm); (case Fq101 => k_asm); (case Xq101 => k_asm); (case Nq101 => k_asm); (case Tq101 => k_asm); (case hkq101 => first | exact rfl | assumption); (case p1q101 => kernel_rfl!); (case hdq101 => ktr_room); (case hunq101 => ktr_units)); intro u9 h9 tk9 F9 N9;  (try k_sweep); (try dsimp only); (try k_extra "kfold")))
  trivial
-- 40
theorem reg_p40 : True := by
  (k_with "pc_enter" => (guard_hyp tag40 : True; (refine wpAny_call ?_; k_dflt (refine' code_def0 ?k1q102 ?k2q102 ?k3q102 ?k5q102 ?kAq102 ?kFq102 ?kKq102 ?k6q102 ?k7q102 ?k8q102 ?k9q102 ?kBq102 ?_ ?c2q102 ?c3q102 ?c4q102 ?c5q102; (case kAq102 => exact rfl); (case kFq102 => exact rfl); (case kKq102 => assumption); (case k1q102 => k_asm); (case k2q102 => k_asm); (case k3q102 => k_asm); (case k5q102 => k_asm); (case k6q102 => k_is); (case k7q102 => k_is); (case k8q102 => ktr_room); (case k9q102 => first | exact BindsTo.of_eq rfl | exact binds_K (by k_in) rfl (by k_is) rfl rfl rfl); (case c5q102 => decide); (case kBq102 => exact locs rfl); (case c2q102 => exact rfl); (case c3q102 => exact rfl); (case c4q102 => exact rfl); k_whole); intro g' L' h' hgk FG' F' N' B' X' T'; (try dsimp only); (try k_lift B'); (try k_extra "kfold"))))
  (k_with "exec For Name Tuple" => (guard_hyp tag40 : True; (k_here; (rename Fr _ _ _ _ => lF'); (with_reducible refine' For_turns ?Fq103 ?_ ?hsq103 ?hEq103; (case Fq103 => k_dflt (exact lF')); (case hsq103 => k_dflt ((intro _; rfl))); (case hEq103 => k_dflt passes_own); k_whole))))
  (k_with "exec For Name Tuple cons nil" => (guard_hyp tag40 : True; (k_here; ktu_look; (rename Fr _ _ _ _ => lF'); (with_reducible refine' For_turns ?Fq104 ?_ ?hsq104 ?hEq104; (case Fq104 => k_dflt (exact lF')); (case hsq104 => k_dflt ((intro _; rfl))); (case hEq104 => k_dflt passes_own); k_whole))))
  trivial
/-- what a call of the def at f does that changes no object made before -/
noncomputable def PC (w : World) (f : Addr) (vs : List Value) (kd ku : Nat) (Post : Value → Led → Prop) : Prop :=
  ∀ (mean : ExcName → Option Value) (mg mb : Str → Option Value) (dp un : Nat) (gd : Option (List Code)) (cn : Str) (cs : Scope) (a : Addr) (ccd : Value) (cl : List (Str × Addr)) (outer : List Env) (A₀ : Around) (base h₀ : Heap) (L : Addr)
    (m : Str → Option Value) (hp : Heap) (gs : Array GenState) (dr : Drawn) (tk0 : Nat) (os : OsState) (Q E : Value → Shared → Prop),
    Below A₀ base outer h₀ → Fr h₀ L hp m → (hd.heap_39 w.params).In h₀ → Top hd.view_39 LO mean mg mb h₀ → cs.kind = .function → dp + kd < recursionLimit → un + ku < cLine →
    (∀ v g L' n' h' tk' m', Post v n' → (∀ b o, hp.get? b = some o → g.get? b = some o) → Fr g L' h' m' → News g L' h' n' → Fr h₀ L h' m → Q v ⟨h', gs, dr, tk', os⟩) →
    wpAny (model PySem.Challenge.rw_or0065_01.row.prog w) (ktrTop dp un gd cn cs L a ccd cl outer) (call (.ref f) vs) Q E ⟨hp, gs, dr, tk0, os⟩
theorem PC.mc {w : World} {f : Addr} {vs : List Value} {kd ku : Nat} {Post : Value → Led → Prop} (h : PC w f vs kd ku Post) (news : Led) : MC w f vs news kd ku (fun v n => ∃ n0, Post v n0 ∧ n = n0 ++ news) := by
  intro mean mg mb dp un gd cn cs a ccd cl outer A₀ base h₀ L m hp0 gs0 dr0 tk0 os0 Q E B F X N T hk hd hu hret
  refine h mean mg mb dp un gd cn cs a ccd cl outer A₀ base h₀ L m hp0 gs0 dr0 tk0 os0 Q E B F X T hk hd hu fun v g L' n' h' tk' m' hP hg F' N' F₁ => hret v _ h' tk' ⟨n', hP, rfl⟩ F₁ ?_
  intro p hp
  rcases List.mem_append.mp hp with hp | hp
  · refine ⟨(N' p hp).1, ?_, ?_⟩
    · intro e
      obtain ⟨oL, _, _, hL, _⟩ := F.ns
      have := hg _ _ hL
      rw [← e, (N' p hp).2.2] at this
      cases this
    · cases q : h₀.get? p.1 with
      | none => rfl
      | some o =>
        have := hg _ _ (F.keep _ _ q)
        rw [(N' p hp).2.2] at this
        cases this
  · exact ⟨F'.keep _ _ (hg _ _ (N p hp).1), (N p hp).2⟩
section
variable {prog : Program} {w : World} {A A₀ : Around} {s : Shared} {K : Frag} {L : Addr} {h₀ base : Heap} {m mg mb : Str → Option Value} {p : Program} {loose : List Str} {mean : ExcName → Option Value}
theorem code_def0 {env : Env} {outer : List Env} {R : Result → Shared → Prop} {name qual : Str} {params : Arguments} {body : List Stmt} {scope : Scope} {dV kV doc pm cdv ct oc : Value} {an od : Option Addr} {osl : Array (Option Value)} {f : Addr} {args : Args} {binds : List (Str × Value)}
    (B : Below A₀ base outer h₀) (F : Fr h₀ L s.heap m) (X₀ : K.In h₀) (T : Top p loose mean mg mb h₀) (hA : A.frames = some (env :: outer)) (hf : env.frame = some L) (hke : env.scope.kind = .function)
    (ho : K.lookup f = some ⟨oc, od, .func (fnOf name qual params body scope dV kV doc pm an cdv ct), osl⟩) (hcd : codeIn K cdv qual = true) (hroom : A.depth < recursionLimit)
    (hbind : BindsTo s (fnOf name qual params body scope dV kV doc pm an cdv ct) args binds) (hloc : ∀ y ∈ binds, scope.names.lookup y.1 = some .local)
    (h : ∀ g L' h₁, (∀ b o, s.heap.get? b = some o → g.get? b = some o) → Fr h₀ L g m → Fr g L' h₁ (fun y => binds.reverse.lookup y) → News g L' h₁ [] → Below A base (env :: outer) g → K.In g → Top p loose mean mg mb g →
      wpAny (model prog w) (A.deeper (envOf qual scope L' f cdv)) (execs body (envOf qual scope L' f cdv))
        (fun fl s' => LeaveK h₀ L m g R (match fl with | .ret v => v | _ => .none) s')
        (fun e s' => wpAny (model prog w) (A.deeper (envOf qual scope L' f cdv)) (leaving (envOf qual scope L' f cdv) e) (fun _ s'' => R (.error e) s'') (fun e' s'' => R (.error e') s'') s')
        { s with heap := h₁, toks := s.toks + binds.length })
    (hco : scope.isCoroutine = false) (hgen : scope.isGenerator = false) (hk : scope.kind = .function)
    (hcell : ∀ x ∈ scope.names, x.2 ≠ .cell) : codeAny (model prog w) A (.call (.ref f) args) R s := by
  obtain ⟨FG, BG, st, lv⟩ := groundX (R := R) B F (News.nil (h₀ := h₀)) hA hf hke
  have hg : ∀ b o, s.heap.get? b = some o → (hideAll s.heap (([] : Led).map (·.1))).get? b = some o := fun b o e => hideAll_get _ e (by simp)
  refine codeAny_call_def (fd := fnX name qual params body scope [] dV kV doc pm an cdv ct) (body := body) (binds := binds) hroom ((X₀.keeps F.keep) _ _ ho) rfl (T.nolimit.keeps F.keep) (codeRec_of (X₀.keeps F.keep) hcd) rfl hbind hcell hloc (fun h₁ hns hk₁ => ?_) hco hgen hk
  exact wpAny_mono (h _ s.heap.objs.size h₁ hg FG ⟨hns, fun b o e => hk₁ b o (of_hideAll _ e), Nat.le_of_eq (hideAll_size _ _)⟩ News.nil BG (X₀.keeps st) (T.keeps st)) (fun fl s' hl => lv _ _ hl) fun _ _ y => y
end
set_option maxHeartbeats 8000000 in
theorem charset_names (w : World) :
    PC w 184 [] 2 20 (fun v n' => ∃ d o kvs tk, v = .ref d ∧ n' = [(d, o)] ∧ (d == sysModules) = false ∧ o.IsDictOf (PySem.strKind PySem.Challenge.rw_or0065_01.row.prog w) kvs ∧ PySem.valueAt kvs (Str.ofString "utf-8") = some (.str (Str.ofString "utf-8") tk)) := by
  have tag40 : True := trivial
  intro mean mg mb dp un gd cn cs a ccd cl outer A₀ base h₀ L m hp0 gs0 dr0 tk0 os0 Q E B F X T hkk hd hu hret
  (k_with "execs cons" => (guard_hyp tag40 : True; k_dflt ((try k_gentoks); as_aux_lemma => ((with_reducible refine wpAny_execs_cons ?_); k_fold; k_steps; all_goals (k_extra "fin40_0")))))
  k_with "fin40_0" =>
    refine hret _ _ _ [(_, _)] _ _ _ ⟨_, _, _, 407, rfl, rfl, by assumption, by assumption, ?_⟩ (by assumption) (by assumption) (cb_drop (by assumption) (by kcj_in)) (by assumption)
    kernel_rfl!
  k_extra "pc_enter"
  k_steps
  all_goals (k_extra "fin40_0")
theorem reg_m40 : True := by
  (k_with "pc_enter" => (refine wpAny_call ?_; k_dflt (refine' code_def0 ?k1q105 ?k2q105 ?k3q105 ?k5q105 ?kAq105 ?kFq105 ?kKq105 ?k6q105 ?k7q105 ?k8q105 ?k9q105 ?kBq105 ?_ ?c2q105 ?c3q105 ?c4q105 ?c5q105; (case kAq105 => exact rfl); (case kFq105 => exact rfl); (case kKq105 => assumption); (case k1q105 => k_asm); (case k2q105 => k_asm); (case k3q105 => k_asm); (case k5q105 => k_asm); (case k6q105 => k_is); (case k7q105 => k_is); (case k8q105 => ktr_room); (case k9q105 => first | exact BindsTo.of_eq rfl | exact binds_K (by k_in) rfl (by k_is) rfl rfl rfl); (case c5q105 => decide); (case kBq105 => exact locs rfl); (case c2q105 => exact rfl); (case c3q105 => exact rfl); (case c4q105 => exact rfl); k_whole); intro g' L' h' hgk FG' F' N' B' X' T'; (try dsimp only); (try k_lift B'); (try k_extra "kfold")))
  (k_with "eval Call" => (k_here; (with_reducible show wpAny _ _ (eval (Expr.Call (Expr.Name (Str.ofString "charset_names") _) _ [] _) _) _ _ _); k_dflt (refine Call_ ?_)))
  (k_with "eval Call" => (k_here; (with_reducible show wpAny _ _ (eval (Expr.Call (Expr.Name (Str.ofString "lower_text") _) _ [] _) _) _ _ _); k_dflt (refine Call_ ?_)))
  (k_with "eval Call" => (k_here; (with_reducible show wpAny _ _ (eval (Expr.Call (Expr.Name (Str.ofString "charset_name") _) _ [] _) _) _ _ _); k_dflt (refine Call_ ?_)))
  (k_with "call ref" => (k_here; (try dsimp only [List.nil_append, List.cons_append, List.append_nil]); (with_reducible show wpAny _ _ (call (Value.ref 184) []) _ _ _); k_dflt (refine' MC.use ((charset_names _).mc _) ?Bq109 ?Fq109 ?Xq109 ?Nq109 ?Tq109 ?hkq109 ?hdq109 ?hunq109 ?_; (case Bq109 => k_asm); (case Fq109 => k_asm); (case Xq109 => k_asm); (case Nq109 => k_asm); (case Tq109 => k_asm); (case hkq109 => first | exact rfl | assumption);  (case hdq109 => ktr_room); (case hunq109 => ktr_units)); intro v9 n9 h9 tk9 hV9 F9 N9; (obtain ⟨n9, ⟨d9, o9, s9, k9, e8, e7, lo9, e6, e5⟩, e9⟩ := hV9; rw [e9, e7] at N9; clear e9 e7; (try rw [List.singleton_append] at N9); subst e8); (try k_sweep); (try dsimp only); (try k_extra "kfold")))
  trivial
-- 41
theorem reg_p41 : True := by
  (k_with "eval ListComp" => (guard_hyp tag41 : True; (k_here; k_dflt (refine ListComp_T (_F₀ := by k_asm) (by with_unfolding_all rfl) (by decide) (by rfl) (by decide) (by rfl) ?_))))
  trivial
theorem strs_snoc {y : Str} {t : Tok} {vs : List Value} {ys : List Str} (h : StrsAre vs ys) : StrsAre (vs ++ [.str y t]) (ys ++ [y]) := by
  induction h with
  | nil => exact .cons y t .nil
  | cons z u _ ih => exact .cons z u ih
section
variable {prog : Program} {w : World} {A : Around} {E : Value → Shared → Prop} {s : Shared} {h₀ : Heap} {L : Addr} {m : Str → Option Value} {env : Env}
/-- a comprehension over the signs of a plain text -/
noncomputable def TSrc (prog : Program) (w : World) (A : Around) (h₀ : Heap) (L : Addr) (m : Str → Option Value) (env : Env) (elt : Expr) (x : Str) (scope : Scope) (cl : List (Str × Addr)) (Q : Value → Shared → Prop) (xv : Value) (s₁ : Shared) : Prop :=
  ∃ tx t news, xv = .str tx t ∧ A.handled = none ∧ tx.cps.all (· < 128) = true ∧ tx.cps.size ≤ sizeLine ∧ Fr h₀ L s₁.heap m ∧ News h₀ L s₁.heap news ∧
    ∀ g, LCg.CompRest prog w A h₀ L m env elt x scope cl { s₁ with heap := g } (fun _ => True) (PySem.SignAt tx) (LCg.FinE h₀ L m { s₁ with heap := g } Q) tx.cps.size 0 [] news
theorem ListComp_T {elt iter : Expr} {x : Str} {px : Pos} {scope : Scope} {cl : List (Str × Addr)} {pos : Pos} {Q : Value → Shared → Prop} (_F₀ : Fr h₀ L s.heap m)
    (hclos : closureFor scope env = pure cl) (hcell : ∀ y ∈ scope.names, y.2 ≠ .cell) (hkind : scope.kind = .function)
    (hnames : ∀ y ∈ scope.names, y.2 = .local → scope.names.lookup y.1 = some .local) (hx : scope.names.lookup x = some .local)
    (h : wpAny (model prog w) A (eval iter env) (TSrc prog w A h₀ L m env elt x scope cl Q) E s)
    (hs : ∀ x, foldedSetIterable iter env x = pure x := by intro _; rfl) :
    wpAny (model prog w) A (eval (.ListComp elt [⟨.Name x px, iter, [], 0⟩] scope pos) env) Q E s := by
  rw [eval_ListComp]
  refine wpAny_comprehension_free (use := none) rfl hs hclos hkind hnames (wpAny_mono h (fun xv s₁ h₁ => ?_) fun _ _ e => e)
  obtain ⟨tx, t, news, rfl, hh, ha, hsz, F, N, R⟩ := h₁
  refine wpAny_pyIter_ascii ha ?_
  refine LCg.block_U (Walks.strAscii hh s₁.heap.objs.size tx t) hsz (fun i h st => by obtain ⟨o, e, _⟩ := st; exact ⟨o, e⟩)
    (fun i h h' o nw st e e' _ _ _ => by obtain ⟨o', q, r⟩ := st; rw [e] at q; cases q; exact ⟨o, e', r⟩) hcell hkind hx ⟨_, Heap.get?_push_size _ rfl, rfl, rfl⟩ (fun b hb => ?_)
    (F.keeps fun _ _ e => Heap.get?_push_of_some _ e) (N.grown fun _ _ e => Heap.get?_push_of_some _ e) (Nat.ne_of_lt F.ns.lt) (next_is_new F) (fun p hp => Nat.ne_of_lt (Heap.lt_size (N p hp).1)) trivial (R _) ?_
  · rw [List.mem_singleton.mp hb]
    show s₁.heap.objs.size < (s₁.heap.push _).objs.size
    rw [Heap.size_push]; exact Nat.lt_succ_self _
  · intro D C h tk m' ys news' F' N' o1 hn hC₀ hD₀ hCL hDL hCD offC fin
    refine ⟨m', hn, fun h'' hs'' => fin D h'' tk (F'.change hs'' hCL hC₀) (fun p hp => ?_) o1⟩
    refine ⟨hs''.extBut _ _ ?_ (N' p hp).1, (N' p hp).2⟩
    rcases List.mem_cons.mp hp with rfl | hp
    · exact Ne.symm hCD
    · exact offC p hp
theorem TSrc.texts {elt : Expr} {x : Str} {scope : Scope} {cl : List (Str × Addr)} {Q : Value → Shared → Prop} {tx : Str} {t : Tok} {news : Led} (g : Nat → Str)
    (hh : A.handled = none) (ha : tx.cps.all (· < 128) = true) (hsz : tx.cps.size ≤ sizeLine) (F : Fr h₀ L s.heap m) (N : News h₀ L s.heap news)
    (turn : ∀ c t I oI C oC D m₂ ys h tk (E' : Value → Shared → Prop), c ∈ tx.cps.toList → LCg.NsObj oC m₂ → m₂ x = some (.str ⟨#[c]⟩ t) → Fr h₀ L h m → News h₀ L h ((I, oI) :: (C, oC) :: (D, LCg.lst ys) :: news) → LCg.Off3 I C D news → ((@Ne Nat I C) ∧ (@Ne Nat I D) ∧ (@Ne Nat C D)) →
      wpAny (model prog w) A (eval elt (compEnvC scope cl C env)) (LCg.CompEnd h₀ L m { s with heap := h, toks := tk } I oI C oC D (LCg.lst ys) (fun _ => True) (fun y news' => KCtEl news (g c) y news')) E' { s with heap := h, toks := tk })
    (fin : ∀ ys D h tk, CarriedAll ys (tx.cps.toList.map fun c => PyData.str (g c)) → Fr h₀ L h m → News h₀ L h ((D, LCg.lst ys) :: news) → LCg.Off1 D news → Q (.ref D) { s with heap := h, toks := tk }) :
    TSrc prog w A h₀ L m env elt x scope cl Q (.str tx t) s := by
  refine ⟨tx, t, news, rfl, hh, ha, hsz, F, N, fun h' => ?_⟩
  have key : ∀ (j i : Nat) (ys : List Value), i + j = tx.cps.size → StrsAre ys ((tx.cps.toList.take i).map g) → LCg.CompRest prog w A h₀ L m env elt x scope cl { s with heap := h' } (fun _ => True) (PySem.SignAt tx) (LCg.FinE h₀ L m { s with heap := h' } Q) j i ys news := by
    intro j
    induction j with
    | zero =>
      intro i ys hi hy
      have e : tx.cps.toList.take i = tx.cps.toList := by
        rw [List.take_of_length_le]
        rw [Array.length_toList]
        omega
      rw [e] at hy
      have hc := hy.carried
      rw [List.map_map] at hc
      exact LCg.CompRest.zero fun D h tk F N o1 => fin ys D h tk hc F N o1
    | succ j ih =>
      intro i ys hi hy
      refine LCg.CompRest.succ ?_
      intro v I oI C oC D m₂ h tk E' hv hC hx F N off ne
      obtain ⟨c, u, hc, hv'⟩ := hv
      rw [hv'] at hx
      have hc' : tx.cps.toList[i]? = some c := by rw [Array.getElem?_toList]; exact hc
      refine wpAny_mono (turn c u I oI C oC D m₂ ys h tk E' (List.mem_of_getElem? hc') hC hx F N off ne) (fun y s₂ hq => ?_) fun _ _ e => e
      obtain ⟨h'', tk', nw, e, F', N', off', hS, hn, t', hy'⟩ := hq
      rw [hn] at N' off'
      refine ⟨h'', tk', news, e, F', N', off', hS, ?_⟩
      rw [hy']
      refine ih (i + 1) _ (by omega) ?_
      rw [List.take_add_one, hc']
      simpa using strs_snoc hy
  exact key tx.cps.size 0 [] (by omega) (by simp only [List.take_zero, List.map_nil]; exact .nil)
end
set_option maxHeartbeats 8000000 in
theorem lower_text (w : World) (t : Tok) :
    PC w 176 [.str (Str.ofString "utf-8") t] 4 40 (fun v n' => n' = [] ∧ ∃ t, v = .str (Str.ofString "utf-8") t) := by
  have tag41 : True := trivial
  intro mean mg mb dp un gd cn cs a ccd cl outer A₀ base h₀ L m hp0 gs0 dr0 tk0 os0 Q E B F X T hkk hd hu hret
  k_extra "pc_enter"
  k_steps
  refine TSrc.texts (fun c => ⟨#[(lowC c).toNat]⟩) rfl (by decide +kernel) (by rw [sizeLine_eq]; decide +kernel) (by assumption) (by assumption) ?_ ?_
  · intro c t I oI C oC D m₂ ys h tk E' hm hC hx F N off ne
    have hc : c < 256 := by
      have e : ∀ c ∈ (Str.ofString "utf-8").cps.toList, c < 256 := by decide +kernel
      exact e c hm
    have hc0 : 0 ≤ (c : Int) := by omega
    have hc1 : (c : Int) < 256 := by omega
    have hc2 := (lowC_in hc0 hc1).1
    have hc3 := (lowC_in hc0 hc1).2
    (try simp only [LCg.Off3] at off)
    k_steps
    all_goals (first | exact ⟨rfl, _, rfl⟩ | exact LCg.CompEnd.intro (by assumption) (by assumption) _ (fun p hp => hp) trivial trivial ⟨rfl, _, rfl⟩)
  · intro ys D h tk hi F N o1
    have hl : (Str.ofString "utf-8").cps.toList.length ≤ 1048576 := by decide +kernel
    k_steps
    refine hret _ _ _ _ _ _ _ ⟨rfl, _, congrArg (Value.str · _) ?_⟩ (by assumption) (by assumption) (cb_drop (by assumption) (by kcj_in)) (by assumption)
    kernel_rfl!
theorem reg_m41 : True := by
  (k_with "call ref" => (k_here; (try dsimp only [List.nil_append, List.cons_append, List.append_nil]); (with_reducible show wpAny _ _ (call (Value.ref 176) [Value.str _ _]) _ _ _); k_dflt (refine' MC.use ((lower_text _ _).mc _) ?Bq111 ?Fq111 ?Xq111 ?Nq111 ?Tq111 ?hkq111 ?hdq111 ?hunq111 ?_; (case Bq111 => k_asm); (case Fq111 => k_asm); (case Xq111 => k_asm); (case Nq111 => k_asm); (case Tq111 => k_asm); (case hkq111 => first | exact rfl | assumption);  (case hdq111 => ktr_room); (case hunq111 => ktr_units)); intro v9 n9 h9 tk9 hV9 F9 N9; (obtain ⟨n9, ⟨e7, u9, e8⟩, e9⟩ := hV9; rw [e9, e7] at N9; clear e9 e7; (try rw [List.nil_append] at N9); subst e8); (try k_sweep); (try dsimp only); (try k_extra "kfold")))
  trivial
-- 42
theorem reg_p42 : True := by
  (k_with "call builtin:dict.get" => (guard_hyp tag42 : True; (k_here; k_dflt (refine dict_get_any (knd := PySem.strKind _ _) (by k_asm) (by k_mem) (by k_asm) (by k_asm) (strKind_is _ _ _ _) (by assumption) ?_))))
  trivial
theorem dict_get_any {prog : Program} {w : World} {K : Type} [DecidableEq K] {knd : KeyKind prog w K} {A : Around} {E : Value → Shared → Prop} {s : Shared} {h₀ : Heap} {L d : Addr} {news : Led} {o : Obj} {kvs : List (K × Value)} {k : K} {key v dflt : Value} {Q : Value → Shared → Prop}
    (N : News h₀ L s.heap news) (hp : (d, o) ∈ news) (hd : o.IsDictOf knd kvs) (lo : (d == sysModules) = false) (hkey : knd.is k key = true) (hl : PySem.valueAt kvs k = some v) (h : Q v { s with toks := s.toks + 1 }) :
    wpAny (model prog w) A (call (.builtin "dict.get") [.ref d, key, dflt]) Q E s :=
  have hD := kda_dict N hp hd
  call_meetsIn PySem.F.slot_dict_get hD.typeIs PySem.F.entry_dict_get (PySem.F.args_dict_get_3 _ _ _) (meets_dict_get_default knd d hkey lo dflt) ⟨_, hD.mapOf, by rw [hl]; exact h⟩
set_option maxHeartbeats 8000000 in
theorem charset_name (w : World) (x : Str) (hx : x = Str.ofString "utf-8") (t : Tok) (news : Led) :
    MC w 191 [.str x t] news 6 70 (fun v n' => n' = news ∧ ∃ t, v = .str (Str.ofString "utf-8") t) := by
  subst hx
  have tag42 : True := trivial
  intro mean mg mb dp un gd cn cs a ccd cl outer A₀ base h₀ L m hp0 gs0 dr0 tk0 os0 Q E B F X N T hkk hd hu hret
  k_extra "mc_enter"
  k_steps
  exact hret _ _ _ _ ⟨rfl, _, rfl⟩ (by k_asm) (cb_drop (by assumption) (by kcj_in))
theorem reg_m42 : True := by
  (k_with "eval Call" => (k_here; (with_reducible show wpAny _ _ (eval (Expr.Call (Expr.Name (Str.ofString "charset_cut") _) _ [] _) _) _ _ _); k_dflt (refine Call_ ?_)))
  (k_with "call ref" => (k_here; (try dsimp only [List.nil_append, List.cons_append, List.append_nil]); (with_reducible show wpAny _ _ (call (Value.ref 191) [Value.str _ _]) _ _ _); k_dflt (refine' MC.use2 (charset_name _ _ ?p1q114 _ _) ?Bq114 ?Fq114 ?Xq114 ?Nq114 ?Tq114 ?hkq114 ?hdq114 ?hunq114 ?_; (case Bq114 => k_asm); (case Fq114 => k_asm); (case Xq114 => k_asm); (case Nq114 => k_asm); (case Tq114 => k_asm); (case hkq114 => first | exact rfl | assumption); (case p1q114 => kernel_rfl!); (case hdq114 => ktr_room); (case hunq114 => ktr_units)); intro u9 h9 tk9 F9 N9;  (try k_sweep); (try dsimp only); (try k_extra "kfold")))
  trivial
-- 43
set_option maxHeartbeats 8000000 in
theorem charset_cut (w : World) (t : Tok) (news : Led) :
    MC w 395 [.bytes #[117, 116, 102, 45, 56, 39, 39, 37, 67, 51, 37, 65, 57] t] news 8 90 (fun v n' => ∃ a t1 t2, v = .ref a ∧ n' = (a, tupOf [.str (Str.ofString "utf-8") t1, .bytes #[37, 67, 51, 37, 65, 57] t2]) :: news) := by
  intro mean mg mb dp un gd cn cs a ccd cl outer A₀ base h₀ L m hp0 gs0 dr0 tk0 os0 Q E B F X N T hkk hd hu hret
  k_extra "mc_enter"
  k_steps
  refine BSrc.texts (fun c => ⟨#[c.toNat]⟩) rfl rfl (by rw [sizeLine_eq]; decide) (by assumption) (by assumption) ?_ ?_
  · intro k t I oI C oC D m₂ ys h tk E' hm h0 h1 hC hx F N off ne
    (try simp only [LCg.Off3, and_true] at off)
    k_steps
    exact LCg.CompEnd.intro F N _ (fun p hp => hp) off trivial ⟨rfl, _, rfl⟩
  · intro ys D h tk hi F N o1
    have hl : (KBw.bInts #[117, 116, 102, 45, 56]).length ≤ 1048576 := by decide +kernel
    k_steps
    exact hret _ _ _ _ ⟨_, _, _, rfl, rfl⟩ (by k_asm) (cb_drop (by assumption) (by kcj_in))
theorem reg_m43 : True := by
  (k_with "call ref" => (k_here; (try dsimp only [List.nil_append, List.cons_append, List.append_nil]); (with_reducible show wpAny _ _ (call (Value.ref 395) [Value.bytes _ _]) _ _ _); k_dflt (refine' MC.use3 (charset_cut _ _ _) ?Bq115 ?Fq115 ?Xq115 ?Nq115 ?Tq115 ?hkq115 ?hdq115 ?hunq115 ?_; (case Bq115 => k_asm); (case Fq115 => k_asm); (case Xq115 => k_asm); (case Nq115 => k_asm); (case Tq115 => k_asm); (case hkq115 => first | exact rfl | assumption);  (case hdq115 => ktr_room); (case hunq115 => ktr_units)); intro a9 u9 u8 h9 tk9 F9 N9;  (try k_sweep); (try dsimp only); (try k_extra "kfold")))
  trivial
-- 44
set_option maxHeartbeats 8000000 in
theorem follower_span (w : World) (x : Int) (hx : x = 195) (t : Tok) (news : Led) :
    MC w 205 [.int x t] news 2 20 (fun v n' => ∃ a t1 t2 t3, v = .ref a ∧ n' = (a, tupOf [.int 128 t1, .int 191 t2, .int 1 t3]) :: news) := by
  subst hx
  intro mean mg mb dp un gd cn cs a ccd cl outer A₀ base h₀ L m hp0 gs0 dr0 tk0 os0 Q E B F X N T hkk hd hu hret
  k_extra "mc_enter"
  k_steps
  exact hret _ _ _ _ ⟨_, _, _, _, rfl, rfl⟩ (by k_asm) (by k_asm)
theorem reg_m44 : True := by
  (k_with "eval Call" => (k_here; (with_reducible show wpAny _ _ (eval (Expr.Call (Expr.Name (Str.ofString "follower_span") _) _ [] _) _) _ _ _); k_dflt (refine Call_ ?_)))
  (k_with "eval Call" => (k_here; (with_reducible show wpAny _ _ (eval (Expr.Call (Expr.Name (Str.ofString "utf8_sign") _) _ [] _) _) _ _ _); k_dflt (refine Call_ ?_)))
  (k_with "eval Call" => (k_here; (with_reducible show wpAny _ _ (eval (Expr.Call (Expr.Name (Str.ofString "sign_at") _) _ [] _) _) _ _ _); k_dflt (refine Call_ ?_)))
  (k_with "eval Call" => (k_here; (with_reducible show wpAny _ _ (eval (Expr.Call (Expr.Name (Str.ofString "need_charset") _) _ [] _) _) _ _ _); k_dflt (refine Call_ ?_)))
  (k_with "call ref" => (k_here; (try dsimp only [List.nil_append, List.cons_append, List.append_nil]); (with_reducible show wpAny _ _ (call (Value.ref 205) [Value.int _ _]) _ _ _); k_dflt (refine' MC.use (follower_span _ _ ?p1q120 _ _) ?Bq120 ?Fq120 ?Xq120 ?Nq120 ?Tq120 ?hkq120 ?hdq120 ?hunq120 ?_; (case Bq120 => k_asm); (case Fq120 => k_asm); (case Xq120 => k_asm); (case Nq120 => k_asm); (case Tq120 => k_asm); (case hkq120 => first | exact rfl | assumption); (case p1q120 => rfl); (case hdq120 => ktr_room); (case hunq120 => ktr_units)); intro v9 n9 h9 tk9 hV9 F9 N9; (obtain ⟨a9, u9, u8, u7, e8, e9⟩ := hV9; rw [e9] at N9; clear e9; subst e8); (try k_sweep); (try dsimp only); (try k_extra "kfold")))
  trivial
-- 45
theorem two_close {g h : Heap} {L D : Addr} {x y x' y' : Int} {t1 t2 : Tok} {rest : Led} (N : News g L h ((D, tupOf [.int x t1, .int y t2]) :: rest)) (hx : x = x') (hy : y = y') : News g L h [(D, tupOf [.int x' t1, .int y' t2])] := by
  subst hx hy
  exact cb_drop N (by kcj_in)
set_option maxHeartbeats 8000000 in
theorem utf8_two (w : World) (t u : Tok) :
    PC w 212 [.bytes #[195, 169] t, .int 0 u] 4 40 (fun v n' => ∃ a t1 t2, v = .ref a ∧ n' = [(a, tupOf [.int 233 t1, .int 2 t2])]) := by
  intro mean mg mb dp un gd cn cs a ccd cl outer A₀ base h₀ L m hp0 gs0 dr0 tk0 os0 Q E B F X T hkk hd hu hret
  k_extra "pc_enter"
  k_steps
  refine hret _ _ _ [(_, _)] _ _ _ ⟨_, _, _, rfl, rfl⟩ (by assumption) (by assumption) (two_close (by assumption) ?_ ?_) (by assumption)
  · kernel_rfl!
  · kernel_rfl!
theorem reg_m45 : True := by
  (k_with "call ref" => (k_here; (try dsimp only [List.nil_append, List.cons_append, List.append_nil]); (with_reducible show wpAny _ _ (call (Value.ref 212) [Value.bytes #[195, 169] _, Value.int 0 _]) _ _ _); k_dflt (refine' MC.use ((utf8_two _ _ _).mc _) ?Bq121 ?Fq121 ?Xq121 ?Nq121 ?Tq121 ?hkq121 ?hdq121 ?hunq121 ?_; (case Bq121 => k_asm); (case Fq121 => k_asm); (case Xq121 => k_asm); (case Nq121 => k_asm); (case Tq121 => k_asm); (case hkq121 => first | exact rfl | assumption);  (case hdq121 => ktr_room); (case hunq121 => ktr_units)); intro v9 n9 h9 tk9 hV9 F9 N9; (obtain ⟨n9, ⟨a9, u9, u8, e8, e7⟩, e9⟩ := hV9; rw [e9, e7] at N9; clear e9 e7; (try rw [List.singleton_append] at N9); subst e8); (try k_sweep); (try dsimp only); (try k_extra "kfold")))
  trivial
-- 46
theorem reg_p46 : True := by
  (k_with "call ref" => (guard_hyp tag46 : True; (k_here; (try dsimp only [List.nil_append, List.cons_append, List.append_nil]); (with_reducible show wpAny _ _ (call (Value.ref 219) [Value.str _ _, Value.bytes #[195, 169] _, Value.int 0 _]) _ _ _); k_dflt (refine' MC.use3 (sign_two _ _ _ _ _) ?Bq122 ?Fq122 ?Xq122 ?Nq122 ?Tq122 ?hkq122 ?hdq122 ?hunq122 ?_; (case Bq122 => k_asm); (case Fq122 => k_asm); (case Xq122 => k_asm); (case Nq122 => k_asm); (case Tq122 => k_asm); (case hkq122 => first | exact rfl | assumption);  (case hdq122 => ktr_room); (case hunq122 => ktr_units)); intro a9 u9 u8 h9 tk9 F9 N9;  (try k_sweep); (try dsimp only); (try k_extra "kfold"))))
  trivial
set_option maxHeartbeats 8000000 in
theorem sign_two (w : World) (t u v : Tok) (news : Led) :
    MC w 219 [.str (Str.ofString "utf-8") v, .bytes #[195, 169] t, .int 0 u] news 6 60 (fun v n' => ∃ a t1 t2, v = .ref a ∧ n' = (a, tupOf [.int 233 t1, .int 2 t2]) :: news) := by
  have tag46 : True := trivial
  intro mean mg mb dp un gd cn cs a ccd cl outer A₀ base h₀ L m hp0 gs0 dr0 tk0 os0 Q E B F X N T hkk hd hu hret
  k_extra "mc_enter"
  k_steps
  exact hret _ _ _ _ ⟨_, _, _, rfl, rfl⟩ (by k_asm) (by k_asm)
set_option maxHeartbeats 8000000 in
theorem text_in_two (w : World) (b : Array UInt8) (hb : b = #[195, 169]) (t v : Tok) (news : Led) :
    MC w 226 [.str (Str.ofString "utf-8") v, .bytes b t] news 9 90 (fun v n' => n' = news ∧ ∃ t, v = .str (⟨#[233]⟩ : Str) t) := by
  subst hb
  have tag46 : True := trivial
  intro mean mg mb dp un gd cn cs a ccd cl outer A₀ base h₀ L m hp0 gs0 dr0 tk0 os0 Q E B F X N T hkk hd hu hret
  k_extra "mc_enter"
  k_steps
  refine hret _ _ _ _ ⟨rfl, _, congrArg (Value.str · _) ?_⟩ (by k_asm) (cb_drop (by assumption) (by kcj_in))
  kernel_rfl!
theorem reg_m46 : True := by
  (k_with "eval Call" => (k_here; (with_reducible show wpAny _ _ (eval (Expr.Call (Expr.Name (Str.ofString "text_in") _) _ [] _) _) _ _ _); k_dflt (refine Call_ ?_)))
  (k_with "eval Call" => (k_here; (with_reducible show wpAny _ _ (eval (Expr.Call (Expr.Name (Str.ofString "guessed_text") _) _ [] _) _) _ _ _); k_dflt (refine Call_ ?_)))
  (k_with "eval Call" => (k_here; (with_reducible show wpAny _ _ (eval (Expr.Call (Expr.Name (Str.ofString "joined_worth") _) _ [] _) _) _ _ _); k_dflt (refine Call_ ?_)))
  (k_with "call ref" => (k_here; (try dsimp only [List.nil_append, List.cons_append, List.append_nil]); (with_reducible show wpAny _ _ (call (Value.ref 226) [Value.str _ _, Value.bytes _ _]) _ _ _); k_dflt (refine' MC.use2 (text_in_two _ _ ?p1q126 _ _ _) ?Bq126 ?Fq126 ?Xq126 ?Nq126 ?Tq126 ?hkq126 ?hdq126 ?hunq126 ?_; (case Bq126 => k_asm); (case Fq126 => k_asm); (case Xq126 => k_asm); (case Nq126 => k_asm); (case Tq126 => k_asm); (case hkq126 => first | exact rfl | assumption); (case p1q126 => kernel_rfl!); (case hdq126 => ktr_room); (case hunq126 => ktr_units)); intro u9 h9 tk9 F9 N9;  (try k_sweep); (try dsimp only); (try k_extra "kfold")))
  trivial
-- 47
theorem reg_p47 : True := by
  (k_with "compareOp In int ref" => (guard_hyp tag47 : True; (k_here; k_dflt (first | (refine' kda_in (knd := PySem.intKind _ _) ?aq127 ?bq127 ?cq127 ?dq127 (intKind_is _ _ _ _) true ?eq127 ?_; (case aq127 => k_asm); (case bq127 => k_mem); (case cq127 => k_asm); (case dq127 => k_asm); (case eq127 => assumption)) | (refine' kda_in (knd := PySem.intKind _ _) ?aq127 ?bq127 ?cq127 ?dq127 (intKind_is _ _ _ _) false ?eq127 ?_; (case aq127 => k_asm); (case bq127 => k_mem); (case cq127 => k_asm); (case dq127 => k_asm); (case eq127 => assumption))))))
  (k_with "subscriptTail" => (guard_hyp tag47 : True; (k_here; (with_reducible show wpAny _ _ (subscriptTail _ _ (Value.ref _) (Value.int _ _)) _ _ _); k_dflt (refine' kda_item (knd := PySem.intKind _ _) ?aq128 ?bq128 ?cq128 (intKind_is _ _ _ _) ?eq128 ?_; (case aq128 => k_asm); (case bq128 => k_mem); (case cq128 => k_asm); (case eq128 => assumption)))))
  (k_with "binaryOp Add bytes bytes" => (guard_hyp tag47 : True; (k_here; (with_reducible show wpAny _ _ (binaryOp Operator.Add (Value.bytes #[] _) (Value.bytes _ _)) _ _ _); k_dflt (refine add_nil_b (by decide) ?_); intro _ _)))
  (k_with "exec While Compare cons nil" => (guard_hyp tag47 : True; (k_here; k_dflt (refine whl_start 100 ?_))))
  trivial
noncomputable abbrev wC : Array UInt8 := #[40, 110, 111, 116, 32, 97, 32, 99, 111, 109, 109, 101, 110, 116, 41]
noncomputable abbrev wCA : Array UInt8 := #[40, 110, 111, 116, 32, 97, 32, 99, 111, 109, 109, 101, 110, 116, 41, 65]
noncomputable abbrev IK (w : World) := PySem.intKind PySem.Challenge.rw_or0065_01.row.prog w
theorem som_t {α : Type} {x : Option α} {v : α} (h : x = some v) : x.isSome = true := by rw [h]; rfl
theorem som_f {α : Type} {x : Option α} (h : x = none) : x.isSome = false := by rw [h]; rfl
theorem add_nil_b {prog : Program} {w : World} {A : Around} {E : Value → Shared → Prop} {s : Shared} {c : Array UInt8} {t u : Tok} {Q : Value → Shared → Prop} (hz : c.size ≤ 16777216) (h : ∀ t' k, Q (.bytes c t') { s with toks := k }) : wpAny (model prog w) A (binaryOp .Add (.bytes #[] t) (.bytes c u)) Q E s :=
  KBy.add_bytes (by simpa using hz) fun t' k => by rw [Array.empty_append]; exact h t' k
set_option maxHeartbeats 8000000 in
theorem joined_c (w : World) (d T0 : Addr) (o : Obj) (kv : List (Int × Value)) (t : Tok) (rest : Led) (lo : (d == sysModules) = false) (hd1 : o.IsDictOf (IK w) kv) (h0 : PySem.valueAt kv 0 = some (.ref T0)) (h1 : PySem.valueAt kv 1 = none) :
    MC w 402 [.ref d] ((d, o) :: (T0, tupOf [.bool false, .bytes wC t]) :: rest) 10 120 (fun v n' => n' = (d, o) :: (T0, tupOf [.bool false, .bytes wC t]) :: rest ∧ ∃ t, v = .str (txt (KBw.bInts wC)) t) := by
  have tag47 : True := trivial
  intro mean mg mb dp un gd cn cs a ccd cl outer A₀ base h₀ L m hp0 gs0 dr0 tk0 os0 Q E B F X N T hkk hd hu hret
  have hb1 : KBw.bInts wC = KBw.bInts wC := rfl
  have hb2 : ∀ c ∈ KBw.bInts wC, c < 128 := by decide +kernel
  have hb3 : (KBw.bInts wC).length ≤ 1048576 := by decide +kernel
  have s0 := som_t h0
  have s1 := som_f h1
  k_extra "mc_enter"
  k_steps
  exact hret _ _ _ _ ⟨rfl, _, rfl⟩ (by k_asm) (cb_drop (by assumption) (by kcj_in))
set_option maxHeartbeats 8000000 in
theorem joined_ca (w : World) (d T0 T1 : Addr) (o : Obj) (kv : List (Int × Value)) (t u : Tok) (rest : Led) (lo : (d == sysModules) = false) (hd1 : o.IsDictOf (IK w) kv) (h0 : PySem.valueAt kv 0 = some (.ref T0)) (h1 : PySem.valueAt kv 1 = some (.ref T1)) (h2 : PySem.valueAt kv 2 = none) :
    MC w 402 [.ref d] ((d, o) :: (T0, tupOf [.bool false, .bytes wC t]) :: (T1, tupOf [.bool true, .bytes #[37, 52, 49] u]) :: rest) 10 120 (fun v n' => n' = (d, o) :: (T0, tupOf [.bool false, .bytes wC t]) :: (T1, tupOf [.bool true, .bytes #[37, 52, 49] u]) :: rest ∧ ∃ t, v = .str (txt (KBw.bInts wCA)) t) := by
  have tag47 : True := trivial
  intro mean mg mb dp un gd cn cs a ccd cl outer A₀ base h₀ L m hp0 gs0 dr0 tk0 os0 Q E B F X N T hkk hd hu hret
  have hb1 : KBw.bInts wCA = KBw.bInts wCA := rfl
  have hb2 : ∀ c ∈ KBw.bInts wCA, c < 128 := by decide +kernel
  have hb3 : (KBw.bInts wCA).length ≤ 1048576 := by decide +kernel
  have s0 := som_t h0
  have s1 := som_t h1
  have s2 := som_f h2
  k_extra "mc_enter"
  k_steps
  exact hret _ _ _ _ ⟨rfl, _, rfl⟩ (by k_asm) (cb_drop (by assumption) (by kcj_in))
set_option maxHeartbeats 8000000 in
theorem joined_d (w : World) (d T0 : Addr) (o : Obj) (kv : List (Int × Value)) (t : Tok) (rest : Led) (lo : (d == sysModules) = false) (hd1 : o.IsDictOf (IK w) kv) (h0 : PySem.valueAt kv 0 = some (.ref T0)) (h1 : PySem.valueAt kv 1 = none) :
    MC w 402 [.ref d] ((d, o) :: (T0, tupOf [.bool true, .bytes #[117, 116, 102, 45, 56, 39, 39, 37, 67, 51, 37, 65, 57] t]) :: rest) 12 140 (fun v n' => n' = (d, o) :: (T0, tupOf [.bool true, .bytes #[117, 116, 102, 45, 56, 39, 39, 37, 67, 51, 37, 65, 57] t]) :: rest ∧ ∃ t, v = .str ⟨#[233]⟩ t) := by
  have tag47 : True := trivial
  intro mean mg mb dp un gd cn cs a ccd cl outer A₀ base h₀ L m hp0 gs0 dr0 tk0 os0 Q E B F X N T hkk hd hu hret
  have s0 := som_t h0
  have s1 := som_f h1
  k_extra "mc_enter"
  k_steps
  exact hret _ _ _ _ ⟨rfl, _, rfl⟩ (by k_asm) (cb_drop (by assumption) (by kcj_in))
-- 48
section
variable {prog : Program} {w : World} {A : Around} {E : Value → Shared → Prop} {s : Shared} {env : Env} {h₀ : Heap} {target : Expr} {body : List Stmt} {Q : Flow → Shared → Prop}
/-- the end of a turn: the iterator's object stands beside the ledger -/
noncomputable def TurnEnd (h₀ : Heap) (L I : Addr) (oI : Obj) (s₁ : Shared) (J : (Str → Option Value) → Led → Prop) (Q : Flow → Shared → Prop) (f : Flow) (s₂ : Shared) : Prop :=
  match f with
  | .ret v => Q (.ret v) s₂
  | .brk => Q .next s₂
  | _ => ∃ h' tk m' nx, s₂ = { s₁ with heap := h', toks := tk } ∧ Fr h₀ L h' m' ∧ News h₀ L h' ((I, oI) :: nx) ∧ (∀ p ∈ nx, p.1 ≠ I) ∧ J m' nx
theorem walks_turns {I d : Addr} {od : Obj} {n : Nat} {P : Nat → Value → Prop} {St : Nat → Heap → Prop} {m₀ : Str → Option Value} {news : Led} (W : Walks prog w A I [I, d] [I] n P St)
    (hgo : ∀ i v (s : Shared) (Q : Unit → Shared → Prop) (E : Value → Shared → Prop), St i s.heap → Q () s → wpAny (model prog w) A (letOwnedTupleGo target (.ref I) v) Q E s)
    (hobj : ∀ i h, St i h → ∃ o, h.get? I = some o) (hst : St 0 s.heap) (hI : h₀.get? I = none) (hIL : env.locals ≠ I) (F : Fr h₀ env.locals s.heap m₀) (N : News h₀ env.locals s.heap news) (hnI : ∀ p ∈ news, p.1 ≠ I)
    (hd : (d, od) ∈ news) (J : Nat → (Str → Option Value) → Led → Prop) (hJ : J 0 m₀ news) (hJd : ∀ i m nx, J i m nx → (d, od) ∈ nx)
    (turn : ∀ i v m₁ nx oI h₁ tk₁, i < n → P i v → J i m₁ nx → (∀ p ∈ nx, p.1 ≠ I) → Fr h₀ env.locals h₁ m₁ → News h₀ env.locals h₁ ((I, oI) :: nx) →
      wpAny (model prog w) A (assign target env v) (fun _ s₃ => wpAny (model prog w) A (execs body env) (TurnEnd h₀ env.locals I oI { s with heap := h₁, toks := tk₁ } (J (i + 1)) Q) E s₃) E { s with heap := h₁, toks := tk₁ })
    (done : ∀ m₁ nx h tk, J n m₁ nx → Fr h₀ env.locals h m₁ → News h₀ env.locals h nx → Q .next { s with heap := h, toks := tk }) :
    TurnsAt prog w A h₀ env target body Q E (.ref I) s := by
  have hdL := (N _ hd).2.1
  have hd0 := (N _ hd).2.2
  refine ⟨I, [I, d], [I], n, fun i v _ => P i v, fun i v h => P i v ∧ St (i + 1) h, St, m₀, news, J, rfl, KTurns.ofWalks W hgo, ?_, ?_, ?_, hst, F, N, hJ, ?_, ?_⟩
  · intro h
    rcases List.mem_cons.mp h with e | h
    · exact hIL e
    · exact hdL (List.mem_singleton.mp h).symm
  · intro b hb
    rw [List.mem_singleton.mp hb]
    exact hI
  · intro p hp hq
    exact hnI p hp (List.mem_singleton.mp hq)
  · intro i v m₁ nx h₁ tk₁ own hin hP hJ' hoff hown hget hall hst₁ F₁ N₁
    obtain ⟨oI, hoI⟩ := hobj _ _ hst₁
    have hIown : (I, oI) ∈ own := hall I (List.mem_cons_self ..) hI oI hoI
    have N₂ : News h₀ env.locals h₁ ((I, oI) :: nx) := by
      intro p hp
      rcases List.mem_cons.mp hp with rfl | hp
      · exact N₁ _ (List.mem_append_left _ hIown)
      · exact N₁ _ (List.mem_append_right _ hp)
    refine wpAny_mono (turn i v m₁ nx oI h₁ tk₁ hin hP hJ' (fun p hp e => hoff p hp (List.mem_singleton.mpr e)) F₁ N₂) (fun _ s₃ h₃ => wpAny_mono h₃ (fun f s₄ h₄ => ?_) fun _ _ e => e) fun _ _ e => e
    have fin : TurnEnd h₀ env.locals I oI { s with heap := h₁, toks := tk₁ } (J (i + 1)) Q .next s₄ → LoopStepU h₀ env.locals [I] own (J (i + 1)) { s with heap := h₁, toks := tk₁ } .next s₄ := by
      rintro ⟨h', tk, m', nx', e, F', N', ho, hj⟩
      refine ⟨rfl, h', tk, m', nx', e, F', ?_, fun p hp hq => ho p hp (List.mem_singleton.mp hq), hj⟩
      intro p hp
      rcases List.mem_append.mp hp with hp | hp
      · have hpo := hget p hp
        rcases List.mem_cons.mp (hown p hp) with e1 | e1
        · have : p = (I, oI) := by
            rw [e1] at hpo
            exact Prod.ext e1 (Option.some.inj (hpo.symm.trans hoI))
          rw [this]
          exact N' _ (List.mem_cons_self ..)
        · have e2 := List.mem_singleton.mp e1
          have hd1 := (N₁ _ (List.mem_append_right _ (hJd _ _ _ hJ'))).1
          have : p = (d, od) := by
            rw [e2] at hpo
            exact Prod.ext e2 (Option.some.inj (hpo.symm.trans hd1))
          rw [this]
          exact N' _ (List.mem_cons_of_mem _ (hJd _ _ _ hj))
      · exact N' _ (List.mem_cons_of_mem _ hp)
    cases f with
    | ret v => exact h₄
    | brk => exact h₄
    | next => exact fin h₄
    | cont => exact fin h₄
  · intro h' tk m' news' F' N' _ hj
    exact done m' news' h' tk hj F' N'
theorem list_turns {l : Addr} {vs : List Value} {k : Nat} {m₀ : Str → Option Value} {news : Led} (hh : A.handled = none) (F : Fr h₀ env.locals s.heap m₀) (N : News h₀ env.locals s.heap news) (hl : (l, listOf vs.toArray k) ∈ news)
    (J : Nat → (Str → Option Value) → Led → Prop) (hJ : J 0 m₀ news) (hJd : ∀ i m nx, J i m nx → (l, listOf vs.toArray k) ∈ nx)
    (turn : ∀ I i v m₁ nx oI h₁ tk₁, vs[i]? = some v → J i m₁ nx → (∀ p ∈ nx, p.1 ≠ I) → Fr h₀ env.locals h₁ m₁ → News h₀ env.locals h₁ ((I, oI) :: nx) →
      wpAny (model prog w) A (assign target env v) (fun _ s₃ => wpAny (model prog w) A (execs body env) (TurnEnd h₀ env.locals I oI { s with heap := h₁, toks := tk₁ } (J (i + 1)) Q) E s₃) E { s with heap := h₁, toks := tk₁ })
    (done : ∀ m₁ nx h tk, J vs.length m₁ nx → Fr h₀ env.locals h m₁ → News h₀ env.locals h nx → Q .next { s with heap := h, toks := tk }) :
    wpAny (model prog w) A (pyIter (.ref l)) (fun it s₂ => TurnsAt prog w A h₀ env target body Q E it s₂) E s := by
  have hol := (N _ hl).1
  have hls : s.heap.IsList l vs.toArray := ⟨_, hol, rfl, k, rfl⟩
  have hne : l ≠ s.heap.objs.size := Nat.ne_of_lt (Heap.lt_size hol)
  refine wpAny_pyIter_list hls ?_
  have W := Walks.list (prog := prog) (w := w) hh s.heap.objs.size l hne vs.toArray
  rw [List.size_toArray] at W
  refine walks_turns W (fun i v s Q E st q => letGo_listiter st.1 q) (fun i h st => ?_) ⟨⟨_, Heap.get?_push_size _ rfl, rfl, rfl⟩, hls.at fun o e => Heap.get?_push_of_some _ e⟩ (next_is_new F) (Nat.ne_of_lt F.ns.lt) (F.push _)
    (fun p hp => ⟨Heap.get?_push_of_some _ (N p hp).1, (N p hp).2⟩) (fun p hp => Nat.ne_of_lt (Heap.lt_size (N p hp).1)) hl J hJ hJd (fun i v m₁ nx oI h₁ tk₁ _ hP => turn _ i v m₁ nx oI h₁ tk₁ (by simpa using hP)) done
  obtain ⟨it, hit, _⟩ := st.1
  exact ⟨it, hit⟩
theorem dict_turns {K : Type} [DecidableEq K] {knd : KeyKind prog w K} {d : Addr} {od : Obj} {kvs : List (K × Value)} {m₀ : Str → Option Value} {news : Led} (hh : A.handled = none) (F : Fr h₀ env.locals s.heap m₀) (N : News h₀ env.locals s.heap news) (hl : (d, od) ∈ news) (lo : (d == sysModules) = false) (hd : od.IsDictOf knd kvs)
    (J : Nat → (Str → Option Value) → Led → Prop) (hJ : J 0 m₀ news) (hJd : ∀ i m nx, J i m nx → (d, od) ∈ nx)
    (turn : ∀ I i v k x m₁ nx oI h₁ tk₁, kvs[i]? = some (k, x) → knd.is k v = true → J i m₁ nx → (∀ p ∈ nx, p.1 ≠ I) → Fr h₀ env.locals h₁ m₁ → News h₀ env.locals h₁ ((I, oI) :: nx) →
      wpAny (model prog w) A (assign target env v) (fun _ s₃ => wpAny (model prog w) A (execs body env) (TurnEnd h₀ env.locals I oI { s with heap := h₁, toks := tk₁ } (J (i + 1)) Q) E s₃) E { s with heap := h₁, toks := tk₁ })
    (done : ∀ m₁ nx h tk, J kvs.length m₁ nx → Fr h₀ env.locals h m₁ → News h₀ env.locals h nx → Q .next { s with heap := h, toks := tk }) :
    wpAny (model prog w) A (pyIter (.ref d)) (fun it s₂ => TurnsAt prog w A h₀ env target body Q E it s₂) E s := by
  obtain ⟨ep, hat⟩ := (kda_dict N hl hd).dictAt
  have hne : d ≠ s.heap.objs.size := Nat.ne_of_lt hat.lt_size
  refine wpAny_pyIter_dict lo hat ?_
  refine walks_turns (Walks.dictKeys (knd := knd) hh s.heap.objs.size d hne kvs ep) (fun i v s Q E st q => letGo_keyiter st.1 q) (fun i h st => ?_) ⟨⟨_, Heap.get?_push_size _ rfl, rfl, rfl⟩, hat.push _⟩ (next_is_new F) (Nat.ne_of_lt F.ns.lt) (F.push _)
    (fun p hp => ⟨Heap.get?_push_of_some _ (N p hp).1, (N p hp).2⟩) (fun p hp => Nat.ne_of_lt (Heap.lt_size (N p hp).1)) hl J hJ hJd (fun i v m₁ nx oI h₁ tk₁ _ hP hJ' ho F₁ N₁ => ?_) done
  · obtain ⟨⟨oi, g, _⟩, _⟩ := st
    exact ⟨oi, g⟩
  · obtain ⟨k, x, hx, hk⟩ := hP
    exact turn _ i v k x m₁ nx oI h₁ tk₁ hx hk hJ' ho F₁ N₁
end
-- 49
noncomputable abbrev SK (w : World) := PySem.strKind PySem.Challenge.rw_or0065_01.row.prog w
noncomputable abbrev IE := Int × (Bool × Array UInt8)
noncomputable abbrev PR := List (Str × List IE)
noncomputable def lkp {α β : Type} [DecidableEq α] (l : List (α × β)) (k : α) : Option β := (l.find? fun kv => kv.1 = k).map (·.2)
section
variable {α β : Type} [DecidableEq α]
theorem lkp_cons (a : α) (b : β) (l : List (α × β)) (k : α) : lkp ((a, b) :: l) k = if a = k then some b else lkp l k := by
  unfold lkp
  rw [List.find?_cons]
  by_cases h : a = k <;> simp [h]
theorem lkp_none {l : List (α × β)} {k : α} : lkp l k = none ↔ k ∉ l.map (·.1) := by
  induction l with
  | nil => simp [lkp]
  | cons q l ih =>
    obtain ⟨a, b⟩ := q
    rw [lkp_cons]
    by_cases h : a = k
    · simp [h]
    · rw [if_neg h, ih]
      simp [Ne.symm h]
theorem lkp_app_new {l : List (α × β)} {a : α} {b : β} {k : α} : lkp (l ++ [(a, b)]) k = match lkp l k with | some x => some x | none => if a = k then some b else none := by
  induction l with
  | nil => rw [List.nil_append, lkp_cons]; rfl
  | cons q l ih =>
    obtain ⟨c, d⟩ := q
    rw [List.cons_append, lkp_cons, lkp_cons]
    by_cases h : c = k
    · simp [h]
    · rw [if_neg h, if_neg h, ih]
end
theorem valueAt_lkp {K : Type} [DecidableEq K] (kvs : List (K × Value)) (k : K) : PySem.valueAt kvs k = lkp kvs k := rfl
theorem stored_new {K : Type} [DecidableEq K] {kvs : List (K × Value)} {k : K} {v : Value} (h : lkp kvs k = none) : PySem.stored kvs k v = kvs ++ [(k, v)] := by
  unfold PySem.stored
  rw [if_neg]
  rw [lkp_none] at h
  simp only [List.any_eq_true, decide_eq_true_eq, not_exists, not_and]
  rintro q hq rfl
  exact h (List.mem_map.mpr ⟨q, hq, rfl⟩)
noncomputable def CellIs (l : Led) (v : Value) (e : Bool × Array UInt8) : Prop := ∃ T t, v = .ref T ∧ (T, tupOf [.bool e.1, .bytes e.2 t]) ∈ l
theorem CellIs.mono {l l' : Led} {v : Value} {e : Bool × Array UInt8} (hs : ∀ (T : Addr) (vs : List Value), (T, tupOf vs) ∈ l → (T, tupOf vs) ∈ l') (h : CellIs l v e) : CellIs l' v e := by
  obtain ⟨T, t, e, hm⟩ := h
  exact ⟨T, t, e, hs _ _ hm⟩
/-- two dicts with the same keys in the same order -/
noncomputable def Kd {κ α β : Type} (S : α → β → Prop) (p : κ × α) (q : κ × β) : Prop := p.1 = q.1 ∧ S p.2 q.2
section
variable {κ α β : Type} {S S' : α → β → Prop} {kv : List (κ × α)} {R : List (κ × β)} {x : κ}
theorem Two.keys (h : Two (Kd S) kv R) : kv.map (·.1) = R.map (·.1) := by
  induction h with
  | nil => rfl
  | cons a _ ih => rw [List.map_cons, List.map_cons, ih, a.1]
theorem Two.at {i : Nat} {v : α} (h : Two (Kd S) kv R) (e : kv[i]? = some (x, v)) : ∃ r, R[i]? = some (x, r) ∧ S v r := by
  obtain ⟨⟨y, r⟩, e1, e2, e3⟩ := h.get e
  cases e2
  exact ⟨r, e1, e3⟩
variable [DecidableEq κ]
theorem Two.no (h : Two (Kd S) kv R) (hn : lkp R x = none) : lkp kv x = none := by
  rw [lkp_none, h.keys, ← lkp_none]
  exact hn
theorem Two.yes {e : β} (h : Two (Kd S) kv R) (hn : lkp R x = some e) : ∃ v, lkp kv x = some v ∧ S v e := by
  induction h with
  | nil => cases hn
  | cons a _ ih =>
    rw [lkp_cons] at hn ⊢
    rw [a.1]
    split at hn
    · next hq => cases hn; exact ⟨_, if_pos hq, a.2⟩
    · next hq => rw [if_neg hq]; exact ih hn
theorem Two.anyk (h : Two (Kd S) kv R) : kv.any (fun q => q.1 = x) = R.any (fun q => q.1 = x) := by
  induction h with
  | nil => rfl
  | cons a _ ih => rw [List.any_cons, List.any_cons, ih, a.1]
end
theorem Two.both {α β : Type} {R S : α → β → Prop} {f : α → α} {g : β → β} {l : List α} {r : List β} (hs : ∀ a b, R a b → S (f a) (g b)) (h : Two R l r) : Two S (l.map f) (r.map g) := by
  induction h with
  | nil => exact .nil
  | cons a _ ih => exact .cons (hs _ _ a) ih
theorem nodup_map {α β : Type} {f : α → β} {l : List α} {a b : α} (h : (l.map f).Nodup) (ha : a ∈ l) (hb : b ∈ l) (e : f a = f b) : a = b := by
  induction l with
  | nil => cases ha
  | cons c l ih =>
    rw [List.map_cons, List.nodup_cons] at h
    rcases List.mem_cons.mp ha with ea | ka
    · rcases List.mem_cons.mp hb with eb | kb
      · exact ea.trans eb.symm
      · exact absurd (List.mem_map.mpr ⟨b, kb, (ea ▸ e).symm⟩) h.1
    · rcases List.mem_cons.mp hb with eb | kb
      · exact absurd (List.mem_map.mpr ⟨a, ka, eb ▸ e⟩) h.1
      · exact ih h.2 ka kb
theorem lkp_mem {K α : Type} [DecidableEq K] {l : List (K × α)} {k : K} {a : α} (h : lkp l k = some a) : (k, a) ∈ l := by
  unfold lkp at h
  rw [Option.map_eq_some_iff] at h
  obtain ⟨p, hp, rfl⟩ := h
  have e := List.find?_some hp
  cases of_decide_eq_true e
  exact List.mem_of_find?_eq_some hp
noncomputable abbrev CellsA (l : Led) (kv : List (Int × Value)) (r : List IE) : Prop := Two (Kd (CellIs l)) kv r
theorem CellsA.mono {l l' : Led} {kv : List (Int × Value)} {r : List IE} (hs : ∀ (T : Addr) (vs : List Value), (T, tupOf vs) ∈ l → (T, tupOf vs) ∈ l') (h : CellsA l kv r) : CellsA l' kv r :=
  Two.imp (fun _ _ k => ⟨k.1, k.2.mono hs⟩) h
noncomputable def InnerIs (w : World) (l : Led) (v : Value) (r : List IE) : Prop := ∃ C oC kv, v = .ref C ∧ (C, oC) ∈ l ∧ (C == sysModules) = false ∧ oC.IsDictOf (IK w) kv ∧ CellsA l kv r
noncomputable abbrev PartedIs (w : World) (l : Led) (kv : List (Str × Value)) (R : PR) : Prop := Two (Kd (InnerIs w l)) kv R
section
variable {w : World} {l l' : Led}
theorem InnerIs.mono (hs : ∀ q ∈ l, q ∈ l') {v : Value} {r : List IE} (h : InnerIs w l v r) : InnerIs w l' v r := by
  obtain ⟨C, oC, kv, e, hm, lo, hd, hc⟩ := h
  exact ⟨C, oC, kv, e, hs _ hm, lo, hd, hc.mono fun _ _ => hs _⟩
theorem PartedIs.mono {kv : List (Str × Value)} {R : PR} (hs : ∀ q ∈ l, q ∈ l') (h : PartedIs w l kv R) : PartedIs w l' kv R := Two.imp (fun _ _ k => ⟨k.1, k.2.mono hs⟩) h
theorem InnerIs.move {C : Addr} (hs : ∀ q ∈ l, q.1 ≠ C → q ∈ l') (hC : ∀ vs, (C, tupOf vs) ∉ l) {v : Value} {r : List IE} (hv : v ≠ .ref C) (h : InnerIs w l v r) : InnerIs w l' v r := by
  obtain ⟨D, oD, kv', rfl, hm, lo, hd, hc⟩ := h
  refine ⟨D, oD, kv', rfl, hs _ hm (fun e => hv (congrArg _ e)), lo, hd, hc.mono fun T vs hT => hs _ hT fun e => ?_⟩
  cases (show T = C from e)
  exact hC _ hT
/-- the entry r of x set -/
noncomputable def putR (R : PR) (x : Str) (r : List IE) : PR := R.map fun q => if q.1 = x then (q.1, r) else q
/-- the inner dict at C changed, all else kept -/
theorem PartedIs.put {x : Str} {C : Addr} {r : List IE} {kv : List (Str × Value)} {R : PR} (hr : InnerIs w l' (.ref C) r) (hs : ∀ q ∈ l, q.1 ≠ C → q ∈ l') (hC : ∀ vs, (C, tupOf vs) ∉ l) (h : PartedIs w l kv R) (hn : lkp kv x = some (.ref C))
    (h2 : (kv.map (·.2)).Nodup) (h1 : (kv.map (·.1)).Nodup) : PartedIs w l' kv (putR R x r) := by
  have hm := lkp_mem hn
  refine Two.right h fun p q hp hk => ?_
  by_cases hx : q.1 = x
  · rw [if_pos hx]
    cases nodup_map h1 hp hm (hk.1.trans hx)
    exact ⟨hx.symm, hr⟩
  · rw [if_neg hx]
    refine ⟨hk.1, hk.2.move hs hC fun e => hx ?_⟩
    exact hk.1.symm.trans (congrArg Prod.fst (nodup_map h2 hp hm e))
theorem PartedIs.vals {kv : List (Str × Value)} {R : PR} (h : PartedIs w l kv R) (p : Str × Value) (hp : p ∈ kv) : ∃ C oC, p.2 = .ref C ∧ (C, oC) ∈ l := by
  obtain ⟨i, e⟩ := List.getElem?_of_mem hp
  obtain ⟨b, _, _, C, oC, kv, e1, hm, _⟩ := h.get e
  exact ⟨C, oC, e1, hm⟩
end
noncomputable def StrIs (v : Value) (z : Str) : Prop := ∃ t, v = .str z t
/-- a plain dict of texts -/
noncomputable abbrev StrPs (kv : List (Str × Value)) (R : List (Str × Str)) : Prop := Two (Kd StrIs) kv R
/-- what a store under x makes of a dict of texts -/
noncomputable def putS (R : List (Str × Str)) (x z : Str) : List (Str × Str) := if R.any (fun q => q.1 = x) then R.map (fun q => if q.1 = x then (q.1, z) else q) else R ++ [(x, z)]
theorem StrPs.stored {x z : Str} {t : Tok} {kv : List (Str × Value)} {R : List (Str × Str)} (h : StrPs kv R) : StrPs (PySem.stored kv x (.str z t)) (putS R x z) := by
  unfold PySem.stored putS
  rw [h.anyk]
  split
  · refine Two.both (fun a b k => ?_) h
    rw [k.1]
    split
    · exact ⟨rfl, t, rfl⟩
    · exact k
  · exact h.snoc ⟨rfl, t, rfl⟩
theorem putS_len (R : List (Str × Str)) (x z : Str) : (putS R x z).length ≤ R.length + 1 := by
  unfold putS
  split <;> simp
theorem StrPs.lk {x : Str} {kv : List (Str × Value)} {R : List (Str × Str)} (h : StrPs kv R) : (lkp R x = none → lkp kv x = none) ∧ (∀ z, lkp R x = some z → ∃ t, lkp kv x = some (.str z t)) := by
  refine ⟨h.no, fun z hz => ?_⟩
  obtain ⟨v, e, t, rfl⟩ := h.yes hz
  exact ⟨t, e⟩
-- 50
noncomputable abbrev wU : Array UInt8 := #[117, 116, 102, 45, 56, 39, 39, 37, 67, 51, 37, 65, 57]
noncomputable abbrev wP : Array UInt8 := #[37, 52, 49]
/-- a pair of the menu, and what it is -/
inductive PK
  | pl (x : Str) (ws : List Int)
  | pt (nm x : Str) (n : Int) (e : Bool) (bw : Array UInt8)
noncomputable def PK.pair : PK → Str × List Int
  | .pl x ws => (x, ws)
  | .pt nm _ _ _ bw => (nm, KBw.bInts bw)
noncomputable def PtOk (nm x : Str) (n : Int) (e : Bool) (bw : Array UInt8) : Prop :=
  (nm = Str.ofString "c*0" ∧ x = Str.ofString "c" ∧ n = 0 ∧ e = false ∧ bw = wC) ∨ (nm = Str.ofString "c*1*" ∧ x = Str.ofString "c" ∧ n = 1 ∧ e = true ∧ bw = wP) ∨ (nm = Str.ofString "d*" ∧ x = Str.ofString "d" ∧ n = 0 ∧ e = true ∧ bw = wU)
noncomputable def PlOk (x : Str) (ws : List Int) : Prop := (x = Str.ofString "a" ∨ x = Str.ofString "name" ∨ x = Str.ofString "e" ∨ x = Str.ofString "f") ∧ (∀ c ∈ ws, c < 128) ∧ ws.length ≤ 1000
noncomputable def PK.Ok : PK → Prop
  | .pl x ws => PlOk x ws
  | .pt nm x n e bw => PtOk nm x n e bw
structure PSt where
  P : List (Str × Str)
  R : PR
noncomputable def addR (R : PR) (x : Str) (n : Int) (e : Bool × Array UInt8) : PR :=
  match lkp R x with
  | none => R ++ [(x, [(n, e)])]
  | some r => match lkp r n with
    | none => putR R x (r ++ [(n, e)])
    | some _ => R
noncomputable def PSt.step (s : PSt) : PK → PSt
  | .pl x ws => if (lkp s.P x).isSome then s else ⟨s.P ++ [(x, txt ws)], s.R⟩
  | .pt _ x n e bw => ⟨s.P, addR s.R x n (e, bw)⟩
noncomputable def stAt (pks : List PK) (i : Nat) : PSt := (pks.take i).foldl PSt.step ⟨[], []⟩
theorem stAt_succ {pks : List PK} {i : Nat} {k : PK} (h : pks[i]? = some k) : stAt pks (i + 1) = (stAt pks i).step k := by
  unfold stAt
  rw [List.take_add_one, h]
  simp
theorem part_of_pt (w : World) (nm x : Str) (n : Int) (e : Bool) (bw : Array UInt8) (h : PtOk nm x n e bw) (t : Tok) (news : Led) : MC w 378 [.str nm t] news 4 40 (fun v n' => ∃ a t1 t2, v = .ref a ∧ n' = (a, tupOf [.str x t1, .int n t2, .bool e]) :: news) := by
  rcases h with ⟨rfl, rfl, rfl, rfl, _⟩ | ⟨rfl, rfl, rfl, rfl, _⟩ | ⟨rfl, rfl, rfl, rfl, _⟩
  · exact part_of_c0 w t news
  · exact part_of_c1 w t news
  · exact part_of_d w t news
theorem kda_notin {prog : Program} {w : World} {K : Type} [DecidableEq K] {knd : KeyKind prog w K} {A : Around} {E : Value → Shared → Prop} {s : Shared} {h₀ : Heap} {L d : Addr} {news : Led} {o : Obj} {kvs : List (K × Value)} {k : K} {key : Value} {Q : Value → Shared → Prop}
    (N : News h₀ L s.heap news) (hp : (d, o) ∈ news) (hd : o.IsDictOf knd kvs) (lo : (d == sysModules) = false) (hkey : knd.is k key = true) (b : Bool) (hb : (PySem.valueAt kvs k).isSome = b) (h : Q (.bool (!b)) { s with toks := s.toks + 1 }) :
    wpAny (model prog w) A (compareOp .NotIn key (.ref d)) Q E s := wpAny_notIn_of hkey lo (kda_dict N hp hd).mapOf (by rw [hb]; exact h)
theorem valueAt_stored_self {K : Type} [DecidableEq K] (kvs : List (K × Value)) (k : K) (v : Value) : PySem.valueAt (PySem.stored kvs k v) k = some v := by
  rw [valueAt_lkp]
  unfold PySem.stored
  split
  · rename_i h
    induction kvs with
    | nil => simp at h
    | cons q kvs ih =>
      obtain ⟨a, b⟩ := q
      rw [List.map_cons]
      by_cases e : a = k
      · subst e
        simp only [if_true]
        rw [lkp_cons, if_pos rfl]
      · simp only [e, if_false]
        rw [lkp_cons, if_neg e]
        refine ih ?_
        simpa [e] using h
  · rename_i h
    rw [lkp_app_new]
    have : lkp kvs k = none := by
      rw [lkp_none]
      intro hm
      obtain ⟨q, hq, e⟩ := List.mem_map.mp hm
      exact h (List.any_eq_true.mpr ⟨q, hq, by simpa using e⟩)
    rw [this]
    simp
theorem stored_len {K : Type} [DecidableEq K] (kvs : List (K × Value)) (k : K) (v : Value) : (PySem.stored kvs k v).length ≤ kvs.length + 1 := by
  unfold PySem.stored
  split <;> simp
/-- what holds between two turns of the first loop of params_of -/
structure J1F (w : World) (D : Addr) (base : Led) (pks : List PK) (i : Nat) (m : Str → Option Value) (P : Addr) (oP : Obj) (kvP : List (Str × Value)) (PT : Addr) (oPT : Obj) (kvT : List (Str × Value)) (rest : Led) : Prop where
  hov : OvrAll m [(Str.ofString "pairs", .ref D), (Str.ofString "plain", .ref P), (Str.ofString "parted", .ref PT)]
  hdP : oP.IsDictOf (SK w) kvP
  hsp : StrPs kvP (stAt pks i).P
  hdT : oPT.IsDictOf (SK w) kvT
  hpt : PartedIs w rest kvT (stAt pks i).R
  hnd : (kvT.map (·.2)).Nodup
  hbase : ∀ q ∈ base, q ∈ rest
  hPPT : P ≠ PT
  hrP : ∀ p ∈ rest, p.1 ≠ P
  hrPT : ∀ p ∈ rest, p.1 ≠ PT
  loP : (P == sysModules) = false
  loPT : (PT == sysModules) = false
  hl1 : (stAt pks i).P.length ≤ i
  hl2 : (stAt pks i).R.length ≤ i
  hl3 : ∀ q ∈ (stAt pks i).R, q.2.length ≤ i
  hbC : ∀ q ∈ base, ∀ p ∈ kvT, p.2 ≠ .ref q.1
inductive J1 (w : World) (D : Addr) (base : Led) (pks : List PK) : Nat → (Str → Option Value) → Led → Prop
  | mk {i : Nat} {m : Str → Option Value} (P : Addr) (oP : Obj) (kvP : List (Str × Value)) (PT : Addr) (oPT : Obj) (kvT : List (Str × Value)) (rest : Led) (f : J1F w D base pks i m P oP kvP PT oPT kvT rest) : J1 w D base pks i m ((PT, oPT) :: (P, oP) :: rest)
theorem kda_getItem {prog : Program} {w : World} {K : Type} [DecidableEq K] {knd : KeyKind prog w K} {A : Around} {E : Value → Shared → Prop} {s : Shared} {h₀ : Heap} {L d : Addr} {news : Led} {o : Obj} {kvs : List (K × Value)} {k : K} {key v : Value} {Q : Value → Shared → Prop}
    (N : News h₀ L s.heap news) (hp : (d, o) ∈ news) (hd : o.IsDictOf knd kvs) (hkey : knd.is k key = true) (hl : PySem.valueAt kvs k = some v) (h : Q v { s with toks := s.toks + 1 }) :
    wpAny (model prog w) A (getItem (.ref d) key) Q E s := wpAny_getItem_of hkey (kda_dict N hp hd).mapOf hl h
theorem PairsAre.at {tl : Led} {vs : List Value} {ps : List (Str × List Int)} {i : Nat} {v : Value} (h : PairsAre tl vs ps) (hv : vs[i]? = some v) : ∃ p a b t1 t2, ps[i]? = some p ∧ v = .ref a ∧ (a, tupOf [.str p.1 t1, .bytes b t2]) ∈ tl ∧ KBw.bInts b = p.2 := by
  obtain ⟨p, e, a, b, t1, t2, h⟩ := h.get hv
  exact ⟨p, a, b, t1, t2, e, h⟩
theorem map_some {α β : Type} {f : α → β} {l : List α} {i : Nat} {b : β} (h : (l.map f)[i]? = some b) : ∃ a, l[i]? = some a ∧ f a = b := by
  rw [List.getElem?_map] at h
  exact Option.map_eq_some_iff.mp h
theorem getElem_lt {α : Type} {l : List α} {i : Nat} {a : α} (h : l[i]? = some a) : i < l.length := (List.getElem?_eq_some_iff.mp h).1
theorem J1.base {w : World} {D : Addr} {base : Led} {pks : List PK} {i : Nat} {m : Str → Option Value} {nx : Led} (h : J1 w D base pks i m nx) : ∀ q ∈ base, q ∈ nx := by
  obtain ⟨P, oP, kvP, PT, oPT, kvT, rest, f⟩ := h
  exact fun q hq => .tail _ (.tail _ (f.hbase q hq))
theorem isSome_f {α : Type} {x : Option α} (h : x = none) : x.isSome = false := by rw [h]; rfl
theorem isSome_t {α : Type} {x : Option α} {v : α} (h : x = some v) : x.isSome = true := by rw [h]; rfl
theorem news_front {h₀ h : Heap} {L I a : Addr} {oI o : Obj} {nx : Led} (N : News h₀ L h ((I, oI) :: nx)) (hm : (a, o) ∈ nx) : News h₀ L h ((a, o) :: (I, oI) :: nx) := by
  intro p hp
  rcases List.mem_cons.mp hp with rfl | hp
  · exact N _ (.tail _ hm)
  · exact N _ hp
theorem bInts_inj {a b : Array UInt8} (h : KBw.bInts a = KBw.bInts b) : a = b := by
  have := ints_inj (a := a.toList) (b := b.toList) h
  exact Array.toList_inj.mp this
inductive TurnC (tl : Led) (pks : List PK) (i : Nat) : Value → Prop
  | pl (a : Addr) (t1 t2 : Tok) (x : Str) (ws : List Int) (b : Array UInt8) (hk : pks[i]? = some (.pl x ws)) (hx : PlOk x ws) (hm : (a, tupOf [.str x t1, .bytes b t2]) ∈ tl) (hb : KBw.bInts b = ws) : TurnC tl pks i (.ref a)
  | pt (a : Addr) (t1 t2 : Tok) (nm x : Str) (n : Int) (e : Bool) (bw : Array UInt8) (hk : pks[i]? = some (.pt nm x n e bw)) (hpk : PtOk nm x n e bw) (hm : (a, tupOf [.str nm t1, .bytes bw t2]) ∈ tl) : TurnC tl pks i (.ref a)
theorem turn_cases {tl : Led} {vs : List Value} {pks : List PK} {i : Nat} {v : Value} (hok : ∀ k ∈ pks, k.Ok) (hpa : PairsAre tl vs (pks.map PK.pair)) (hv : vs[i]? = some v) : TurnC tl pks i v := by
  obtain ⟨p, a, b, t1, t2, hp, rfl, hm, hb⟩ := hpa.at hv
  obtain ⟨k, hk, rfl⟩ := map_some hp
  have hkok := hok k (List.mem_of_getElem? hk)
  cases k with
  | pl x ws => exact .pl a t1 t2 x ws b hk hkok hm hb
  | pt nm x n e bw =>
    have : b = bw := bInts_inj hb
    subst this
    exact .pt a t1 t2 nm x n e b hk hkok hm
theorem dict_ne_tup {h₀ h : Heap} {L a C : Addr} {prog : Program} {w : World} {K : Type} [DecidableEq K] {knd : KeyKind prog w K} {oC : Obj} {kv : List (K × Value)} {vs : List Value} {news : Led} (N : News h₀ L h news) (h1 : (C, oC) ∈ news) (h2 : (a, tupOf vs) ∈ news) (hd : oC.IsDictOf knd kv) : C ≠ a := by
  refine ne_cls N h1 h2 ?_
  obtain ⟨es, ep, hx, _⟩ := hd
  have e : oC.cls = .type "dict" := hx.1
  rw [e]
  show Value.type _ ≠ Value.type _
  decide
theorem news_inner {h₀ h : Heap} {L a I PT P C : Addr} {o oI oPT oP oC : Obj} {rest : Led} (N : News h₀ L h ((a, o) :: (I, oI) :: (PT, oPT) :: (P, oP) :: rest)) (hm : (C, oC) ∈ rest) :
    News h₀ L h ((C, oC) :: (a, o) :: (I, oI) :: (PT, oPT) :: (P, oP) :: rest.filter fun p => decide (p.1 ≠ C)) := by
  intro p hp
  rcases List.mem_cons.mp hp with rfl | hp
  · exact N _ (.tail _ (.tail _ (.tail _ (.tail _ hm))))
  · refine N p ?_
    rcases List.mem_cons.mp hp with rfl | hp
    · exact .head _
    · rcases List.mem_cons.mp hp with rfl | hp
      · exact .tail _ (.head _)
      · rcases List.mem_cons.mp hp with rfl | hp
        · exact .tail _ (.tail _ (.head _))
        · rcases List.mem_cons.mp hp with rfl | hp
          · exact .tail _ (.tail _ (.tail _ (.head _)))
          · exact .tail _ (.tail _ (.tail _ (.tail _ (List.mem_filter.mp hp).1)))
theorem filter_ne (rest : Led) (C : Addr) : ∀ p ∈ rest.filter (fun p => decide (p.1 ≠ C)), p.1 ≠ C := fun p hp => by simpa using (List.mem_filter.mp hp).2
theorem filter_off {rest : Led} {P : Addr} (C : Addr) (h : ∀ p ∈ rest, p.1 ≠ P) : ∀ p ∈ rest.filter (fun p => decide (p.1 ≠ C)), p.1 ≠ P := fun p hp => h p (List.mem_filter.mp hp).1
theorem rest_split {h₀ h : Heap} {L a I PT P C : Addr} {o oI oPT oP oC : Obj} {rest : Led} (N : News h₀ L h ((a, o) :: (I, oI) :: (PT, oPT) :: (P, oP) :: rest)) (hm : (C, oC) ∈ rest) : ∀ q ∈ rest, q ∈ (C, oC) :: rest.filter fun p => decide (p.1 ≠ C) := by
  intro q hq
  by_cases e : q.1 = C
  · have h1 := (N q (.tail _ (.tail _ (.tail _ (.tail _ hq))))).1
    have h2 := (N _ (.tail _ (.tail _ (.tail _ (.tail _ hm))))).1
    rw [e] at h1
    have : q = (C, oC) := Prod.ext e (Option.some.inj (h1.symm.trans h2))
    rw [this]
    exact List.mem_cons_self ..
  · exact List.mem_cons_of_mem _ (List.mem_filter.mpr ⟨hq, by simpa using e⟩)
theorem dict_not_tup {h₀ h : Heap} {L C : Addr} {prog : Program} {w : World} {K : Type} [DecidableEq K] {knd : KeyKind prog w K} {oC : Obj} {kv : List (K × Value)} {news rest : Led} (N : News h₀ L h news) (hs : ∀ q ∈ rest, q ∈ news) (h1 : (C, oC) ∈ rest) (hd : oC.IsDictOf knd kv) (vs : List Value) : (C, tupOf vs) ∉ rest :=
  fun h2 => dict_ne_tup N (hs _ h1) (hs _ h2) hd rfl
theorem keys_nodup {prog : Program} {w : World} {K : Type} [DecidableEq K] {knd : KeyKind prog w K} {o : Obj} {kv : List (K × Value)} (hd : o.IsDictOf knd kv) : (kv.map (·.1)).Nodup := by
  obtain ⟨es, ep, _, _, _, _, h⟩ := hd
  exact h
theorem nodup_snoc {α : Type} {l : List α} {a : α} (h : l.Nodup) (ha : a ∉ l) : (l ++ [a]).Nodup := by
  rw [List.nodup_append]
  refine ⟨h, by simp, ?_⟩
  intro x hx y hy
  rw [List.mem_singleton.mp hy]
  rintro rfl
  exact ha hx
section
variable {w : World} {D : Addr} {base : Led} {pks : List PK} {i : Nat} {m m' : Str → Option Value} {P : Addr} {oP oP' : Obj} {kvP : List (Str × Value)} {PT : Addr} {oPT oPT' : Obj} {kvT : List (Str × Value)} {rest : Led} {x nm : Str} {ws : List Int} {n : Int} {e : Bool} {bw : Array UInt8}
theorem J1F.pl_new {u : Tok} (f : J1F w D base pks i m P oP kvP PT oPT kvT rest) (hk : pks[i]? = some (.pl x ws)) (hq : lkp (stAt pks i).P x = none) (hov' : OvrAll m' [(Str.ofString "pairs", .ref D), (Str.ofString "plain", .ref P), (Str.ofString "parted", .ref PT)])
    (hd' : oP'.IsDictOf (SK w) (PySem.stored kvP x (.str (txt ws) u))) : J1F w D base pks (i + 1) m' P oP' (PySem.stored kvP x (.str (txt ws) u)) PT oPT kvT rest := by
  have hs : stAt pks (i + 1) = ⟨(stAt pks i).P ++ [(x, txt ws)], (stAt pks i).R⟩ := by
    rw [stAt_succ hk]
    show (if (lkp (stAt pks i).P x).isSome then _ else _) = _
    rw [if_neg (by rw [hq]; exact Bool.false_ne_true)]
  have hsp : StrPs (PySem.stored kvP x (.str (txt ws) u)) (stAt pks (i + 1)).P := by
    rw [hs, stored_new (f.hsp.lk.1 hq)]
    exact f.hsp.snoc ⟨rfl, _, rfl⟩
  have h1 := f.hl1
  have h2 := f.hl2
  have h3 := f.hl3
  refine { f with hov := hov', hdP := hd', hsp := hsp, hpt := ?_, hl1 := ?_, hl2 := ?_, hl3 := ?_ }
  · rw [hs]; exact f.hpt
  · rw [hs]; simp; exact h1
  · rw [hs]; exact Nat.le_succ_of_le h2
  · rw [hs]; exact fun q hq => Nat.le_succ_of_le (h3 q hq)
theorem J1F.pl_old {z : Str} (f : J1F w D base pks i m P oP kvP PT oPT kvT rest) (hk : pks[i]? = some (.pl x ws)) (hq : lkp (stAt pks i).P x = some z) (hov' : OvrAll m' [(Str.ofString "pairs", .ref D), (Str.ofString "plain", .ref P), (Str.ofString "parted", .ref PT)]) :
    J1F w D base pks (i + 1) m' P oP kvP PT oPT kvT rest := by
  have hs : stAt pks (i + 1) = stAt pks i := by
    rw [stAt_succ hk]
    show (if (lkp (stAt pks i).P x).isSome then _ else _) = _
    rw [if_pos (by rw [hq]; rfl)]
  refine { f with hov := hov', hsp := ?_, hpt := ?_, hl1 := ?_, hl2 := ?_, hl3 := ?_ }
  · rw [hs]; exact f.hsp
  · rw [hs]; exact f.hpt
  · rw [hs]; exact Nat.le_succ_of_le f.hl1
  · rw [hs]; exact Nat.le_succ_of_le f.hl2
  · rw [hs]; exact fun q hq => Nat.le_succ_of_le (f.hl3 q hq)
theorem J1F.pt_new {C T : Addr} {oC' : Obj} {t : Tok} (f : J1F w D base pks i m P oP kvP PT oPT kvT rest) (hk : pks[i]? = some (.pt nm x n e bw)) (hq : lkp (stAt pks i).R x = none) (hov' : OvrAll m' [(Str.ofString "pairs", .ref D), (Str.ofString "plain", .ref P), (Str.ofString "parted", .ref PT)])
    (hdT' : oPT'.IsDictOf (SK w) (PySem.stored kvT x (.ref C))) (loC : (C == sysModules) = false) (hdC : oC'.IsDictOf (IK w) (PySem.stored [] n (.ref T))) (hCP : C ≠ P) (hCPT : C ≠ PT) (hCr : AllLt C rest) (hTP : T ≠ P) (hTPT : T ≠ PT) :
    J1F w D base pks (i + 1) m' P oP kvP PT oPT' (PySem.stored kvT x (.ref C)) ((C, oC') :: (T, tupOf [.bool e, .bytes bw t]) :: rest) := by
  have hs : stAt pks (i + 1) = ⟨(stAt pks i).P, (stAt pks i).R ++ [(x, [(n, (e, bw))])]⟩ := by
    rw [stAt_succ hk]
    show PSt.mk _ (addR _ _ _ _) = _
    unfold addR
    rw [hq]
  have hCr' := allLt_ne hCr
  have hi : InnerIs w ((C, oC') :: (T, tupOf [.bool e, .bytes bw t]) :: rest) (.ref C) [(n, (e, bw))] :=
    ⟨C, oC', _, rfl, .head _, loC, hdC, by rw [stored_new rfl]; exact .cons ⟨rfl, T, t, rfl, .tail _ (.head _)⟩ .nil⟩
  have hst := stored_new (v := .ref C) (f.hpt.no hq)
  have hv : ∀ p ∈ kvT, p.2 ≠ .ref C := by
    intro p hp e
    obtain ⟨C', oC, e', hm⟩ := f.hpt.vals p hp
    rw [e] at e'
    cases e'
    exact hCr' _ hm rfl
  refine { f with hov := hov', hdT := hdT', hsp := ?_, hpt := ?_, hnd := ?_, hbase := ?_, hrP := ?_, hrPT := ?_, hl1 := ?_, hl2 := ?_, hl3 := ?_, hbC := ?_ }
  · rw [hs]; exact f.hsp
  · rw [hs, hst]
    exact (f.hpt.mono fun q hq => .tail _ (.tail _ hq)).snoc ⟨rfl, hi⟩
  · rw [hst, List.map_append]
    refine nodup_snoc f.hnd fun hm => ?_
    obtain ⟨p, hp, e⟩ := List.mem_map.mp hm
    exact hv p hp e
  · exact fun q hq => .tail _ (.tail _ (f.hbase q hq))
  · exact offC hCP (offC hTP f.hrP)
  · exact offC hCPT (offC hTPT f.hrPT)
  · rw [hs]; exact Nat.le_succ_of_le f.hl1
  · rw [hs]; simp; exact f.hl2
  · rw [hs]
    intro q hq
    rcases List.mem_append.mp hq with hq | hq
    · exact Nat.le_succ_of_le (f.hl3 q hq)
    · rw [List.mem_singleton.mp hq]
      simp
  · intro q hq p hp
    rw [hst] at hp
    rcases List.mem_append.mp hp with hp | hp
    · exact f.hbC q hq p hp
    · rw [List.mem_singleton.mp hp]
      intro e
      have e' : C = q.1 := by cases e; rfl
      exact hCr' q (f.hbase q hq) e'.symm
theorem putR_len (R : PR) (x : Str) (r : List IE) : (putR R x r).length = R.length := by unfold putR; simp
theorem J1F.pt_add {C T : Addr} {oC oC' : Obj} {kvC : List (Int × Value)} {t : Tok} {r : List IE} (f : J1F w D base pks i m P oP kvP PT oPT kvT rest) (hk : pks[i]? = some (.pt nm x n e bw)) (hq : lkp (stAt pks i).R x = some r) (hn : lkp r n = none)
    (hv1 : lkp kvT x = some (.ref C)) (hCm : (C, oC) ∈ rest) (loC : (C == sysModules) = false) (hca : CellsA rest kvC r) (hC : ∀ vs, (C, tupOf vs) ∉ rest) (hov' : OvrAll m' [(Str.ofString "pairs", .ref D), (Str.ofString "plain", .ref P), (Str.ofString "parted", .ref PT)])
    (hdC : oC'.IsDictOf (IK w) (PySem.stored kvC n (.ref T))) (hTP : T ≠ P) (hTPT : T ≠ PT) :
    J1F w D base pks (i + 1) m' P oP kvP PT oPT kvT ((C, oC') :: (T, tupOf [.bool e, .bytes bw t]) :: rest.filter fun p => decide (p.1 ≠ C)) := by
  have hs : stAt pks (i + 1) = ⟨(stAt pks i).P, putR (stAt pks i).R x (r ++ [(n, (e, bw))])⟩ := by
    rw [stAt_succ hk]
    show PSt.mk _ (addR _ _ _ _) = _
    unfold addR
    simp only [hq, hn]
  have keep : ∀ q ∈ rest, q.1 ≠ C → q ∈ ((C, oC') :: (T, tupOf [.bool e, .bytes bw t]) :: rest.filter fun p => decide (p.1 ≠ C)) := fun q hq hne => .tail _ (.tail _ (List.mem_filter.mpr ⟨hq, by simpa using hne⟩))
  have hi : InnerIs w ((C, oC') :: (T, tupOf [.bool e, .bytes bw t]) :: rest.filter fun p => decide (p.1 ≠ C)) (.ref C) (r ++ [(n, (e, bw))]) := by
    refine ⟨C, oC', _, rfl, .head _, loC, hdC, ?_⟩
    rw [stored_new (hca.no hn)]
    refine Two.snoc (hca.mono fun T' vs hT => keep _ hT ?_) ⟨rfl, T, t, rfl, .tail _ (.head _)⟩
    intro e
    have e' : T' = C := e
    subst e'
    exact hC _ hT
  have hbne : ∀ q ∈ base, q.1 ≠ C := by
    intro q hq e
    have hm : (x, Value.ref C) ∈ kvT := lkp_mem hv1
    exact f.hbC q hq _ hm (by rw [e])
  refine { f with hov := hov', hsp := ?_, hpt := ?_, hbase := ?_, hrP := ?_, hrPT := ?_, hl1 := ?_, hl2 := ?_, hl3 := ?_ }
  · rw [hs]; exact f.hsp
  · rw [hs]
    exact f.hpt.put hi keep hC hv1 f.hnd (keys_nodup f.hdT)
  · exact fun q hq => keep q (f.hbase q hq) (hbne q hq)
  · exact offC (f.hrP _ hCm) (offC hTP (filter_off C f.hrP))
  · exact offC (f.hrPT _ hCm) (offC hTPT (filter_off C f.hrPT))
  · rw [hs]; exact Nat.le_succ_of_le f.hl1
  · rw [hs]
    show (putR _ _ _).length ≤ _
    rw [putR_len]
    exact Nat.le_succ_of_le f.hl2
  · rw [hs]
    intro q hq'
    obtain ⟨p, hp, e⟩ := List.mem_map.mp hq'
    have h1 := f.hl3 p hp
    by_cases he : p.1 = x
    · rw [if_pos he] at e
      rw [← e]
      have := f.hl3 _ (lkp_mem hq)
      simp only [List.length_append, List.length_cons, List.length_nil]
      simp only at this
      omega
    · rw [if_neg he] at e
      rw [← e]
      omega
theorem J1F.pt_old {C : Addr} {oC : Obj} {r : List IE} {e' : Bool × Array UInt8} (f : J1F w D base pks i m P oP kvP PT oPT kvT rest) (hk : pks[i]? = some (.pt nm x n e bw)) (hq : lkp (stAt pks i).R x = some r) (hn : lkp r n = some e') (hCm : (C, oC) ∈ rest)
    (hrest : ∀ q ∈ rest, q ∈ (C, oC) :: rest.filter fun p => decide (p.1 ≠ C)) (hov' : OvrAll m' [(Str.ofString "pairs", .ref D), (Str.ofString "plain", .ref P), (Str.ofString "parted", .ref PT)]) :
    J1F w D base pks (i + 1) m' P oP kvP PT oPT kvT ((C, oC) :: rest.filter fun p => decide (p.1 ≠ C)) := by
  have hs : stAt pks (i + 1) = stAt pks i := by
    rw [stAt_succ hk]
    show PSt.mk _ (addR _ _ _ _) = _
    unfold addR
    simp only [hq, hn]
  refine { f with hov := hov', hsp := ?_, hpt := ?_, hbase := ?_, hrP := ?_, hrPT := ?_, hl1 := ?_, hl2 := ?_, hl3 := ?_ }
  · rw [hs]; exact f.hsp
  · rw [hs]; exact f.hpt.mono hrest
  · exact fun q hq => hrest q (f.hbase q hq)
  · exact offC (f.hrP _ hCm) (filter_off C f.hrP)
  · exact offC (f.hrPT _ hCm) (filter_off C f.hrPT)
  · rw [hs]; exact Nat.le_succ_of_le f.hl1
  · rw [hs]; exact Nat.le_succ_of_le f.hl2
  · rw [hs]; exact fun q hq => Nat.le_succ_of_le (f.hl3 q hq)
end
local macro_rules | `(tactic| k_ne) => `(tactic| k_extra "k_ne_5")
local macro_rules | `(tactic| k_ne) => `(tactic| k_extra "k_ne_6")
theorem reg_m50 : True := by
  (k_with "eval Call" => (k_here; (with_reducible show wpAny _ _ (eval (Expr.Call (Expr.Name (Str.ofString "part_of") _) _ [] _) _) _ _ _); k_dflt (refine Call_ ?_)))
  (k_with "eval Call" => (k_here; (with_reducible show wpAny _ _ (eval (Expr.Call (Expr.Name (Str.ofString "params_of") _) _ [] _) _) _ _ _); k_dflt (refine Call_ ?_)))
  (k_with "eval Call" => (k_here; (with_reducible show wpAny _ _ (eval (Expr.Call (Expr.Name (Str.ofString "joined_worth") _) _ [] _) _) _ _ _); k_dflt (refine Call_ ?_)))
  (k_with "call ref" => (k_here; (try dsimp only [List.nil_append, List.cons_append, List.append_nil]); (with_reducible show wpAny _ _ (call (Value.ref 378) [Value.str _ _]) _ _ _); k_dflt (refine' MC.use3 (part_of_pt _ _ _ _ _ _ ?p1q134 _ _) ?Bq134 ?Fq134 ?Xq134 ?Nq134 ?Tq134 ?hkq134 ?hdq134 ?hunq134 ?_; (case Bq134 => k_asm); (case Fq134 => k_asm); (case Xq134 => k_asm); (case Nq134 => k_asm); (case Tq134 => k_asm); (case hkq134 => first | exact rfl | assumption); (case p1q134 => assumption); (case hdq134 => ktr_room); (case hunq134 => ktr_units)); intro a9 u9 u8 h9 tk9 F9 N9;  (try k_sweep); (try dsimp only); (try k_extra "kfold")))
  (k_with "call ref" => (k_here; (try dsimp only [List.nil_append, List.cons_append, List.append_nil]); (with_reducible show wpAny _ _ (call (Value.ref 378) [Value.str _ _]) _ _ _); k_dflt (refine' MC.use1 (part_of_none _ _ ?p1q135 _ _) ?Bq135 ?Fq135 ?Xq135 ?Nq135 ?Tq135 ?hkq135 ?hdq135 ?hunq135 ?_; (case Bq135 => k_asm); (case Fq135 => k_asm); (case Xq135 => k_asm); (case Nq135 => k_asm); (case Tq135 => k_asm); (case hkq135 => first | exact rfl | assumption); (case p1q135 => assumption); (case hdq135 => ktr_room); (case hunq135 => ktr_units)); intro h9 tk9 F9 N9;  (try k_sweep); (try dsimp only); (try k_extra "kfold")))
  (k_with "compareOp NotIn str ref" => (k_here; k_dflt (first | (refine' kda_notin (knd := PySem.strKind _ _) ?aq136 ?bq136 ?cq136 ?dq136 (strKind_is _ _ _ _) true ?eq136 ?_; (case aq136 => k_asm); (case bq136 => k_mem); (case cq136 => k_asm); (case dq136 => k_asm); (case eq136 => assumption)) | (refine' kda_notin (knd := PySem.strKind _ _) ?aq136 ?bq136 ?cq136 ?dq136 (strKind_is _ _ _ _) false ?eq136 ?_; (case aq136 => k_asm); (case bq136 => k_mem); (case cq136 => k_asm); (case dq136 => k_asm); (case eq136 => assumption)))))
  (k_with "compareOp NotIn int ref" => (k_here; k_dflt (first | (refine' kda_notin (knd := PySem.intKind _ _) ?aq137 ?bq137 ?cq137 ?dq137 (intKind_is _ _ _ _) true ?eq137 ?_; (case aq137 => k_asm); (case bq137 => k_mem); (case cq137 => k_asm); (case dq137 => k_asm); (case eq137 => assumption)) | (refine' kda_notin (knd := PySem.intKind _ _) ?aq137 ?bq137 ?cq137 ?dq137 (intKind_is _ _ _ _) false ?eq137 ?_; (case aq137 => k_asm); (case bq137 => k_mem); (case cq137 => k_asm); (case dq137 => k_asm); (case eq137 => first | assumption | rfl)))))
  (k_with "compareOp In int ref" => (k_here; k_dflt (first | (refine' kda_in (knd := PySem.intKind _ _) ?aq138 ?bq138 ?cq138 ?dq138 (intKind_is _ _ _ _) true ?eq138 ?_; (case aq138 => k_asm); (case bq138 => k_mem); (case cq138 => k_asm); (case dq138 => k_asm); (case eq138 => assumption)) | (refine' kda_in (knd := PySem.intKind _ _) ?aq138 ?bq138 ?cq138 ?dq138 (intKind_is _ _ _ _) false ?eq138 ?_; (case aq138 => k_asm); (case bq138 => k_mem); (case cq138 => k_asm); (case dq138 => k_asm); (case eq138 => assumption)))))
  (k_with "subscriptTail" => (k_here; (with_reducible show wpAny _ _ (subscriptTail _ _ (Value.ref _) (Value.str _ _)) _ _ _); k_dflt (refine' kda_item (knd := PySem.strKind _ _) ?aq139 ?bq139 ?cq139 (strKind_is _ _ _ _) ?eq139 ?_; (case aq139 => k_asm); (case bq139 => k_mem); (case cq139 => k_asm); (case eq139 => first | assumption | exact valueAt_stored_self _ _ _))))
  (k_with "getItem ref str" => (k_here; k_dflt (refine' kda_getItem (knd := PySem.strKind _ _) ?aq140 ?bq140 ?cq140 (strKind_is _ _ _ _) ?eq140 ?_; (case aq140 => k_asm); (case bq140 => k_mem); (case cq140 => k_asm); (case eq140 => first | assumption | exact valueAt_stored_self _ _ _))))
  (k_with "setItem ref str" => (k_here; k_dflt (refine' kda_set (knd := PySem.strKind _ _) ?Fq141 ?Nq141 ?Uq141 ?dq141 (strKind_is _ _ _ _) ?zq141 ?_; (case Fq141 => k_asm); (case Nq141 => k_asm); (case Uq141 => k_updF); (case dq141 => k_asm); (case zq141 => rw [sizeLine_eq]; first | omega | exact Nat.zero_le _)); intro h' o' F' N' hd'; (try dsimp only at N')))
  (k_with "setItem ref int" => (k_here; k_dflt (refine' kda_set (knd := PySem.intKind _ _) ?Fq142 ?Nq142 ?Uq142 ?dq142 (intKind_is _ _ _ _) ?zq142 ?_; (case Fq142 => k_asm); (case Nq142 => k_asm); (case Uq142 => k_updF); (case dq142 => k_asm); (case zq142 => rw [sizeLine_eq]; first | omega | exact Nat.zero_le _)); intro h' o' F' N' hd'; (try dsimp only at N')))
  (k_with "k_ne_5" => ((refine neN ?_; (try dsimp only); first | (refine' dict_ne_tup (knd := PySem.strKind PySem.Challenge.rw_or0065_01.row.prog _) ?Nq143 ?aq143 ?bq143 ?cq143; (case Nq143 => assumption); (case aq143 => k_mem); (case bq143 => k_mem); (case cq143 => assumption)) | (refine' dict_ne_tup (knd := PySem.intKind PySem.Challenge.rw_or0065_01.row.prog _) ?Nq143 ?aq143 ?bq143 ?cq143; (case Nq143 => assumption); (case aq143 => k_mem); (case bq143 => k_mem); (case cq143 => assumption)) | (refine' Ne.symm (dict_ne_tup (knd := PySem.strKind PySem.Challenge.rw_or0065_01.row.prog _) ?Nq143 ?aq143 ?bq143 ?cq143); (case Nq143 => assumption); (case aq143 => k_mem); (case bq143 => k_mem); (case cq143 => assumption)) | (refine' Ne.symm (dict_ne_tup (knd := PySem.intKind PySem.Challenge.rw_or0065_01.row.prog _) ?Nq143 ?aq143 ?bq143 ?cq143); (case Nq143 => assumption); (case aq143 => k_mem); (case bq143 => k_mem); (case cq143 => assumption)))))
  (k_with "k_ne_6" => ((refine neN ?_; (try dsimp only); first | with_reducible assumption | exact Ne.symm (by with_reducible assumption))))
  trivial
-- 50b
section
variable {w : World} {D : Addr} {base : Led} {pks : List PK} {i : Nat} {m m' : Str → Option Value} {P I a C : Addr} {oP oP' o o2 oI oC : Obj} {kvP : List (Str × Value)} {PT : Addr} {oPT oPT' : Obj} {kvT : List (Str × Value)} {rest : Led} {x nm : Str} {ws : List Int} {n : Int} {e : Bool} {bw : Array UInt8} {g h' : Heap} {L' : Addr} {s1 : Shared} {tk0 : Nat}
noncomputable def TEnd (w : World) (D : Addr) (base : Led) (pks : List PK) (i : Nat) (g : Heap) (L' I : Addr) (oI : Obj) (s1 : Shared) (h' : Heap) (tk0 : Nat) : Prop :=
  ∃ h'' tk m'' nx, ({ s1 with heap := h', toks := tk0 } : Shared) = { s1 with heap := h'', toks := tk } ∧ Fr g L' h'' m'' ∧ News g L' h'' ((I, oI) :: nx) ∧ (∀ p ∈ nx, p.1 ≠ I) ∧ J1 w D base pks (i + 1) m'' nx
theorem end_pl_new {u : Tok} (f : J1F w D base pks i m P oP kvP PT oPT kvT rest) (hk : pks[i]? = some (.pl x ws)) (hq : lkp (stAt pks i).P x = none) (hoI : ∀ p ∈ (PT, oPT) :: (P, oP) :: rest, p.1 ≠ I) (F' : Fr g L' h' m') (N' : News g L' h' ((a, o) :: (I, oI) :: (PT, oPT) :: (P, oP') :: rest))
    (hd' : oP'.IsDictOf (SK w) (PySem.stored kvP x (.str (txt ws) u))) (hov' : OvrAll m' [(Str.ofString "pairs", .ref D), (Str.ofString "plain", .ref P), (Str.ofString "parted", .ref PT)]) : TEnd w D base pks i g L' I oI s1 h' tk0 :=
  ⟨_, _, _, (PT, oPT) :: (P, oP') :: rest, rfl, F', cb_drop N' (by kcj_in), offC (hoI _ (.head _)) (offC (hoI _ (.tail _ (.head _))) fun p hp => hoI p (.tail _ (.tail _ hp))), P, oP', _, PT, oPT, kvT, rest, f.pl_new hk hq hov' hd'⟩
theorem end_pl_old {z : Str} (f : J1F w D base pks i m P oP kvP PT oPT kvT rest) (hk : pks[i]? = some (.pl x ws)) (hq : lkp (stAt pks i).P x = some z) (hoI : ∀ p ∈ (PT, oPT) :: (P, oP) :: rest, p.1 ≠ I) (F' : Fr g L' h' m') (N' : News g L' h' ((a, o) :: (I, oI) :: (PT, oPT) :: (P, oP) :: rest))
    (hov' : OvrAll m' [(Str.ofString "pairs", .ref D), (Str.ofString "plain", .ref P), (Str.ofString "parted", .ref PT)]) : TEnd w D base pks i g L' I oI s1 h' tk0 :=
  ⟨_, _, _, (PT, oPT) :: (P, oP) :: rest, rfl, F', cb_drop N' (by kcj_in), hoI, P, oP, _, PT, oPT, kvT, rest, f.pl_old hk hq hov'⟩
theorem end_pt_new {C T a2 : Addr} {oC' : Obj} {t : Tok} (f : J1F w D base pks i m P oP kvP PT oPT kvT rest) (hk : pks[i]? = some (.pt nm x n e bw)) (hq : lkp (stAt pks i).R x = none) (hoI : ∀ p ∈ (PT, oPT) :: (P, oP) :: rest, p.1 ≠ I) (F' : Fr g L' h' m')
    (N' : News g L' h' ((T, tupOf [.bool e, .bytes bw t]) :: (C, oC') :: (a2, o2) :: (a, o) :: (I, oI) :: (PT, oPT') :: (P, oP) :: rest)) (hdT' : oPT'.IsDictOf (SK w) (PySem.stored kvT x (.ref C))) (hdC : oC'.IsDictOf (IK w) (PySem.stored [] n (.ref T))) (loC : (C == sysModules) = false)
    (l1 : a2 < C ∧ a < C ∧ I < C ∧ PT < C ∧ P < C ∧ AllLt C rest) (l2 : C < T ∧ a2 < T ∧ a < T ∧ I < T ∧ PT < T ∧ P < T ∧ AllLt T rest)
    (hov' : OvrAll m' [(Str.ofString "pairs", .ref D), (Str.ofString "plain", .ref P), (Str.ofString "parted", .ref PT)]) : TEnd w D base pks i g L' I oI s1 h' tk0 :=
  ⟨_, _, _, (PT, oPT') :: (P, oP) :: (C, oC') :: (T, tupOf [.bool e, .bytes bw t]) :: rest, rfl, F', cb_drop N' (by kcj_in),
    offC (hoI _ (.head _)) (offC (hoI _ (.tail _ (.head _))) (offC (Nat.ne_of_gt l1.2.2.1) (offC (Nat.ne_of_gt l2.2.2.2.1) fun p hp => hoI p (.tail _ (.tail _ hp))))), P, oP, _, PT, oPT', _, _,
    f.pt_new hk hq hov' hdT' loC hdC (Nat.ne_of_gt l1.2.2.2.2.1) (Nat.ne_of_gt l1.2.2.2.1) l1.2.2.2.2.2 (Nat.ne_of_gt l2.2.2.2.2.2.1) (Nat.ne_of_gt l2.2.2.2.2.1)⟩
theorem end_pt_add {C T a2 : Addr} {oC' : Obj} {kvC : List (Int × Value)} {t : Tok} {r : List IE} (f : J1F w D base pks i m P oP kvP PT oPT kvT rest) (hk : pks[i]? = some (.pt nm x n e bw)) (hq : lkp (stAt pks i).R x = some r) (hn : lkp r n = none) (hoI : ∀ p ∈ (PT, oPT) :: (P, oP) :: rest, p.1 ≠ I)
    (hv1 : lkp kvT x = some (.ref C)) (hCm : (C, oC) ∈ rest) (loC : (C == sysModules) = false) (hca : CellsA rest kvC r) (hC : ∀ vs, (C, tupOf vs) ∉ rest) (F' : Fr g L' h' m')
    (N' : News g L' h' ((T, tupOf [.bool e, .bytes bw t]) :: (a2, o2) :: (C, oC') :: (a, o) :: (I, oI) :: (PT, oPT) :: (P, oP) :: rest.filter fun p => decide (p.1 ≠ C))) (hdC : oC'.IsDictOf (IK w) (PySem.stored kvC n (.ref T))) (hTI : T ≠ I)
    (hov' : OvrAll m' [(Str.ofString "pairs", .ref D), (Str.ofString "plain", .ref P), (Str.ofString "parted", .ref PT)]) : TEnd w D base pks i g L' I oI s1 h' tk0 :=
  have hTP := Ne.symm (dict_ne_tup (a := T) N' (.tail _ (.tail _ (.tail _ (.tail _ (.tail _ (.tail _ (.head _))))))) (.head _) f.hdP)
  have hTPT := Ne.symm (dict_ne_tup (a := T) N' (.tail _ (.tail _ (.tail _ (.tail _ (.tail _ (.head _)))))) (.head _) f.hdT)
  ⟨_, _, _, (PT, oPT) :: (P, oP) :: (C, oC') :: (T, tupOf [.bool e, .bytes bw t]) :: rest.filter (fun p => decide (p.1 ≠ C)), rfl, F', cb_drop N' (by kcj_in),
    offC (hoI _ (.head _)) (offC (hoI _ (.tail _ (.head _))) (offC (hoI _ (.tail _ (.tail _ hCm))) (offC hTI (filter_off C fun p hp => hoI p (.tail _ (.tail _ hp)))))), P, oP, _, PT, oPT, _, _,
    f.pt_add hk hq hn hv1 hCm loC hca hC hov' hdC hTP hTPT⟩
theorem end_pt_old {a2 : Addr} {r : List IE} {e' : Bool × Array UInt8} (f : J1F w D base pks i m P oP kvP PT oPT kvT rest) (hk : pks[i]? = some (.pt nm x n e bw)) (hq : lkp (stAt pks i).R x = some r) (hn : lkp r n = some e') (hoI : ∀ p ∈ (PT, oPT) :: (P, oP) :: rest, p.1 ≠ I)
    (hCm : (C, oC) ∈ rest) (hrest : ∀ q ∈ rest, q ∈ (C, oC) :: rest.filter fun p => decide (p.1 ≠ C)) (F' : Fr g L' h' m')
    (N' : News g L' h' ((a2, o2) :: (C, oC) :: (a, o) :: (I, oI) :: (PT, oPT) :: (P, oP) :: rest.filter fun p => decide (p.1 ≠ C)))
    (hov' : OvrAll m' [(Str.ofString "pairs", .ref D), (Str.ofString "plain", .ref P), (Str.ofString "parted", .ref PT)]) : TEnd w D base pks i g L' I oI s1 h' tk0 :=
  ⟨_, _, _, (PT, oPT) :: (P, oP) :: (C, oC) :: rest.filter (fun p => decide (p.1 ≠ C)), rfl, F', cb_drop N' (by kcj_in),
    offC (hoI _ (.head _)) (offC (hoI _ (.tail _ (.head _))) (offC (hoI _ (.tail _ (.tail _ hCm))) (filter_off C fun p hp => hoI p (.tail _ (.tail _ hp))))), P, oP, _, PT, oPT, _, _,
    f.pt_old hk hq hn hCm hrest hov'⟩
end
theorem new_ne {g h : Heap} {L I : Addr} {oI : Obj} {news : Led} (N : News g L h news) (hm : (I, oI) ∈ news) : h.objs.size ≠ I := Nat.ne_of_gt (Heap.lt_size (N _ hm).1)
noncomputable def WfE (q : Str × List IE) : Prop := (q.1 = Str.ofString "c" ∧ ∀ p ∈ q.2, p = (0, (false, wC)) ∨ p = (1, (true, wP))) ∨ (q.1 = Str.ofString "d" ∧ ∀ p ∈ q.2, p = (0, (true, wU)))
theorem cd_ne : Str.ofString "c" ≠ Str.ofString "d" := by decide +kernel
theorem wf_addR {R : PR} {nm x : Str} {n : Int} {e : Bool} {bw : Array UInt8} (h : PtOk nm x n e bw) (hR : ∀ q ∈ R, WfE q) : ∀ q ∈ addR R x n (e, bw), WfE q := by
  have one : ∀ r : List IE, (∀ q : Str × List IE, q = (x, r) → WfE q) → WfE (x, r ++ [(n, (e, bw))]) := by
    intro r hr
    have hw := hr _ rfl
    rcases h with ⟨_, rfl, rfl, rfl, rfl⟩ | ⟨_, rfl, rfl, rfl, rfl⟩ | ⟨_, rfl, rfl, rfl, rfl⟩
    · rcases hw with ⟨_, hw⟩ | ⟨hw, _⟩
      · refine .inl ⟨rfl, fun p hp => ?_⟩
        rcases List.mem_append.mp hp with hp | hp
        · exact hw p hp
        · exact .inl (List.mem_singleton.mp hp)
      · exact absurd hw cd_ne
    · rcases hw with ⟨_, hw⟩ | ⟨hw, _⟩
      · refine .inl ⟨rfl, fun p hp => ?_⟩
        rcases List.mem_append.mp hp with hp | hp
        · exact hw p hp
        · exact .inr (List.mem_singleton.mp hp)
      · exact absurd hw cd_ne
    · rcases hw with ⟨hw, _⟩ | ⟨_, hw⟩
      · exact absurd hw.symm cd_ne
      · refine .inr ⟨rfl, fun p hp => ?_⟩
        rcases List.mem_append.mp hp with hp | hp
        · exact hw p hp
        · exact List.mem_singleton.mp hp
  have new : WfE (x, [(n, (e, bw))]) := by
    rcases h with ⟨_, rfl, rfl, rfl, rfl⟩ | ⟨_, rfl, rfl, rfl, rfl⟩ | ⟨_, rfl, rfl, rfl, rfl⟩
    · exact .inl ⟨rfl, fun p hp => .inl (List.mem_singleton.mp hp)⟩
    · exact .inl ⟨rfl, fun p hp => .inr (List.mem_singleton.mp hp)⟩
    · exact .inr ⟨rfl, fun p hp => List.mem_singleton.mp hp⟩
  intro q hq
  unfold addR at hq
  cases h1 : lkp R x with
  | none =>
    rw [h1] at hq
    rcases List.mem_append.mp hq with hq | hq
    · exact hR q hq
    · rw [List.mem_singleton.mp hq]; exact new
  | some r =>
    rw [h1] at hq
    cases h2 : lkp r n with
    | some _ => simp only [h2] at hq; exact hR q hq
    | none =>
      simp only [h2] at hq
      obtain ⟨p, hp, e1⟩ := List.mem_map.mp hq
      by_cases he : p.1 = x
      · rw [if_pos he] at e1
        rw [← e1, he]
        exact one r fun q hq => by rw [hq]; exact hR _ (lkp_mem h1)
      · rw [if_neg he] at e1
        rw [← e1]
        exact hR p hp
theorem wf_st {pks : List PK} (hok : ∀ k ∈ pks, k.Ok) (i : Nat) : ∀ q ∈ (stAt pks i).R, WfE q := by
  induction i with
  | zero => intro q hq; simp [stAt] at hq
  | succ i ih =>
    cases hk : pks[i]? with
    | none =>
      have : stAt pks (i + 1) = stAt pks i := by
        unfold stAt
        rw [List.take_add_one, hk]
        simp
      rw [this]
      exact ih
    | some k =>
      rw [stAt_succ hk]
      have hk' := hok k (List.mem_of_getElem? hk)
      cases k with
      | pl x ws =>
        show ∀ q ∈ (if (lkp (stAt pks i).P x).isSome then stAt pks i else _).R, WfE q
        split
        · exact ih
        · exact ih
      | pt nm x n e bw => exact wf_addR hk' ih
theorem wf_shape {x : Str} {r : List IE} {e0 : Bool × Array UInt8} (h : WfE (x, r)) (h0 : lkp r 0 = some e0) : (e0 = (false, wC) ∧ lkp r 1 = none) ∨ (e0 = (false, wC) ∧ lkp r 1 = some (true, wP) ∧ lkp r 2 = none) ∨ (e0 = (true, wU) ∧ lkp r 1 = none) := by
  have no : ∀ n, (∀ e, (n, e) ∉ r) → lkp r n = none := fun n hn => by
    cases q : lkp r n with
    | none => rfl
    | some e => exact absurd (lkp_mem q) (hn e)
  have m0 := lkp_mem h0
  rcases h with ⟨_, h⟩ | ⟨_, h⟩
  · have e0' : e0 = (false, wC) := by
      rcases h _ m0 with q | q
      · exact (Prod.mk.inj q).2
      · exact absurd (Prod.mk.inj q).1 (by decide)
    have n2 : lkp r 2 = none := no 2 fun e hm => by
      rcases h _ hm with q | q
      · exact absurd (Prod.mk.inj q).1 (by decide)
      · exact absurd (Prod.mk.inj q).1 (by decide)
    cases q : lkp r 1 with
    | none => exact .inl ⟨e0', rfl⟩
    | some e1 =>
      refine .inr (.inl ⟨e0', ?_, n2⟩)
      rcases h _ (lkp_mem q) with q | q
      · exact absurd (Prod.mk.inj q).1 (by decide)
      · rw [(Prod.mk.inj q).2]
  · refine .inr (.inr ⟨(Prod.mk.inj (h _ m0)).2, no 1 fun e hm => ?_⟩)
    exact absurd (Prod.mk.inj (h _ hm)).1 (by decide)
/-- the text of a parted parameter -/
noncomputable def jw (r : List IE) : Str := match lkp r 0 with
  | some (false, _) => if (lkp r 1).isSome then txt (KBw.bInts wCA) else txt (KBw.bInts wC)
  | _ => ⟨#[233]⟩
noncomputable def fin2 (P : List (Str × Str)) (q : Str × List IE) : List (Str × Str) := if (lkp q.2 0).isSome then putS P q.1 (jw q.2) else P
noncomputable def plAt (s : PSt) (i : Nat) : List (Str × Str) := (s.R.take i).foldl fin2 s.P
theorem plAt_succ {s : PSt} {i : Nat} {q : Str × List IE} (h : s.R[i]? = some q) : plAt s (i + 1) = fin2 (plAt s i) q := by
  unfold plAt
  rw [List.take_add_one, h]
  simp
theorem fin2_len (P : List (Str × Str)) (q : Str × List IE) : (fin2 P q).length ≤ P.length + 1 := by
  unfold fin2
  split
  · exact putS_len _ _ _
  · exact Nat.le_succ _
/-- what params_of makes of the pairs -/
noncomputable def parF (pks : List PK) : List (Str × Str) := plAt (stAt pks pks.length) (stAt pks pks.length).R.length
theorem lkp_of_get {α β : Type} [DecidableEq α] {l : List (α × β)} {i : Nat} {k : α} {v : β} (h : l[i]? = some (k, v)) (hn : (l.map (·.1)).Nodup) : lkp l k = some v := by
  induction l generalizing i with
  | nil => simp at h
  | cons q l ih =>
    obtain ⟨a, b⟩ := q
    rw [List.map_cons, List.nodup_cons] at hn
    rw [lkp_cons]
    cases i with
    | zero =>
      simp at h
      rw [if_pos h.1, h.2]
    | succ i =>
      have h' : l[i]? = some (k, v) := by simpa using h
      rw [if_neg, ih h' hn.2]
      rintro rfl
      exact hn.1 (List.mem_map.mpr ⟨_, List.mem_of_getElem? h', rfl⟩)
-- 51
theorem reg_p51 : True := by
  (k_with "call ref" => (guard_hyp tag51 : True; (k_here; (try dsimp only [List.nil_append, List.cons_append, List.append_nil]); (with_reducible show wpAny _ _ (call (Value.ref 402) [Value.ref _]) _ _ _); k_dflt (refine' MC.use2 (joined_c _ _ _ _ _ _ _ ?p1q145 ?p2q145 ?p3q145 ?p4q145) ?Bq145 ?Fq145 ?Xq145 ?Nq145 ?Tq145 ?hkq145 ?hdq145 ?hunq145 ?_; (case Bq145 => k_asm); (case Fq145 => k_asm); (case Xq145 => k_asm); (case Nq145 => k_asm); (case Tq145 => k_asm); (case hkq145 => first | exact rfl | assumption); (case p1q145 => assumption); (case p2q145 => assumption); (case p3q145 => assumption); (case p4q145 => assumption); (case hdq145 => ktr_room); (case hunq145 => ktr_units)); intro u9 h9 tk9 F9 N9;  (try k_sweep); (try dsimp only); (try k_extra "kfold"))))
  (k_with "call ref" => (guard_hyp tag51 : True; (k_here; (try dsimp only [List.nil_append, List.cons_append, List.append_nil]); (with_reducible show wpAny _ _ (call (Value.ref 402) [Value.ref _]) _ _ _); k_dflt (refine' MC.use2 (joined_ca _ _ _ _ _ _ _ _ _ ?p1q146 ?p2q146 ?p3q146 ?p4q146 ?p5q146) ?Bq146 ?Fq146 ?Xq146 ?Nq146 ?Tq146 ?hkq146 ?hdq146 ?hunq146 ?_; (case Bq146 => k_asm); (case Fq146 => k_asm); (case Xq146 => k_asm); (case Nq146 => k_asm); (case Tq146 => k_asm); (case hkq146 => first | exact rfl | assumption); (case p1q146 => assumption); (case p2q146 => assumption); (case p3q146 => assumption); (case p4q146 => assumption); (case p5q146 => assumption); (case hdq146 => ktr_room); (case hunq146 => ktr_units)); intro u9 h9 tk9 F9 N9;  (try k_sweep); (try dsimp only); (try k_extra "kfold"))))
  (k_with "call ref" => (guard_hyp tag51 : True; (k_here; (try dsimp only [List.nil_append, List.cons_append, List.append_nil]); (with_reducible show wpAny _ _ (call (Value.ref 402) [Value.ref _]) _ _ _); k_dflt (refine' MC.use2 (joined_d _ _ _ _ _ _ _ ?p1q147 ?p2q147 ?p3q147 ?p4q147) ?Bq147 ?Fq147 ?Xq147 ?Nq147 ?Tq147 ?hkq147 ?hdq147 ?hunq147 ?_; (case Bq147 => k_asm); (case Fq147 => k_asm); (case Xq147 => k_asm); (case Nq147 => k_asm); (case Tq147 => k_asm); (case hkq147 => first | exact rfl | assumption); (case p1q147 => assumption); (case p2q147 => assumption); (case p3q147 => assumption); (case p4q147 => assumption); (case hdq147 => ktr_room); (case hunq147 => ktr_units)); intro u9 h9 tk9 F9 N9;  (try k_sweep); (try dsimp only); (try k_extra "kfold"))))
  trivial
theorem news_cell {h₀ h : Heap} {L a : Addr} {o : Obj} {l : Led} (N : News h₀ L h l) (hm : (a, o) ∈ l) : News h₀ L h ((a, o) :: l) := by
  intro p hp
  rcases List.mem_cons.mp hp with rfl | hp
  · exact N _ hm
  · exact N _ hp
inductive J51 (w : World) (st : PSt) (PT P : Addr) (oPT : Obj) (rest : Led) : Nat → (Str → Option Value) → Led → Prop
  | mk {i : Nat} {m : Str → Option Value} (oP' : Obj) (kvP' : List (Str × Value)) (hov' : OvrAll m [(Str.ofString "plain", .ref P), (Str.ofString "parted", .ref PT)]) (hdP' : oP'.IsDictOf (SK w) kvP') (hsp' : StrPs kvP' (plAt st i)) (hl' : kvP'.length ≤ 200 + i) :
      J51 w st PT P oPT rest i m ((PT, oPT) :: (P, oP') :: rest)
section
variable {w : World} {D P PT I : Addr} {oP oP' oPT oI : Obj} {kvP' : List (Str × Value)} {rest base l : Led} {i : Nat} {x : Str} {r : List IE} {st : PSt} {g h' : Heap} {L' : Addr} {m' : Str → Option Value} {s1 : Shared} {tk0 : Nat}
theorem end2_no (hR : st.R[i]? = some (x, r)) (h0 : lkp r 0 = none) (hsp : StrPs kvP' (plAt st i)) (hd : oP'.IsDictOf (SK w) kvP') (hl : kvP'.length ≤ 200 + i) (hoI : ∀ p ∈ (PT, oPT) :: (P, oP') :: rest, p.1 ≠ I) (F' : Fr g L' h' m') (N' : News g L' h' l) (hs : ∀ q ∈ (I, oI) :: (PT, oPT) :: (P, oP') :: rest, q ∈ l)
    (hov : OvrAll m' [(Str.ofString "plain", .ref P), (Str.ofString "parted", .ref PT)]) :
    ∃ h'' tk m'' nx, ({ s1 with heap := h', toks := tk0 } : Shared) = { s1 with heap := h'', toks := tk } ∧ Fr g L' h'' m'' ∧ News g L' h'' ((I, oI) :: nx) ∧ (∀ p ∈ nx, p.1 ≠ I) ∧
      J51 w st PT P oPT rest (i + 1) m'' nx := by
  refine ⟨_, _, _, (PT, oPT) :: (P, oP') :: rest, rfl, F', cb_drop N' hs, hoI, oP', kvP', hov, hd, ?_, by omega⟩
  rw [plAt_succ hR]
  unfold fin2
  rw [if_neg (by rw [h0]; exact Bool.false_ne_true)]
  exact hsp
theorem end2_yes {oP'' : Obj} {e0 : Bool × Array UInt8} {z : Str} {u : Tok} (hR : st.R[i]? = some (x, r)) (h0 : lkp r 0 = some e0) (hsp : StrPs kvP' (plAt st i)) (hl : kvP'.length ≤ 200 + i) (hoI : ∀ p ∈ (PT, oPT) :: (P, oP') :: rest, p.1 ≠ I) (hd : oP''.IsDictOf (SK w) (PySem.stored kvP' x (.str z u))) (hz : jw r = z) (F' : Fr g L' h' m') (N' : News g L' h' ((I, oI) :: (PT, oPT) :: (P, oP'') :: rest))
    (hov : OvrAll m' [(Str.ofString "plain", .ref P), (Str.ofString "parted", .ref PT)]) :
    ∃ h'' tk m'' nx, ({ s1 with heap := h', toks := tk0 } : Shared) = { s1 with heap := h'', toks := tk } ∧ Fr g L' h'' m'' ∧ News g L' h'' ((I, oI) :: nx) ∧ (∀ p ∈ nx, p.1 ≠ I) ∧
      J51 w st PT P oPT rest (i + 1) m'' nx := by
  have hl2 := stored_len kvP' x (.str z u)
  refine ⟨_, _, _, (PT, oPT) :: (P, oP'') :: rest, rfl, F', N', offC (hoI _ (.head _)) (offC (hoI _ (.tail _ (.head _))) fun p hp => hoI p (.tail _ (.tail _ hp))), oP'', _, hov, hd, ?_, by omega⟩
  rw [plAt_succ hR]
  unfold fin2
  rw [if_pos (by rw [h0]; rfl), hz]
  exact hsp.stored
theorem fin_params {h₀ h : Heap} {L : Addr} (N : News h₀ L h ((PT, oPT) :: (P, oP) :: rest)) (hb : ∀ q ∈ base, q ∈ rest) : News h₀ L h ((P, oP) :: base) := by
  intro p hp
  rcases List.mem_cons.mp hp with rfl | hp
  · exact N _ (.tail _ (.head _))
  · exact N _ (.tail _ (.tail _ (hb _ hp)))
end
inductive PYes (w : World) (l : Led) (kv : List (Str × Value)) (x : Str) (r : List IE) : Prop
  | mk (C : Addr) (oC : Obj) (kvC : List (Int × Value)) (hv1 : lkp kv x = some (.ref C)) (hCm : (C, oC) ∈ l) (loC : (C == sysModules) = false) (hdC : oC.IsDictOf (IK w) kvC) (hca : CellsA l kvC r)
theorem PYes.of {w : World} {l : Led} {kv : List (Str × Value)} {x : Str} {r : List IE} (h : ∃ v, lkp kv x = some v ∧ InnerIs w l v r) : PYes w l kv x r := by
  obtain ⟨v, hv, C, oC, kvC, rfl, h1, h2, h3, h4⟩ := h
  exact ⟨C, oC, kvC, hv, h1, h2, h3, h4⟩
inductive PAt (w : World) (l : Led) (R : PR) (i : Nat) (x : Str) : Value → Prop
  | mk (r : List IE) (C : Addr) (oC : Obj) (kvC : List (Int × Value)) (hR : R[i]? = some (x, r)) (hCm : (C, oC) ∈ l) (loC : (C == sysModules) = false) (hdC : oC.IsDictOf (IK w) kvC) (hca : CellsA l kvC r) : PAt w l R i x (.ref C)
theorem PAt.of {w : World} {l : Led} {R : PR} {i : Nat} {x : Str} {v : Value} (h : ∃ r, R[i]? = some (x, r) ∧ InnerIs w l v r) : PAt w l R i x v := by
  obtain ⟨r, hv, C, oC, kvC, rfl, h1, h2, h3, h4⟩ := h
  exact ⟨r, C, oC, kvC, hv, h1, h2, h3, h4⟩
set_option maxHeartbeats 8000000 in
theorem params_of (w : World) (D : Addr) (vs : List Value) (k0 : Nat) (tl rest0 : Led) (pks : List PK) (hok : ∀ k ∈ pks, k.Ok) (hlen : pks.length ≤ 100) (hpa : PairsAre tl vs (pks.map PK.pair)) :
    MC w 409 [.ref D] ((D, listOf vs.toArray k0) :: (tl ++ rest0)) 14 160 (fun v n' => ∃ P oP kvP, v = .ref P ∧ n' = (P, oP) :: (D, listOf vs.toArray k0) :: (tl ++ rest0) ∧ (P == sysModules) = false ∧ (∀ p ∈ (D, listOf vs.toArray k0) :: (tl ++ rest0), p.1 ≠ P) ∧ oP.IsDictOf (SK w) kvP ∧ StrPs kvP (parF pks)) := by
  have tag51 : True := trivial
  intro mean mg mb dp un gd cn cs a ccd cl outer A₀ base h₀ L m hp0 gs0 dr0 tk0 os0 Q E B F X N T hkk hd hu hret
  have hvl : vs.length = pks.length := by rw [hpa.len, List.length_map]
  (k_with "exec For Tuple Name cons nil" => (guard_hyp tag51 : True; ((rename Fr _ _ _ _ => lF'); (with_reducible refine' For_turns ?F ?_ ?hs ?hE; (case F => k_dflt (exact lF')); (case hs => k_dflt ((intro _; rfl))); (case hE => k_dflt passes_own); k_whole))))
  k_with "pyIter ref" => (
    guard_hyp tag51 : True
    rename Fr _ _ _ _ => lF
    rename News _ _ _ _ => lN
    rename _ ∧ _ ∧ AllLt _ _ => lA
    rename _ ∧ AllLt _ _ => lB
    with_unfolding_all refine list_turns (vs := vs) (k := k0) rfl lF lN (by k_mem) (J1 w D ((D, listOf vs.toArray k0) :: (tl ++ rest0)) pks) ?_ ?_ ?_ ?_
    focus (with_unfolding_all exact ⟨_, _, [], _, _, [], _, ⟨rfl, rfl, rfl, trivial⟩, by assumption, .nil, by assumption, .nil, List.nodup_nil, fun _ h => h, Nat.ne_of_lt lA.1, offC (Nat.ne_of_lt lB.1) (allLt_ne lB.2), offC (Nat.ne_of_lt lA.2.1) (allLt_ne lA.2.2), by assumption, by assumption, Nat.le_refl 0, Nat.le_refl 0, fun q hq => (nomatch hq), fun _ _ p hp => (nomatch hp)⟩)
    focus (exact fun i m nx hj => hj.base _ (List.mem_cons_self ..))
    rotate_left
    focus (
      intro m₁ nx h₁ tk₁ hJ F₁ N₁
      rw [hvl] at hJ
      obtain ⟨P, oP, kvP, PT, oPT, kvT, rest, f⟩ := hJ
      have hov := f.hov; have hdP := f.hdP; have hdT := f.hdT; have loP := f.loP; have loPT := f.loPT; have hPPT := f.hPPT
      replace F₁ : Fr _ _ h₁ (fun y => if y = Str.ofString "pairs" then some (Value.ref D) else if y = Str.ofString "plain" then some (Value.ref P) else if y = Str.ofString "parted" then some (Value.ref PT) else m₁ y) := fr_ovr F₁ _ hov)
    rotate_left
    focus (
      clear lF lN lA lB
      intro I i v m₁ nx oI h₁ tk₁ hv hJ hoI F₁ N₁
      obtain ⟨P, oP, kvP, PT, oPT, kvT, rest, f⟩ := hJ
      have hov := f.hov; have hdP := f.hdP; have hsp := f.hsp; have hdT := f.hdT; have hpt := f.hpt; have hbase := f.hbase; have hPPT := f.hPPT; have hrP := f.hrP; have hrPT := f.hrPT; have loP := f.loP; have loPT := f.loPT; have hl1 := f.hl1; have hl2 := f.hl2; have hl3 := f.hl3
      rcases turn_cases hok hpa hv with ⟨a, t1, t2, x, ws, b, hk, ⟨hx, hall, hz⟩, hm, hb⟩ | ⟨a, t1, t2, nm, x, n, e, bw, hk, hpk, hm⟩
      all_goals (
        have hi9 := getElem_lt hk
        replace F₁ : Fr _ _ h₁ (fun y => if y = Str.ofString "pairs" then some (Value.ref D) else if y = Str.ofString "plain" then some (Value.ref P) else if y = Str.ofString "parted" then some (Value.ref PT) else m₁ y) := fr_ovr F₁ _ hov
        have hma := hbase _ (List.mem_cons_of_mem _ (List.mem_append_left rest0 hm))
        have haP : a ≠ P := hrP _ hma
        have haPT : a ≠ PT := hrPT _ hma
        have hIP : I ≠ P := (hoI _ (List.mem_cons_of_mem _ (List.mem_cons_self ..))).symm
        have hIPT : I ≠ PT := (hoI _ (List.mem_cons_self ..)).symm
        have hIa : I ≠ a := (hoI _ (List.mem_cons_of_mem _ (List.mem_cons_of_mem _ hma))).symm
        replace N₁ := news_front N₁ (List.mem_cons_of_mem _ (List.mem_cons_of_mem _ hma))
        have hlP := hsp.len
        have hlT := hpt.len)
      focus (
        rcases hq : lkp (stAt pks i).P x with _ | z
        focus (have hv0 := isSome_f (hsp.lk.1 hq))
        rotate_left
        focus (obtain ⟨t, ht⟩ := hsp.lk.2 z hq; have hv0 := isSome_t ht)
        rotate_left)
      rotate_left 2
      rcases hq : lkp (stAt pks i).R x with _ | r
      focus (have hv0 := isSome_f (hpt.no hq))
      rotate_left
      obtain ⟨C, oC, kvC, hv1, hCm, loC, hdC, hca⟩ := PYes.of (hpt.yes hq)
      have hCP : C ≠ P := hrP _ hCm
      have hCPT : C ≠ PT := hrPT _ hCm
      have hIC : I ≠ C := (hoI _ (List.mem_cons_of_mem _ (List.mem_cons_of_mem _ hCm))).symm
      have hCa := dict_ne_tup N₁ (.tail _ (.tail _ (.tail _ (.tail _ hCm)))) (.head _) hdC
      have hCt := fun vs => dict_not_tup (rest := rest) N₁ (fun q hq => .tail _ (.tail _ (.tail _ (.tail _ hq)))) hCm hdC vs
      have hrs := rest_split N₁ hCm
      replace N₁ := news_inner N₁ hCm
      have hf1 := filter_ne rest C
      have hf2 := filter_off C hrP
      have hf3 := filter_off C hrPT
      have hlC := hca.len
      have hr9 : r.length ≤ i := hl3 _ (lkp_mem hq)
      have hv0 := isSome_t hv1
      rcases hn : lkp r n with _ | e'
      focus (have hn0 := isSome_f (hca.no hn))
      rotate_left
      focus (obtain ⟨v2, hv2, _⟩ := hca.yes hn; have hn0 := isSome_t hv2)
      rotate_left))
  k_with "pyIter ref" => (
    guard_hyp tag51 : True
    rename Fr _ _ _ _ => lF
    rename News _ _ _ _ => lN
    with_unfolding_all refine dict_turns (knd := PySem.strKind _ _) (od := oPT) (kvs := kvT) rfl lF lN (by k_mem) loPT hdT (J51 w (stAt pks pks.length) PT P oPT rest) ?_ ?_ ?_ ?_
    focus (with_unfolding_all exact ⟨oP, kvP, ⟨rfl, rfl, trivial⟩, hdP, f.hsp, by (have h1 := f.hl1; have h2 := f.hsp.len; omega)⟩)
    focus (rintro i m nx ⟨⟩; exact List.mem_cons_self ..)
    rotate_left
    focus (
      rintro m₁ nx h₁ tk₁ ⟨oP', kvP', hov', hdP', hsp', hl'⟩ F₁ N₁
      replace F₁ : Fr _ _ h₁ (fun y => if y = Str.ofString "plain" then some (Value.ref P) else if y = Str.ofString "parted" then some (Value.ref PT) else m₁ y) := fr_ovr F₁ _ hov')
    rotate_left
    clear lF lN
    rintro I i v x y m₁ nx oI h₁ tk₁ hx hkx ⟨oP', kvP', hov', hdP', hsp', hl'⟩ hoI F₁ N₁
    obtain ⟨t, rfl⟩ := PySem.Value.isStrOf_shape hkx
    obtain ⟨r, C, oC, kvC, hR, hCm, loC, hdC, hca⟩ := PAt.of (f.hpt.at hx)
    have hv1 := lkp_of_get hx (keys_nodup hdT)
    have hv0 := isSome_t hv1
    have hwf := wf_st hok _ _ (List.mem_of_getElem? hR)
    have hi9 := getElem_lt hR
    have hl2 := f.hl2
    have hCP : C ≠ P := f.hrP _ hCm
    have hIP : I ≠ P := (hoI _ (List.mem_cons_of_mem _ (List.mem_cons_self ..))).symm
    have hrP := f.hrP
    have hlP := hsp'.len
    replace F₁ : Fr _ _ h₁ (fun y => if y = Str.ofString "plain" then some (Value.ref P) else if y = Str.ofString "parted" then some (Value.ref PT) else m₁ y) := fr_ovr F₁ _ hov'
    have hmC := List.mem_cons_of_mem (I, oI) (List.mem_cons_of_mem (PT, oPT) (List.mem_cons_of_mem (P, oP') hCm))
    rcases h0 : lkp r 0 with _ | e0
    focus (have hn0 := isSome_f (hca.no h0); replace N₁ := news_cell N₁ hmC)
    rotate_left
    obtain ⟨v0, hw0, T0, t0, rfl, hm0⟩ := hca.yes h0
    have hn0 := isSome_t hw0
    have hT0P : T0 ≠ P := f.hrP _ hm0
    have hmT := List.mem_cons_of_mem (I, oI) (List.mem_cons_of_mem (PT, oPT) (List.mem_cons_of_mem (P, oP') hm0))
    rcases wf_shape hwf h0 with ⟨rfl, h1⟩ | ⟨rfl, h1, h2⟩ | ⟨rfl, h1⟩
    focus (have hw1 := hca.no h1; replace N₁ := news_cell (news_cell N₁ hmT) (List.mem_cons_of_mem _ hmC))
    rotate_left
    focus (
      obtain ⟨v2, hw1, T1, t1, rfl, hm1⟩ := hca.yes h1
      have hw2 := hca.no h2
      have hT1P : T1 ≠ P := f.hrP _ hm1
      have hmT1 := List.mem_cons_of_mem (I, oI) (List.mem_cons_of_mem (PT, oPT) (List.mem_cons_of_mem (P, oP') hm1))
      replace N₁ := news_cell (news_cell (news_cell N₁ hmT1) (List.mem_cons_of_mem _ hmT)) (List.mem_cons_of_mem _ (List.mem_cons_of_mem _ hmC)))
    rotate_left
    focus (have hw1 := hca.no h1; replace N₁ := news_cell (news_cell N₁ hmT) (List.mem_cons_of_mem _ hmC))
    rotate_left)
  (k_with "exec For Name Name cons nil" => (guard_hyp tag51 : True; ((rename Fr _ _ _ _ => lF'); (with_reducible refine' For_turns ?F ?_ ?hs ?hE; (case F => k_dflt (exact lF')); (case hs => k_dflt ((intro _; rfl))); (case hE => k_dflt passes_own); k_whole))))
  k_extra "mc_enter"
  k_steps
  · exact end_pl_new (s1 := ⟨hp0, gs0, dr0, tk0, os0⟩) f hk hq hoI (by assumption) (by assumption) (by assumption) (by exact ⟨rfl, rfl, rfl, trivial⟩)
  · exact end_pl_old (s1 := ⟨hp0, gs0, dr0, tk0, os0⟩) f hk hq hoI (by assumption) (by assumption) (by exact ⟨rfl, rfl, rfl, trivial⟩)
  · exact end_pt_new (s1 := ⟨hp0, gs0, dr0, tk0, os0⟩) f hk hq hoI (by assumption) (by assumption) (by assumption) (by assumption) (by assumption) (by assumption) (by assumption) (by exact ⟨rfl, rfl, rfl, trivial⟩)
  · exact end_pt_add (s1 := ⟨hp0, gs0, dr0, tk0, os0⟩) f hk hq hn hoI hv1 hCm loC hca hCt (by assumption) (by assumption) (by assumption) (by exact new_ne (by assumption) (by k_mem)) (by exact ⟨rfl, rfl, rfl, trivial⟩)
  · exact end_pt_old (s1 := ⟨hp0, gs0, dr0, tk0, os0⟩) f hk hq hn hoI hCm hrs (by assumption) (by assumption) (by exact ⟨rfl, rfl, rfl, trivial⟩)
  · refine hret _ _ _ _ ⟨P, oP', kvP', rfl, rfl, loP, fun p hp => f.hrP p (f.hbase p hp), hdP', ?_⟩ (by k_asm) (fin_params (by assumption) f.hbase)
    unfold parF
    rw [← f.hpt.len]
    exact hsp'
  · exact end2_no (s1 := ⟨hp0, gs0, dr0, tk0, os0⟩) hR h0 hsp' hdP' hl' hoI (by assumption) (by assumption) (by kcj_in) (by exact ⟨rfl, rfl, trivial⟩)
  · exact end2_yes (s1 := ⟨hp0, gs0, dr0, tk0, os0⟩) hR h0 hsp' hl' hoI (by assumption) (by unfold jw; rw [h0, h1]; rfl) (by assumption) (cb_drop (by assumption) (by kcj_in)) (by exact ⟨rfl, rfl, trivial⟩)
  · exact end2_yes (s1 := ⟨hp0, gs0, dr0, tk0, os0⟩) hR h0 hsp' hl' hoI (by assumption) (by unfold jw; rw [h0, h1]; rfl) (by assumption) (cb_drop (by assumption) (by kcj_in)) (by exact ⟨rfl, rfl, trivial⟩)
  · exact end2_yes (s1 := ⟨hp0, gs0, dr0, tk0, os0⟩) hR h0 hsp' hl' hoI (by assumption) (by unfold jw; rw [h0]) (by assumption) (cb_drop (by assumption) (by kcj_in)) (by exact ⟨rfl, rfl, trivial⟩)
-- 52
theorem strs_of {prog : Program} {w : World} {vs : List Value} {kvs : List (Str × Value)} (hl : vs.length = kvs.length) (h : ∀ (j : Nat) (v : Value), vs[j]? = some v → ∃ k x, kvs[j]? = some (k, x) ∧ (PySem.strKind prog w).is k v = true) : StrsAre vs (kvs.map (·.1)) := by
  induction vs generalizing kvs with
  | nil =>
    cases kvs with
    | nil => exact .nil
    | cons _ _ => cases hl
  | cons v vs ih =>
    cases kvs with
    | nil => cases hl
    | cons p kvs =>
      obtain ⟨k, x, e, hk⟩ := h 0 v rfl
      cases e
      obtain ⟨t, rfl⟩ := PySem.Value.isStrOf_shape hk
      exact .cons _ t (ih (Nat.succ.inj hl) fun j u hu => h (j + 1) u hu)
theorem sorted_dict {prog : Program} {w : World} {A : Around} {E : Value → Shared → Prop} {s : Shared} {h₀ : Heap} {L P : Addr} {m : Str → Option Value} {news : Led} {oP : Obj} {kvs : List (Str × Value)} {Q : Value → Shared → Prop}
    (hh : A.handled = none) (F : Fr h₀ L s.heap m) (N : News h₀ L s.heap news) (hp : (P, oP) ∈ news) (hd : oP.IsDictOf (PySem.strKind prog w) kvs) (lo : (P == sysModules) = false) (hsz : kvs.length < 64)
    (h : ∀ D h' tk vs ss n, Fr h₀ L h' m → News h₀ L h' ((D, listOf vs.toArray n) :: news) → (∀ q ∈ news, q.1 < D) → StrsAre vs ss → ss.Perm (kvs.map (·.1)) → sortedS ss = true → Q (.ref D) { s with heap := h', toks := tk }) :
    wpAny (model prog w) A (call (.builtin "sorted") [.ref P]) Q E s := by
  obtain ⟨ep, hat⟩ := (kda_dict N hp hd).dictAt
  refine kdu_sorted (kdl_dict (knd := PySem.strKind prog w) (kvs := kvs) (ep := ep) lo) hh F N hat (by rw [sizeLine_eq]; omega) fun D h' tk vs F' N' l1 hl hv => ?_
  have hS := strs_of (prog := prog) (w := w) (kvs := kvs) hl hv
  have z := N' (D, listOf vs.toArray 0) (.head _)
  have hlen : vs.length < 64 := by rw [hl]; exact hsz
  refine wpAny_call_entry PyProof.Rows.slot_list_sort ⟨_, z.1, rfl⟩ PyProof.Rows.entry_list_sort (list_sort_treeK strKind_oneLt (n := 0) (vs := vs) z.1 hS.keysOf (fun v₁ v₂ rest e => keyKind_strs (by rw [← e]; exact hS)) hlen fun st' hp' hs' => ⟨.none, rfl, ?_⟩) (PyProof.Rows.args_list_sort _)
  obtain ⟨ss, h1, h2, h3⟩ := sorted_out_str hS hp' hs'
  obtain ⟨e, he⟩ := sortedHeap_at (out := (arrOf st').map (·.2)) z.1
  have old : ∀ b o, b ≠ D → h'.get? b = some o → (sortedHeap h' D vs ((arrOf st').map (·.2))).get? b = some o := fun b o hb ho => by
    rw [sortedHeap_old hb (Heap.lt_size ho)]
    exact ho
  have hLD : L ≠ D := fun e => z.2.1 e.symm
  refine h D _ tk ((arrOf st').map (·.2)).toList ss e ⟨?_, ?_, F'.above⟩ ?_ l1 h1 h2 h3
  · exact F'.ns.at' fun o ho => old L o hLD ho
  · intro b o hb
    refine old b o ?_ (F'.keep b o hb)
    rintro rfl
    rw [z.2.2] at hb
    cases hb
  · intro p hp
    rcases List.mem_cons.mp hp with rfl | hp
    · refine ⟨?_, z.2⟩
      exact he
    · exact ⟨old _ _ (Nat.ne_of_lt (l1 p hp)) (N' p (.tail _ hp)).1, (N' p (.tail _ hp)).2⟩
theorem ltCps_total {a b : List Nat} (h1 : PySem.Spec.ltCps a b = false) (h2 : PySem.Spec.ltCps b a = false) : a = b := by
  rw [ltCps_eq] at h1 h2
  simp only [decide_eq_false_iff_not] at h1 h2
  exact List.le_antisymm (by simpa using h2) (by simpa using h1)
theorem sortedS_pairwise : ∀ {l : List Str}, sortedS l = true → l.Pairwise (fun a b => PySem.Spec.ltCps b.cps.toList a.cps.toList = false) := by
  have go : ∀ (l : List Str) (p : Str), risingS p l = true → (p :: l).Pairwise (fun a b => PySem.Spec.ltCps b.cps.toList a.cps.toList = false) := by
    intro l
    induction l with
    | nil => intro p _; simp
    | cons x r ih =>
      intro p h
      have h' : (!PySem.Spec.ltCps x.cps.toList p.cps.toList && risingS x r) = true := h
      simp only [Bool.and_eq_true, Bool.not_eq_true'] at h'
      have hx := ih x h'.2
      rw [List.pairwise_cons]
      refine ⟨?_, hx⟩
      intro y hy
      rcases List.mem_cons.mp hy with rfl | hy
      · exact h'.1
      · have h3 := (List.pairwise_cons.mp hx).1 y hy
        have h1 := h'.1
        rw [ltCps_eq] at h1 h3 ⊢
        simp only [decide_eq_false_iff_not] at h1 h3 ⊢
        exact List.not_lt.mpr (List.le_trans (List.not_lt.mp h1) (List.not_lt.mp h3))
  intro l h
  cases l with
  | nil => exact .nil
  | cons p l => exact go l p h
theorem sorted_uniq : ∀ {a b : List Str}, a.Perm b → sortedS a = true → sortedS b = true → a = b := by
  intro a b p ha hb
  exact p.eq_of_pairwise (fun x y _ _ h1 h2 => by
    have := ltCps_total h2 h1
    cases x; cases y
    simp only [Str.mk.injEq]
    exact Array.toList_inj.mp this) (sortedS_pairwise ha) (sortedS_pairwise hb)
-- 53
theorem reg_p53 : True := by
  (k_with "mcc_enter" => (guard_hyp tag53 : True; (refine wpAny_call ?_; k_dflt (refine' code_defC ?k1q148 ?k2q148 ?k3q148 ?k4q148 ?k5q148 ?kAq148 ?kFq148 ?kKq148 ?k6q148 ?k7q148 ?k8q148 ?k9q148 ?kBq148 ?kDq148 ?_ ?c2q148 ?c3q148 ?c4q148; (case kAq148 => exact rfl); (case kFq148 => exact rfl); (case kKq148 => assumption); (case k1q148 => k_asm); (case k2q148 => k_asm); (case k3q148 => k_asm); (case k4q148 => k_asm); (case k5q148 => k_asm); (case k6q148 => k_is); (case k7q148 => k_is); (case k8q148 => ktr_room); (case k9q148 => first | exact BindsTo.of_eq rfl | exact binds_K (by k_in) rfl (by k_is) rfl rfl rfl); (case kBq148 => exact rfl); (case kDq148 => decide +kernel); (case c2q148 => exact rfl); (case c3q148 => exact rfl); (case c4q148 => exact rfl); k_whole); intro g' L' h' tk' cells' FG' F' N' Y' B' X' T' l1; (try k_lt l1); k_cells Y'; (try simp only [List.cons_append, List.nil_append] at N'); (try dsimp only); (try k_lift B'); (try k_extra "kfold"))))
  (k_with "call builtin:sorted" => (guard_hyp tag53 : True; (k_here; k_dflt (refine' sorted_dict rfl ?Fq149 ?Nq149 ?pq149 ?dq149 ?loq149 ?zq149 ?_; (case Fq149 => k_asm); (case Nq149 => k_asm); (case pq149 => k_mem); (case dq149 => assumption); (case loq149 => assumption); (case zq149 => omega)); intro D' h' tk' vs' ss' n' F' N' l1 hS' hp' hs'; (try k_lt l1); (try k_sweep))))
  (k_with "eval ListComp" => (guard_hyp tag53 : True; (k_here; k_dflt (refine LCg.ListComp_U (F₀ := by k_asm) (by with_unfolding_all rfl) (by decide) (by rfl) (by decide) (by rfl) ?_))))
  (k_with "call type:tuple" => (guard_hyp tag53 : True; (k_here; (with_reducible show wpAny _ _ (call (Value.type _) [Value.ref _]) _ _ _); k_dflt (refine' kde_tupleOf ?k1q151 ?k2q151 ?k3q151 ?k4q151 ?k5q151 ?_; (case k1q151 => k_asm); (case k2q151 => k_asm); (case k3q151 => exact News.isList (by k_asm) (by k_mem)); (case k4q151 => (rw [List.size_toArray]; omega)); (case k5q151 => exact List.toList_toArray); k_whole); intro D' h' F' N' l1; (try k_lt l1); (try k_sweep))))
  trivial
noncomputable abbrev kindD (P : Params) (top sub : Str) (pr : Addr) (k1 k2 k3 t1 t2 : Tok) : Obj :=
  dictOf [⟨PyData.keyHash P (Str.ofString "top"), .str (Str.ofString "top") k1, .str top t1⟩, ⟨PyData.keyHash P (Str.ofString "sub"), .str (Str.ofString "sub") k2, .str sub t2⟩, ⟨PyData.keyHash P (Str.ofString "params"), .str (Str.ofString "params") k3, .ref pr⟩] 3
noncomputable def valS (pl : List (Str × Str)) (x : Str) : Str := (lkp pl x).getD ⟨#[]⟩
noncomputable def pairD (pl : List (Str × Str)) (x : Str) : Dat := .tuple [.str x, .str (valS pl x)]
noncomputable def toldD (top sub : Str) (pl : List (Str × Str)) (ss : List Str) : Dat := .tuple [.str top, .str sub, .tuple (ss.map (pairD pl))]
section
variable {prog : Program} {w : World} {A : Around} {s : Shared} {h₀ : Heap} {L : Addr} {m : Str → Option Value} {env : Env} {elt : Expr} {x : Str} {scope : Scope} {cl : List (Str × Addr)} {Q : Value → Shared → Prop}
theorem told_rest {ax : Addr} {vs : List Value} {k : Nat} {news0 : Led} {pl : List (Str × Str)} {ss : List Str} (hS : StrsAre vs ss) (hm : (ax, listOf vs.toArray k) ∈ news0)
    (turn : ∀ z t I oI C oC D m₂ ys tls h tk (E' : Value → Shared → Prop), z ∈ ss → LCg.NsObj oC m₂ → m₂ x = some (.str z t) → Fr h₀ L h m → News h₀ L h ((I, oI) :: (C, oC) :: (D, LCg.lst ys) :: (news0 ++ tls)) → LCg.Off3 I C D (news0 ++ tls) → ((@Ne Nat I C) ∧ (@Ne Nat I D) ∧ (@Ne Nat C D)) →
      wpAny (model prog w) A (eval elt (compEnvC scope cl C env)) (LCg.CompEnd h₀ L m { s with heap := h, toks := tk } I oI C oC D (LCg.lst ys) (LCg.SrcAt h₀ ax vs.toArray) (fun y news' => ∃ T t1 t2, y = .ref T ∧ news' = news0 ++ ((T, tupOf [.str z t1, .str (valS pl z) t2]) :: tls))) E' { s with heap := h, toks := tk })
    (fin : ∀ ys D h tk tls, DatAll tls ys (ss.map (pairD pl)) → Fr h₀ L h m → News h₀ L h ((D, LCg.lst ys) :: (news0 ++ tls)) → LCg.Off1 D (news0 ++ tls) → Q (.ref D) { s with heap := h, toks := tk }) :
    LCg.CompRest prog w A h₀ L m env elt x scope cl s (LCg.SrcAt h₀ ax vs.toArray) (fun i v => vs.toArray[i]? = some v) (LCg.FinE h₀ L m s Q) vs.toArray.size 0 [] news0 := by
  have hlen := hS.length
  have key : ∀ (j i : Nat) (ys : List Value) (tls : Led), i + j = ss.length → DatAll tls ys ((ss.take i).map (pairD pl)) → LCg.CompRest prog w A h₀ L m env elt x scope cl s (LCg.SrcAt h₀ ax vs.toArray) (fun i v => vs.toArray[i]? = some v) (LCg.FinE h₀ L m s Q) j i ys (news0 ++ tls) := by
    intro j
    induction j with
    | zero =>
      intro i ys tls hi hy
      have e : i = ss.length := by omega
      subst e
      rw [List.take_length] at hy
      exact LCg.CompRest.zero fun D h tk F N o1 => fin ys D h tk tls hy F N o1
    | succ j ih =>
      intro i ys tls hi hy
      refine LCg.CompRest.succ ?_
      intro v I oI C oC D m₂ h tk E' hv hC hx F N off ne
      have hi' : i < ss.length := by omega
      have hv' : vs[i]? = some v := by simpa using hv
      obtain ⟨z, t, hz, rfl⟩ : ∃ z t, ss[i]? = some z ∧ v = .str z t := by
        have go : ∀ {vs : List Value} {ss : List Str} {i : Nat}, StrsAre vs ss → vs[i]? = some v → ∃ z t, ss[i]? = some z ∧ v = .str z t := by
          intro vs ss i hS
          induction hS generalizing i with
          | nil => intro h; simp at h
          | cons y u r ih =>
            intro h
            cases i with
            | zero => simp at h; exact ⟨y, u, rfl, h.symm⟩
            | succ i => simpa using ih (i := i) (by simpa using h)
        exact go hS hv'
      refine wpAny_mono (turn z t I oI C oC D m₂ ys tls h tk E' (List.mem_of_getElem? hz) hC hx F N off ne) (fun y s₂ hq => ?_) fun _ _ e => e
      obtain ⟨h', tk', nw, e, F', N', off', hS', T, t1, t2, hy', hn⟩ := hq
      subst hn hy'
      refine ⟨h', tk', _, e, F', N', off', hS', ?_⟩
      refine ih (i + 1) _ _ (by omega) ?_
      rw [List.take_add_one, hz]
      simp only [Option.toList_some, List.map_append, List.map_cons, List.map_nil]
      exact (hy.mono fun _ hp => .tail _ hp).append (.one (.tuple (vs := [.str z t1, .str (valS pl z) t2]) (n := 0) (.head _) (.cons (.str _ _) (.cons (.str _ _) .nil))))
  have e0 : vs.toArray.size = ss.length := by simp [hlen]
  rw [e0]
  have := key ss.length 0 [] [] (by omega) .nil
  rwa [List.append_nil] at this
end
theorem mem_of {kv : List (Str × Value)} {ss : List Str} {z : Str} (h : ss.Perm (kv.map (·.1))) (hz : z ∈ ss) : z ∈ kv.map (·.1) := h.mem_iff.mp hz
theorem val_of {kv : List (Str × Value)} {pl : List (Str × Str)} {z : Str} (h : StrPs kv pl) (hz : z ∈ kv.map (·.1)) : ∃ t, PySem.valueAt kv z = some (.str (valS pl z) t) := by
  have hk := h.lk (x := z)
  cases q : lkp pl z with
  | none =>
    have := hk.1 q
    rw [lkp_none] at this
    exact absurd hz this
  | some y =>
    obtain ⟨t, e⟩ := hk.2 y q
    refine ⟨t, ?_⟩
    rw [valueAt_lkp, e]
    unfold valS
    rw [q]
    rfl
theorem strs_len {vs : List Value} {ss : List Str} {kv : List (Str × Value)} {pl : List (Str × Str)} (h : StrsAre vs ss) (hp : ss.Perm (kv.map (·.1))) (hkl : kv.length = pl.length) (hl : pl.length ≤ 50) : vs.length ≤ 50 := by
  have := hp.length_eq
  rw [List.length_map] at this
  have := h.length
  omega
theorem told_end {g h : Heap} {L T I C D ax : Addr} {m : Str → Option Value} {s₁ : Shared} {oI oC : Obj} {ys vs : List Value} {n tk : Nat} {z y : Str} {t1 t2 : Tok} {r news0 tls : Led} {rest : Value → Led → Prop} (F : Fr g L h m)
    (N : News g L h ((T, tupOf [.str z t1, .str y t2]) :: (I, oI) :: (C, oC) :: (D, LCg.lst ys) :: (((ax, listOf vs.toArray n) :: news0) ++ tls))) (off : LCg.Off3 I C D (((ax, listOf vs.toArray n) :: news0) ++ tls)) (l : I < T ∧ C < T ∧ D < T ∧ AllLt T r)
    (hr : rest (.ref T) (((ax, listOf vs.toArray n) :: news0) ++ ((T, tupOf [.str z t1, .str y t2]) :: tls))) :
    LCg.CompEnd g L m s₁ I oI C oC D (LCg.lst ys) (LCg.SrcAt g ax vs.toArray) rest (.ref T) { s₁ with heap := h, toks := tk } := by
  refine LCg.CompEnd.intro F N (((ax, listOf vs.toArray n) :: news0) ++ ((T, tupOf [.str z t1, .str y t2]) :: tls)) ?_ ?_ (.inr ⟨_, .head _, rfl, _, rfl⟩) hr
  · intro p hp
    rcases List.mem_cons.mp hp with rfl | hp
    · exact .tail _ (.head _)
    rcases List.mem_cons.mp hp with rfl | hp
    · exact .tail _ (.tail _ (.head _))
    rcases List.mem_cons.mp hp with rfl | hp
    · exact .tail _ (.tail _ (.tail _ (.head _)))
    rcases List.mem_append.mp hp with hp | hp
    · exact .tail _ (.tail _ (.tail _ (.tail _ (List.mem_append_left _ hp))))
    rcases List.mem_cons.mp hp with rfl | hp
    · exact .head _
    · exact .tail _ (.tail _ (.tail _ (.tail _ (List.mem_append_right _ hp))))
  · refine LCg.Off3.of fun p hp => ?_
    rcases List.mem_append.mp hp with hp | hp
    · exact off.mem p (List.mem_append_left _ hp)
    rcases List.mem_cons.mp hp with rfl | hp
    · exact ⟨Nat.ne_of_gt l.1, Nat.ne_of_gt l.2.1, Nat.ne_of_gt l.2.2.1⟩
    · exact off.mem p (List.mem_append_right _ hp)
/-- what told hands back -/
noncomputable def ToldV (orig : Led) (top sub : Str) (pl : List (Str × Str)) (v : Value) (n' : Led) : Prop :=
  ∃ T U ys tl t1 t2 ss, v = .ref T ∧ n' = (T, tupOf [.str top t1, .str sub t2, .ref U]) :: (U, tupOf ys) :: (orig ++ tl) ∧ DatAll tl ys (ss.map (pairD pl)) ∧ ss.Perm (pl.map (·.1)) ∧ sortedS ss = true
set_option maxHeartbeats 8000000 in
theorem told (w : World) (K dK P : Addr) (top sub : Str) (k1 k2 k3 t1 t2 : Tok) (oP : Obj) (kvP : List (Str × Value)) (pl : List (Str × Str)) (rest : Led) (lo : (P == sysModules) = false) (hdP : oP.IsDictOf (SK w) kvP) (hsp : StrPs kvP pl) (hl : pl.length ≤ 50) :
    MC w 289 [.ref K] ((K, instObj 313 dK) :: (dK, kindD w.params top sub P k1 k2 k3 t1 t2) :: (P, oP) :: rest) 6 80 (ToldV rest top sub pl) := by
  have tag53 : True := trivial
  intro mean mg mb dp un gd cn cs a ccd cl outer A₀ base h₀ L m hp0 gs0 dr0 tk0 os0 Q E B F X N T hkk hd hu hret
  have hkl := hsp.len
  k_extra "mcc_enter"
  k_steps
  rename StrsAre _ _ => hS9
  have hl9 := hS9.length
  have hz9 := strs_len hS9 (by assumption) hkl hl
  refine LCg.CompSrc.ledger rfl (by assumption) (by assumption) (by k_mem) (by rw [sizeLine_eq]; simp only [List.size_toArray]; omega) fun g => told_rest (pl := pl) hS9 (by k_mem) ?_ ?_
  · intro z t I oI C oC D m₂ ys tls h tk E' hz hC hx F N off ne
    obtain ⟨u8, hv8⟩ := val_of hsp (mem_of (by assumption) hz)
    have off0 := off
    simp only [List.cons_append, LCg.Off3] at N off
    k_steps
    rename Fr _ _ _ _ => F9
    rename News _ _ _ _ => N9
    rename _ ∧ _ ∧ _ ∧ _ ∧ _ ∧ _ ∧ _ ∧ _ ∧ AllLt _ (_ ++ tls) => l9
    refine' told_end (tls := tls) F9 ?n off0 ⟨l9.1, l9.2.1, l9.2.2.1, l9.2.2.2.2.2.2.2.2⟩ ?r
    case n => exact N9
    case r => exact ⟨_, _, _, rfl, rfl⟩
  · intro ys D h tk tls hd F N o1
    simp only [List.cons_append, LCg.Off1] at N o1
    have hy9 := hd.length
    rw [List.length_map] at hy9
    have hy8 : ys.length ≤ 50 := by omega
    k_steps
    exact hret _ _ _ _ ⟨_, _, ys, tls, _, _, _, rfl, rfl, hd, hsp.keys ▸ (by assumption), by assumption⟩ (by k_asm) (cb_drop (by assumption) (by kcj_in))
theorem reg_m53 : True := by
  (k_with "mcc_enter" => (refine wpAny_call ?_; k_dflt (refine' code_defC ?k1q152 ?k2q152 ?k3q152 ?k4q152 ?k5q152 ?kAq152 ?kFq152 ?kKq152 ?k6q152 ?k7q152 ?k8q152 ?k9q152 ?kBq152 ?kDq152 ?_ ?c2q152 ?c3q152 ?c4q152; (case kAq152 => exact rfl); (case kFq152 => exact rfl); (case kKq152 => assumption); (case k1q152 => k_asm); (case k2q152 => k_asm); (case k3q152 => k_asm); (case k4q152 => k_asm); (case k5q152 => k_asm); (case k6q152 => k_is); (case k7q152 => k_is); (case k8q152 => ktr_room); (case k9q152 => first | exact BindsTo.of_eq rfl | exact binds_K (by k_in) rfl (by k_is) rfl rfl rfl); (case kBq152 => exact rfl); (case kDq152 => decide +kernel); (case c2q152 => exact rfl); (case c3q152 => exact rfl); (case c4q152 => exact rfl); k_whole); intro g' L' h' tk' cells' FG' F' N' Y' B' X' T' l1; (try k_lt l1); k_cells Y'; (try simp only [List.cons_append, List.nil_append] at N'); (try dsimp only); (try k_lift B'); (try k_extra "kfold")))
  trivial
-- 54
local macro_rules | `(tactic| k_room) => `(tactic| ktr_room)
theorem reg_p54 : True := by
  (k_with "eval Call" => (guard_hyp tag54 : True; (k_here; (with_reducible show wpAny _ _ (eval (Expr.Call (Expr.Name (Str.ofString "skip_between") _) _ [] _) _) _ _ _); k_dflt (refine Call_ ?_))))
  (k_with "eval Call" => (guard_hyp tag54 : True; (k_here; (with_reducible show wpAny _ _ (eval (Expr.Call (Expr.Name (Str.ofString "take_token") _) _ [] _) _) _ _ _); k_dflt (refine Call_ ?_))))
  (k_with "eval Call" => (guard_hyp tag54 : True; (k_here; (with_reducible show wpAny _ _ (eval (Expr.Call (Expr.Name (Str.ofString "small_word") _) _ [] _) _) _ _ _); k_dflt (refine Call_ ?_))))
  (k_with "eval Call" => (guard_hyp tag54 : True; (k_here; (with_reducible show wpAny _ _ (eval (Expr.Call (Expr.Name (Str.ofString "take_pairs") _) _ [] _) _) _ _ _); k_dflt (refine Call_ ?_))))
  (k_with "eval Call" => (guard_hyp tag54 : True; (k_here; (with_reducible show wpAny _ _ (eval (Expr.Call (Expr.Name (Str.ofString "params_of") _) _ [] _) _) _ _ _); k_dflt (refine Call_ ?_))))
  (k_with "call ref" => (guard_hyp tag54 : True; (k_here; (try dsimp only [List.nil_append, List.cons_append, List.append_nil]); (with_reducible show wpAny _ _ (call (Value.ref 124) [Value.ref _, Value.bytes _ _]) _ _ _); k_dflt (refine' CC.useB (skip_ok _ _ _ _ _ _ _ _ ?p1q158 ?p2q158 ?p3q158) ?Bq158 ?Fq158 ?Xq158 ?Nq158 ?Tq158 ?hkq158 ?hcq158 ?huq158 ?hdq158 ?hunq158 ?_; (case Bq158 => k_asm); (case Fq158 => k_asm); (case Xq158 => k_asm); (case Nq158 => k_asm); (case Tq158 => k_asm); (case hkq158 => first | exact rfl | assumption); (case hcq158 => k_mem); (case huq158 => (intro t9; k_upd)); (case p1q158 => with_reducible assumption); (case p2q158 => with_reducible assumption); (case p3q158 => with_reducible assumption); (case hdq158 => ktr_room); (case hunq158 => ktr_units)); intro t9 h9 tk9 F9 N9; (try k_sweep); (try dsimp only); (try k_extra "kfold"))))
  (k_with "call ref" => (guard_hyp tag54 : True; (k_here; (try dsimp only [List.nil_append, List.cons_append, List.append_nil]); (with_reducible show wpAny _ _ (call (Value.ref 364) [Value.ref _]) _ _ _); k_dflt (refine' MC.use (take_pairs _ _ _ _ _ _ _ _ _ _ _ _ _ _ _ _ ?p1q159 ?p2q159 ?p3q159 ?p4q159 ?p5q159 ?p6q159 ?p7q159) ?Bq159 ?Fq159 ?Xq159 ?Nq159 ?Tq159 ?hkq159 ?hdq159 ?hunq159 ?_; (case Bq159 => k_asm); (case Fq159 => k_asm); (case Xq159 => k_asm); (case Nq159 => k_asm); (case Tq159 => k_asm); (case hkq159 => first | exact rfl | assumption); (case p3q159 => with_reducible assumption); (case p4q159 => with_reducible assumption); (case p5q159 => with_reducible assumption); (case p6q159 => with_reducible assumption); (case p7q159 => with_reducible assumption); (case p1q159 => k_ne); (case p2q159 => k_all); (case hdq159 => ktr_room); (case hunq159 => ktr_units)); intro v9 n9 h9 tk9 hV9 F9 N9; (obtain ⟨D9, its9, k9, tl9, e8, e9, h9, q9⟩ := hV9; rw [e9] at N9; clear e9; subst e8; obtain ⟨vs9, e7⟩ := arr_of its9; subst e7; rw [List.toList_toArray] at q9); (try k_sweep); (try dsimp only); (try k_extra "kfold"))))
  (k_with "call ref" => (guard_hyp tag54 : True; (k_here; (try dsimp only [List.nil_append, List.cons_append, List.append_nil]); (with_reducible show wpAny _ _ (call (Value.ref 409) [Value.ref _]) _ _ _); k_dflt (refine' MC.use (params_of _ _ _ _ _ _ _ ?p1q160 ?p2q160 ?p3q160) ?Bq160 ?Fq160 ?Xq160 ?Nq160 ?Tq160 ?hkq160 ?hdq160 ?hunq160 ?_; (case Bq160 => k_asm); (case Fq160 => k_asm); (case Xq160 => k_asm); (case Nq160 => k_asm); (case Tq160 => k_asm); (case hkq160 => first | exact rfl | assumption); (case p1q160 => with_reducible assumption); (case p2q160 => with_reducible assumption); (case p3q160 => with_reducible assumption); (case hdq160 => ktr_room); (case hunq160 => ktr_units)); intro v9 n9 h9 tk9 hV9 F9 N9; (obtain ⟨P9, oP9, kv9, e8, e9, lo9, h9, d9, s9⟩ := hV9; rw [e9] at N9; clear e9; subst e8); (try k_sweep); (try dsimp only); (try k_extra "kfold"))))
  trivial
theorem skip_ok (w : World) (c dc : Addr) (b : Array UInt8) (ks : List Int) (i : Int) (l : List Int) (t : Tok) (hk : KBw.bInts b = ks) (hat : At ks i (47 :: l)) (hsz : ks.length ≤ 16777216) :
   CC w 124 [.ref c, .bytes #[47] t] c dc b ks.length i (i + 1) 2 20 (BoolV true) := skip_slash w c dc b ks i (47 :: l) t hk hat hsz
theorem white47A {l : List Int} : whiteB (hd1 (47 :: l)) = false := by show whiteB 47 = false; decide
theorem b47A {l : List Int} : hd1 (47 :: l) ≠ 40 := by show (47 : Int) ≠ 40; decide
theorem tok47 {l : List Int} : tokB (hd1 (47 :: l)) = false := by show tokB 47 = false; decide
theorem Prs.tok {r : List Int} {ps : List (Str × List Int)} (h : Prs r ps) : tokB (hd1 r) = false := by
  rcases h.hd with e | e <;> rw [e] <;> decide
/-- what strict_kind hands back -/
noncomputable def KindV (w : World) (orig : Led) (top sub : Str) (pl : List (Str × Str)) (v : Value) (n' : Led) : Prop :=
  ∃ K dK P oP kvP k1 k2 k3 t1 t2, v = .ref K ∧ n' = (K, instObj 313 dK) :: (dK, kindD w.params top sub P k1 k2 k3 t1 t2) :: (P, oP) :: orig ∧ (P == sysModules) = false ∧ oP.IsDictOf (SK w) kvP ∧ StrPs kvP pl
set_option maxHeartbeats 8000000 in
theorem strict_kind (w : World) (b : Array UInt8) (t : Tok) (ks u0 top u1 u2 sub u3 r : List Int) (pks : List PK) (news : Led) (hk : KBw.bInts b = ks) (hsz : ks.length ≤ 1000000) (hks : ks = u0 ++ (top ++ (u1 ++ (47 :: (u2 ++ (sub ++ (u3 ++ r))))))) (g0 : Gp u0) (g1 : Gp u1) (g2 : Gp u2) (g3 : Gp u3)
    (ht : ∀ c ∈ top, tokB c = true) (hs : ∀ c ∈ sub, tokB c = true) (ht0 : top ≠ []) (hs0 : sub ≠ []) (hpr : Prs r (pks.map PK.pair)) (hok : ∀ k ∈ pks, k.Ok) (hlen : pks.length ≤ 100) :
    MC w 416 [.bytes b t] news 20 240 (KindV w news (lowStr top) (lowStr sub) (parF pks)) := by
  have tag54 : True := trivial
  intro mean mg mb dp un gd cn cs a ccd cl outer A₀ base h₀ L m hp0 gs0 dr0 tk0 os0 Q E B F X N T hkk hd hu hret
  have hsz2 : ks.length ≤ 16777216 := by omega
  have a0 : At ks 0 (u0 ++ (top ++ (u1 ++ (47 :: (u2 ++ (sub ++ (u3 ++ r))))))) := hks ▸ At.start ks
  have a1 := a0.app
  have a2 := a1.app
  have a3 := a2.app
  have a4 := a3.next
  have a5 := a4.app
  have a6 := a5.app
  have a7 := a6.app
  have x1 := (tok_not (tok_head (l := u1 ++ (47 :: (u2 ++ (sub ++ (u3 ++ r))))) ht ht0))
  have x2 := x1.1
  have x3 := x1.2.1
  have y1 := (tok_not (tok_head (l := u3 ++ r) hs hs0))
  have y2 := y1.1
  have y3 := y1.2.1
  have z1 := g1.tok (tok47 (l := u2 ++ (sub ++ (u3 ++ r))))
  have z2 := g3.tok hpr.tok
  have z3 := white47A (l := u2 ++ (sub ++ (u3 ++ r)))
  have z4 := b47A (l := u2 ++ (sub ++ (u3 ++ r)))
  have tl1 : top.length ≤ 1000000 := by have := a1.len; simp only [List.length_append] at this; have := a0.len; simp only [List.length_append] at this; omega
  have tl2 : sub.length ≤ 1000000 := by have := a5.len; simp only [List.length_append] at this; have := a0.len; simp only [List.length_append, List.length_cons] at this; omega
  k_extra "mc_enter"
  k_steps
  exact hret _ _ _ _ ⟨_, _, _, _, _, _, _, _, _, _, rfl, rfl, by assumption, by assumption, by assumption⟩ (by k_asm) (cb_drop (by assumption) (by kcj_in))
-- 55
theorem reg_p55 : True := by
  (k_with "eval Call" => (guard_hyp tag55 : True; (k_here; (with_reducible show wpAny _ _ (eval (Expr.Call (Expr.Name (Str.ofString "strict_kind") _) _ [] _) _) _ _ _); k_dflt (refine Call_ ?_))))
  trivial
theorem st_len (pks : List PK) (i : Nat) : (stAt pks i).P.length + (stAt pks i).R.length ≤ i := by
  induction i with
  | zero => simp [stAt]
  | succ i ih =>
    cases hk : pks[i]? with
    | none =>
      have : stAt pks (i + 1) = stAt pks i := by
        unfold stAt
        rw [List.take_add_one, hk]
        simp
      rw [this]
      omega
    | some k =>
      rw [stAt_succ hk]
      cases k with
      | pl x ws =>
        show (if (lkp (stAt pks i).P x).isSome then stAt pks i else _).P.length + (if (lkp (stAt pks i).P x).isSome then stAt pks i else _).R.length ≤ _
        split
        · omega
        · simp only [List.length_append, List.length_cons, List.length_nil]; omega
      | pt nm x n e bw =>
        show (stAt pks i).P.length + (addR (stAt pks i).R x n (e, bw)).length ≤ _
        unfold addR
        split
        · simp only [List.length_append, List.length_cons, List.length_nil]; omega
        · split
          · rw [putR_len]; omega
          · omega
theorem plAt_len (s : PSt) (i : Nat) : (plAt s i).length ≤ s.P.length + i := by
  induction i with
  | zero => simp [plAt]
  | succ i ih =>
    cases hk : s.R[i]? with
    | none =>
      have : plAt s (i + 1) = plAt s i := by
        unfold plAt
        rw [List.take_add_one, hk]
        simp
      rw [this]
      omega
    | some q =>
      rw [plAt_succ hk]
      have := fin2_len (plAt s i) q
      omega
theorem parF_len (pks : List PK) : (parF pks).length ≤ pks.length := by
  have h1 := st_len pks pks.length
  have h2 := plAt_len (stAt pks pks.length) (stAt pks pks.length).R.length
  unfold parF
  omega
theorem KindV.out {w : World} {orig : Led} {top sub : Str} {pl : List (Str × Str)} {v : Value} {n' : Led} (h : KindV w orig top sub pl v n') :
  ∃ K dK P oP kvP k1 k2 k3 t1 t2, v = .ref K ∧ n' = (K, instObj 313 dK) :: (dK, kindD w.params top sub P k1 k2 k3 t1 t2) :: (P, oP) :: orig ∧ (P == sysModules) = false ∧ oP.IsDictOf (SK w) kvP ∧ StrPs kvP pl := h
theorem ToldV.out {orig : Led} {top sub : Str} {pl : List (Str × Str)} {v : Value} {n' : Led} (h : ToldV orig top sub pl v n') :
  ∃ T U ys tl t1 t2 ss, v = .ref T ∧ n' = (T, tupOf [.str top t1, .str sub t2, .ref U]) :: (U, tupOf ys) :: (orig ++ tl) ∧ DatAll tl ys (ss.map (pairD pl)) ∧ ss.Perm (pl.map (·.1)) ∧ sortedS ss = true := h
set_option maxHeartbeats 8000000 in
theorem heard (w : World) (b : Array UInt8) (t : Tok) (ks u0 top u1 u2 sub u3 r : List Int) (pks : List PK) (news : Led) (hk : KBw.bInts b = ks) (hsz : ks.length ≤ 1000000) (hks : ks = u0 ++ (top ++ (u1 ++ (47 :: (u2 ++ (sub ++ (u3 ++ r))))))) (g0 : Gp u0) (g1 : Gp u1) (g2 : Gp u2) (g3 : Gp u3)
    (ht : ∀ c ∈ top, tokB c = true) (hs : ∀ c ∈ sub, tokB c = true) (ht0 : top ≠ []) (hs0 : sub ≠ []) (hpr : Prs r (pks.map PK.pair)) (hok : ∀ k ∈ pks, k.Ok) (hlen : pks.length ≤ 50) :
    MC w 447 [.bytes b t] news 30 400 (ToldV news (lowStr top) (lowStr sub) (parF pks)) := by
  have tag55 : True := trivial
  intro mean mg mb dp un gd cn cs a ccd cl outer A₀ base h₀ L m hp0 gs0 dr0 tk0 os0 Q E B F X N T hkk hd hu hret
  have hlen2 : pks.length ≤ 100 := by omega
  have hlen3 : (parF pks).length ≤ 50 := Nat.le_trans (parF_len pks) hlen
  (k_with "call ref" => (guard_hyp tag55 : True; (k_here; (with_reducible show wpAny _ _ (call (Value.ref 416) _) _ _ _); k_dflt (refine' MC.use (strict_kind _ _ _ _ _ _ _ _ _ _ _ _ _ hk hsz hks g0 g1 g2 g3 ht hs ht0 hs0 hpr hok hlen2) ?B ?F ?X ?N ?T ?hk ?hd ?hun ?_; (case B => k_asm); (case F => k_asm); (case X => k_asm); (case N => k_asm); (case T => k_asm); (case hk => first | exact rfl | assumption); (case hd => ktr_room); (case hun => ktr_units)); intro v9 n9 h9 tk9 hV9 F9 N9; (obtain ⟨K9, dK9, P9, oP9, kv9, _, _, _, _, _, e8, e9, lo9, d9, s9⟩ := KindV.out hV9); rw [e9] at N9; clear e9; subst e8; (try k_sweep); (try dsimp only); (try k_extra "kfold"))))
  (k_with "call ref" => (guard_hyp tag55 : True; (k_here; (with_reducible show wpAny _ _ (call (Value.ref 289) _) _ _ _); k_dflt (refine' MC.use (told _ _ _ _ _ _ _ _ _ _ _ _ _ _ _ ?p1 ?p2 ?p3 hlen3) ?B ?F ?X ?N ?T ?hk ?hd ?hun ?_; (case B => k_asm); (case F => k_asm); (case X => k_asm); (case N => k_asm); (case T => k_asm); (case p1 => assumption); (case p2 => assumption); (case p3 => assumption); (case hk => first | exact rfl | assumption); (case hd => ktr_room); (case hun => ktr_units)); intro v9 n9 h9 tk9 hV9 F9 N9; (obtain ⟨T9, U9, ys9, tl9, _, _, ss9, e8, e9, da9, pe9, so9⟩ := ToldV.out hV9); rw [e9] at N9; clear e9; subst e8; (try k_sweep); (try dsimp only); (try k_extra "kfold"))))
  k_extra "mc_enter"
  k_steps
  exact hret _ _ _ _ ⟨_, _, _, _, _, _, _, rfl, rfl, da9, pe9, so9⟩ (by k_asm) (by k_asm)
-- 60
open PySem.Calls Builtin.ObjectAttr
noncomputable abbrev excO (C tp : Addr) (dd : Option Addr) : Obj := { cls := .ref C, dict := dd, data := .fields #[.ref tp, .none, .none, .none, .bool false, .none] }
noncomputable def xcCd (o : Option Obj) : ClassData := match o with
  | some ⟨_, _, .cls cd, _⟩ => cd
  | _ => default
noncomputable def xcSl (o : Option Obj) (i : Nat) : Option Value := match o with
  | some o => o.slots.getD i none
  | none => none
noncomputable def xcDd (o : Option Obj) : Option Addr := match o with
  | some o => o.dict
  | none => none
/-- a class of the text's own whose makers are those of Exception -/
noncomputable def xcOb (o : Option Obj) (C : Addr) (bm : List Value) : Obj :=
  excClassObj (xcCd o).name (xcCd o).qualname C (xcCd o).ns (xcCd o).bases bm true (xcCd o).slotNames (xcCd o).subclasses (xcCd o).abstract (xcCd o).collection (xcDd o) (xcSl o 0) (xcSl o 1) (xcSl o 2) (xcSl o 3) (xcSl o 5) "Exception.__new__"
noncomputable def xcIn (K : Frag) (C : Addr) (bm : List Value) : Prop := K.lookup C = some (xcOb (K.lookup C) C bm)
theorem xc_cls {K : Frag} {h : Heap} {C : Addr} {bm : List Value} (X : K.In h) (q : xcIn K C bm) : ∃ nm qn N bs sn sub ab col dd k0 k1 k2 k3 k5,
    h.get? C = some (excClassObj nm qn C N bs bm true sn sub ab col dd k0 k1 k2 k3 k5 "Exception.__new__") ∧ (clsIn K C).any (fun cd => cd.mro == .ref C :: bm && cd.hasDict) = true := by
  refine ⟨_, _, _, _, _, _, _, _, _, _, _, _, _, _, X _ _ q, ?_⟩
  unfold clsIn
  rw [show K.lookup C = _ from q]
  show (Value.ref C :: bm == Value.ref C :: bm && true) = true
  rw [beq_self_eq_true]; rfl
section
variable {prog : Program} {w : World} {A : Around} {h : Heap} {g : Array GenState} {d : Drawn} {t : Nat} {os : OsState}
variable {nm q : Str} {C N fI : Addr} {bs bm : List Value} {hdct : Bool} {sn : List Str} {sub : List Value} {ab : Bool} {col : Option Bool} {dd : Option Addr} {k0 k1 k2 k3 k5 : Option Value}
theorem xc_new {R : Result → Shared → Prop} {rest : List Value} (hC : h.get? C = some (excClassObj nm q C N bs bm hdct sn sub ab col dd k0 k1 k2 k3 k5 "Exception.__new__"))
    (hE : bm.contains (.type "Exception") = true) (hA : bm.contains (.type "AttributeError") = false) (hN : bm.contains (.type "NameError") = false) (hrest : rest.length ≤ sizeLine)
    (hq : R (.ok (.ret (.ref (h.objs.size + 1)))) ⟨(h.push { cls := .type "tuple", data := .seq rest.toArray }).push (excO C h.objs.size none), g, d, t, os⟩) :
    codeAny (model prog w) A (.builtin "Exception.__new__" ⟨.ref C :: rest, []⟩) R ⟨h, g, d, t, os⟩ := by
  have F := PySem.F.excBase_Exception
  have hends := F.ends
  have cE : (Value.ref C :: bm).contains (.type "Exception") = true := by rw [List.contains_cons, hE, Bool.or_true]
  have cA : (Value.ref C :: bm).contains (.type "AttributeError") = false := by rw [List.contains_cons, hA]; rfl
  have cN : (Value.ref C :: bm).contains (.type "NameError") = false := by rw [List.contains_cons, hN]; rfl
  refine codeAny_builtinAt F.entry ?_
  unfold Builtin.«BaseException.__new__»
  refine PySem.wpAt_bind ?_
  show PySem.wpAt _ _ _ (stack >>= _) _ _ _
  refine PySem.wpAt_bind (PySem.wpAt_stack fun p below => PySem.wpAt_of_wpAny ?_)
  wp_walk
  refine PySem.wpAt_of_wpAny ?_
  rw [F.owner]
  repeat (first | with_reducible refine wpAny_madeHere_exc F.canon hC ?_ | with_reducible refine wpAny_loadPart_at hC ?_ | (with_reducible refine wpAny_isSubtype_exc hC ?_; first | rw [cE] | rw [cA] | rw [cN]) | wp_step)
  show R _ _
  rw [Heap.size_push]
  exact hq
theorem xc_call {E : Value → Shared → Prop} {Q : Value → Shared → Prop} {rest : List Value} (hC : h.get? C = some (excClassObj nm q C N bs bm hdct sn sub ab col dd k0 k1 k2 k3 k5 "Exception.__new__"))
    (hE : bm.contains (.type "Exception") = true) (hA : bm.contains (.type "AttributeError") = false) (hN : bm.contains (.type "NameError") = false) (hrest : rest.length ≤ sizeLine)
    (LI : Looks (model prog w) h (typeLookup (.ref C) "__init__") (some (.ref fI))) (LB : ∀ self, Looks (model prog w) h (bindSpecial (.ref fI) self) (.ref fI, [self]))
    (hq : wpAny (model prog w) (A.under (.builtin "type.__call__" ⟨.ref C :: rest, []⟩)) (call (.ref fI) (.ref (h.objs.size + 1) :: rest)) (fun r s' => r = .none ∧ Q (.ref (h.objs.size + 1)) s') E
      ⟨(h.push { cls := .type "tuple", data := .seq rest.toArray }).push (excO C h.objs.size none), g, d, t, os⟩) :
    wpAny (model prog w) A (call (.ref C) rest) Q E ⟨h, g, d, t, os⟩ := by
  have f1 := tc_lookup
  have f2 := tc_bind (.ref C)
  have hT : (⟨h, g, d, t, os⟩ : Shared).TypeIs (.ref C) "type" := ⟨_, hC, rfl⟩
  refine wpAny_call (codeAny_of_tree ?_)
  show wpAny _ _ (callAny (.ref C) _) _ _ _
  repeat (any_goals (first | assumption | with_reducible refine wpAny_loadPart_at hC ?_ | wp_step))
  refine ⟨rfl, ?_⟩
  refine codeAny_call_builtin_at (Code.quiet_builtin _ (by decide +kernel)) entry_typeCall (wpAny_check_type_call_sub hC ?_)
  repeat (first | with_reducible refine wpAny_loadPart_at hC ?_ | with_reducible refine wpAny_madeBy_exc hC ?_ | wp_step)
  refine codeAny_call_builtin_code (Code.quiet_builtin _ PySem.F.excBase_Exception.quiet) (wpAny_check_new_subU (bmB := bm) PySem.F.excBase_Exception hE .base hC ?_)
  refine xc_new (rest := rest) hC hE hA hN hrest ?_
  show wpAny _ _ _ _ _ _
  have k : ∀ b o, h.get? b = some o → ((h.push { cls := .type "tuple", data := .seq rest.toArray }).push (excO C h.objs.size none)).get? b = some o := fun b o e => Heap.get?_push_of_some _ (Heap.get?_push_of_some _ e)
  have hC₁ := k _ _ hC
  have hget : ((h.push { cls := .type "tuple", data := .seq rest.toArray }).push (excO C h.objs.size none)).get? (h.objs.size + 1) = some { cls := .ref C, data := .fields #[.ref h.objs.size, .none, .none, .none, .bool false, .none] } := by heap_get
  have hcC : (Value.ref C :: bm).contains (.ref C) = true := by simp
  unfold isInstance
  repeat (first | with_reducible refine wpAny_loadPart_at hget ?_ | (with_reducible refine wpAny_isSubtype_exc hC₁ ?_; rw [hcC]) | wp_step)
  show wpAny _ _ (typeLookup (.ref C) _) _ _ _
  refine (LI.keeps k).at ?_
  refine wpAny_holding (wpAny_bind (((LB _).keeps k).at ?_))
  refine wpAny_bind (wpAny_mono hq (fun r s' hr => ?_) fun _ _ x => x)
  obtain ⟨rfl, hQ⟩ := hr
  wp_walk
  exact hQ
end
-- 61
open PySem.Calls Builtin.ObjectAttr
section
variable {prog : Program} {w : World} {A : Around} {E : Value → Shared → Prop} {s : Shared} {K : Frag} {C fI L e tp : Addr} {h₀ : Heap} {m : Str → Option Value} {news rest : List (Addr × Obj)} {bm vs : List Value}
theorem xc_make {Q : Value → Shared → Prop} (F : Fr h₀ L s.heap m) (X₀ : K.In h₀) (N : News h₀ L s.heap news) (q : xcIn K C bm) (hE : bm.contains (.type "Exception") = true) (hA : bm.contains (.type "AttributeError") = false) (hN : bm.contains (.type "NameError") = false)
    (hz : vs.length ≤ 1000) (ei : findIn K (.ref C) "__init__" = some (some (.ref fI))) (hf : typeIn K (.ref fI) = some (.type "function"))
    (h : ∀ e tp h', Fr h₀ L h' m → News h₀ L h' ((e, excO C tp none) :: news) → (∀ p ∈ news, p.1 < e) →
      wpAny (model prog w) (A.under (.builtin "type.__call__" ⟨.ref C :: vs, []⟩)) (call (.ref fI) (.ref e :: vs)) (fun r s' => r = .none ∧ Q (.ref e) s') E { s with heap := h' }) :
    wpAny (model prog w) A (call (.ref C) vs) Q E s := by
  have X := X₀.keeps F.keep
  obtain ⟨hh, g, d, t, os⟩ := s
  obtain ⟨nm, qn, NS, bs, sn, sub, ab, col, dd, k0, k1, k2, k3, k5, hC, _⟩ := xc_cls X q
  refine xc_call hC hE hA hN (by rw [sizeLine_eq]; omega) (looks_findIn X ei) (fun self => bind_fn X self hf) ?_
  have F' := F.push { cls := .type "tuple", data := .seq vs.toArray }
  have N' := News.push F N { cls := .type "tuple", data := .seq vs.toArray } rfl
  have N2 := News.push F' N' (excO C hh.objs.size none) rfl
  rw [Heap.size_push] at N2
  refine h _ hh.objs.size _ (F'.push _) ?_ ?_
  · intro p hp
    rcases List.mem_cons.mp hp with rfl | hp
    · exact N2 _ (.head _)
    · exact N2 _ (.tail _ (.tail _ hp))
  · intro p hp
    exact Nat.lt_succ_of_lt (Heap.lt_size (N p hp).1)
theorem xi_check {M : Model} {x : Value} {hh : Heap} {g : Array GenState} {d : Drawn} {t : Nat} {os : OsState} {nm qn : Str} {NS : Addr} {bs : List Value} {sn : List Str} {sub : List Value} {ab : Bool} {col : Option Bool} {dd : Option Addr} {k0 k1 k2 k3 k5 : Option Value} {oe : Obj} {Q : Unit → Shared → Prop}
    (hC : hh.get? C = some (excClassObj nm qn C NS bs bm true sn sub ab col dd k0 k1 k2 k3 k5 "Exception.__new__")) (he : hh.get? e = some oe) (hcls : oe.cls = .ref C) (hE : bm.contains (.type "Exception") = true) (hq : Q () ⟨hh, g, d, t, os⟩) :
    wpAny M A (checkBuiltinCall "Exception.__init__" ⟨[.ref e, x], []⟩) Q E ⟨hh, g, d, t, os⟩ := by
  have FB := PySem.F.excBase_Exception
  have hcB : (Value.ref C :: bm).contains (.type "Exception") = true := by rw [List.contains_cons, hE, Bool.or_true]
  have hshort := FB.noStar
  simp only [checkBuiltinCall, FB.initKind, FB.initSplit, FB.initRow]
  repeat (first | (with_reducible refine wpAny_loadPart_at he ?_; rw [hcls]) | with_reducible refine wpAny_loadPart_at hC ?_ | (with_reducible refine wpAny_isSubtype_exc hC ?_; rw [hcB]) | wp_step)
  exact hq
theorem xc_init {x : Value} {Q : Value → Shared → Prop} (F : Fr h₀ L s.heap m) (X₀ : K.In h₀) (N : News h₀ L s.heap ((e, excO C tp none) :: rest)) (hoff : ∀ p ∈ rest, p.1 ≠ e) (q : xcIn K C bm) (hE : bm.contains (.type "Exception") = true)
    (h : ∀ tp' h', Fr h₀ L h' m → News h₀ L h' ((e, excO C tp' none) :: rest) → Q .none { s with heap := h' }) :
    wpAny (model prog w) A (call (.builtin "Exception.__init__") [.ref e, x]) Q E s := by
  have X := X₀.keeps F.keep
  have FB := PySem.F.excBase_Exception
  have he := (N _ (.head _)).1
  obtain ⟨nm, qn, NS, bs, sn, sub, ab, col, dd, k0, k1, k2, k3, k5, hC, _⟩ := xc_cls X q
  obtain ⟨hh, g, d, t, os⟩ := s
  refine wpAny_call (codeAny_call_builtin FB.init.plain FB.initEntry (xi_check hC he rfl hE ?_))
  have he2 : (hh.push { cls := .type "tuple", data := .seq [x].toArray }).get? e = some { cls := .ref C, data := .fields #[.ref tp, .none, .none, .none, .bool false, .none] } := Heap.get?_push_of_some _ he
  wp_walk
  have N3 := News.push F N { cls := .type "tuple", data := .seq #[x] } rfl
  obtain ⟨U1, U2⟩ := news_upd (pre := [(hh.objs.size, _)]) (post := rest) (o := excO C tp none) (o' := excO C hh.objs.size none) (f := Obj.mapFields fun x => x.setIfInBounds 0 (Value.ref hh.objs.size)) (F.push { cls := .type "tuple", data := .seq #[x] }) N3
    (fun p hp => by rw [List.mem_singleton.mp hp]; exact Nat.ne_of_gt (Heap.lt_size he)) hoff rfl rfl
  exact h _ _ U1 fun p hp => U2 p (.tail _ hp)
end
-- 62
open PySem.Calls Builtin.ObjectAttr
section
variable {prog : Program} {w : World} {A : Around} {E : Value → Shared → Prop} {s : Shared} {K : Frag} {C fI L e tp d x : Addr} {h₀ : Heap} {m : Str → Option Value} {news rest : List (Addr × Obj)} {bm vs : List Value} {name : Str} {tk : Tok} {v : Value}
theorem xosa_open {R : Result → Shared → Prop} {ox : Obj} {od : Option Obj} (X : K.In s.heap) (I : InstAt s.heap x ox C od) (hc : (clsIn K C).any (fun cd => cd.mro == .ref C :: bm && cd.hasDict) = true) (hp : ∀ self, refuseLoop self "__setattr__" bm = pure ())
    (hO : bm.contains (.type "object") = true) (ht : takerIn K C name = some none)
    (h : ∀ b, wpAny (model prog w) A.in1 (storeInOwnDict (.ref x) (.ref C) (.str name tk) name v b)
      (fun fin s' => match fin with | .done f => R (.ok f) s' | .again c' => c'.quiet = true ∧ codeAny (model prog w) A c' R s') (fun e s' => R (.error e) s') s) :
    codeAny (model prog w) A (.call (.builtin "object.__setattr__") ⟨[.ref x, .str name tk, v], []⟩) R s := by
  have SF := PySem.F.store_object
  obtain ⟨cd, hc, ho⟩ := any_some hc
  simp only [Bool.and_eq_true, beq_iff_eq] at ho
  have sub : Looks (model prog w) s.heap (isInstance (.ref x) (.type "object")) true := I.type.andThen (looks_mroIn X (by
    unfold mroIn
    rw [hc, Option.bind_some, if_neg (by rw [ho.1]; simp), ho.1, List.contains_cons, hO, Bool.or_true]))
  refine codeAny_call_builtin SF.slot.plain SF.entry (@check_slot (model prog w) _ _ s "object.__setattr__" "object" "__setattr__" (.ref x) [.str name tk, v] [] _ SF.kind SF.split sub (SF.args (.ref x) (.str name tk) v) ?_)
  obtain ⟨attr, ha, hr⟩ := Option.bind_eq_some_iff.mp ht
  have hm : Looks (model prog w) s.heap (mroOf (.ref C)) cd.mro := (looks_clsIn X hc).andThen .now
  have L3 : Looks (model prog w) s.heap (storeTaker? attr) none := by
    cases attr with
    | none => exact .now
    | some a =>
      obtain ⟨b, hb, hr⟩ := Option.map_eq_some_iff.mp hr
      refine (looks_takesIn X hb).andThen ?_
      cases b
      · exact .now
      · cases hr
  rw [osa_eq, refuse_eq]
  refine wpAny_bind (wpAny_bind (I.type.here (wpAny_bind (hm.here ?_))))
  rw [ho.1, refuseLoop_ref, hp]
  refine wpAny_pure (wpAny_bind (I.type.here (wpAny_bind ((looks_findIn X ha).here (wpAny_bind (L3.here ?_))))))
  exact h _
theorem xstore {Q : Fin → Shared → Prop} {pre post : List (Addr × Obj)} {es es' : List DictEntry} {n n' : Nat} (F : Fr h₀ L s.heap m) (N : News h₀ L s.heap (pre ++ (d, dictOf es n) :: post)) (h1 : ∀ p ∈ pre, p.1 ≠ d) (h2 : ∀ p ∈ post, p.1 ≠ d)
    (hl : (getL name es).isSome = true) (e : putL name (PyData.keyHash w.params name) (.str name s.toks) v es = es') (e2 : putN name es n = n') (hz : es'.length ≤ 1000)
    (h : ∀ h', Fr h₀ L h' m → News h₀ L h' (pre ++ (d, dictOf es' n') :: post) → Q (.done (.ret .none)) { s with heap := h', toks := s.toks + 1 }) :
    wpAny (model prog w) A (storeInDict d (.str name tk) name v) Q E s := by
  obtain ⟨U1, U2⟩ := news_upd (f := Obj.putName name (PyData.keyHash w.params name) (.str name s.toks) v) (o' := dictOf es' n') F N h1 h2 (by rw [putName_dict, e, e2]) rfl
  have D := (N (d, dictOf es n) (by simp)).1
  have D' := (U2 (d, dictOf es' n') (by simp)).1
  unfold storeInDict newKeyGuard
  refine wpAny_bind (wpAny_pure (wpAny_bind ?_))
  unfold nsSet
  refine wpAny_bind (wpAny_bind (wpAny_askSetting (wpAny_pure (wpAny_bind (wpAny_mkText (wpAny_bind (wpAny_loadPart D ?_)))))))
  dsimp only
  have c : (!es.toArray.any (·.key.isStr name) && es.toArray.any (·.refKey)) = false := by
    rw [← Array.any_toList, ← Array.any_toList]
    unfold getL at hl
    simp only
    split at hl
    · rename_i en he
      rw [List.any_eq_true.mpr ⟨en, List.mem_of_find?_eq_some he, List.find?_some he⟩]; rfl
    · split at hl
      · cases hl
      · rename_i z; rw [Bool.not_eq_true] at z; rw [z, Bool.and_false]
  rw [aRefKeyMayBeTheName_at, c]
  refine wpAny_updatePart D ?_
  refine wpAny_bind (wpAny_lookBehind D' (pastItsLine_dict (by rw [List.size_toArray, sizeLine_eq]; omega)) ?_)
  exact wpAny_pure (h _ U1 U2)
theorem exc_inst {h : Heap} {o : Obj} (he : h.get? e = some (excO C tp (some d))) (hd : h.get? d = some o) : InstAt h e (excO C tp (some d)) C (some o) := ⟨he, rfl, rfl, hd⟩
theorem exc_inst0 {h : Heap} (he : h.get? e = some (excO C tp none)) : InstAt h e (excO C tp none) C none := ⟨he, rfl, rfl, trivial⟩
theorem xc_set2 {Q : Unit → Shared → Prop} {es es' : List DictEntry} {n n' : Nat} (F : Fr h₀ L s.heap m) (X₀ : K.In h₀) (N : News h₀ L s.heap ((e, excO C tp (some d)) :: (d, dictOf es n) :: rest)) (hed : e ≠ d) (hoff : ∀ p ∈ rest, p.1 ≠ d) (q : xcIn K C bm)
    (hp : ∀ self, refuseLoop self "__setattr__" bm = pure ()) (hO : bm.contains (.type "object") = true) (hs : findIn K (.ref C) "__setattr__" = some (some (.builtin "object.__setattr__"))) (ht : takerIn K C name = some none)
    (hl : (getL name es).isSome = true) (e1 : putL name (PyData.keyHash w.params name) (.str name (s.toks + 1)) v es = es') (e2 : putN name es n = n') (hz : es'.length ≤ 1000)
    (h : ∀ h', Fr h₀ L h' m → News h₀ L h' ((e, excO C tp (some d)) :: (d, dictOf es' n') :: rest) → Q () { s with heap := h', toks := s.toks + 2 }) :
    wpAny (model prog w) A (setAttr (.ref e) name v) Q E s := by
  have X := X₀.keeps F.keep
  have he := (N _ (.head _)).1
  have hd := (N _ (.tail _ (.head _))).1
  obtain ⟨nm, qn, NS, bs, sn, sub, ab, col, dd, k0, k1, k2, k3, k5, hC, hc⟩ := xc_cls X q
  have I := exc_inst he hd
  obtain ⟨cd, hc1, hc2⟩ := any_some hc
  simp only [Bool.and_eq_true, beq_iff_eq] at hc2
  refine set_plain X I hs (xosa_open (s := { s with toks := s.toks + 1 }) X I hc hp hO ht fun b => ?_)
  refine wpAny_bind (wpAny_pure (wpAny_bind (wpAny_bind (wpAny_loadPart he (wpAny_bind (looks_clsIn (M := model prog w) X hc1 _ _ _ _ (fun _ _ z => z) ?_))))))
  rw [hc2.2]
  refine wpAny_pure (a := some d) ?_
  exact xstore (s := { s with toks := s.toks + 1 }) (pre := [(e, excO C tp (some d))]) F N (fun p hp => by rw [List.mem_singleton.mp hp]; exact hed) hoff hl e1 e2 hz fun h' F' N' => h h' F' N'
theorem xc_set1 {Q : Unit → Shared → Prop} {es' : List DictEntry} {n' : Nat} (F : Fr h₀ L s.heap m) (X₀ : K.In h₀) (N : News h₀ L s.heap ((e, excO C tp none) :: rest)) (hoff : ∀ p ∈ rest, p.1 ≠ e) (q : xcIn K C bm)
    (hp : ∀ self, refuseLoop self "__setattr__" bm = pure ()) (hO : bm.contains (.type "object") = true) (hs : findIn K (.ref C) "__setattr__" = some (some (.builtin "object.__setattr__"))) (ht : takerIn K C name = some none)
    (e1 : putL name (PyData.keyHash w.params name) (.str name (s.toks + 1)) v [] = es') (e2 : putN name [] 0 = n') (hz : es'.length ≤ 1000)
    (h : ∀ d h', Fr h₀ L h' m → News h₀ L h' ((e, excO C tp (some d)) :: (d, dictOf es' n') :: rest) → e < d → (∀ p ∈ rest, p.1 < d) → Q () { s with heap := h', toks := s.toks + 2 }) :
    wpAny (model prog w) A (setAttr (.ref e) name v) Q E s := by
  have X := X₀.keeps F.keep
  have he := (N _ (.head _)).1
  obtain ⟨nm, qn, NS, bs, sn, sub, ab, col, dd, k0, k1, k2, k3, k5, hC, hc⟩ := xc_cls X q
  have I := exc_inst0 he
  obtain ⟨cd, hc1, hc2⟩ := any_some hc
  simp only [Bool.and_eq_true, beq_iff_eq] at hc2
  refine set_plain X I hs (xosa_open (s := { s with toks := s.toks + 1 }) X I hc hp hO ht fun b => ?_)
  refine wpAny_bind (wpAny_pure (wpAny_bind (wpAny_bind (wpAny_loadPart he (wpAny_bind (looks_clsIn (M := model prog w) X hc1 _ _ _ _ (fun _ _ z => z) ?_))))))
  rw [hc2.2]
  show wpAny _ _ (alloc emptyDict >>= fun d => update e (fun o => { o with dict := some d }) >>= fun _ => pure (some d)) _ _ _
  have F1 := F.push emptyDict
  have N1 := News.push F N emptyDict rfl
  have hed : e < s.heap.objs.size := Heap.lt_size he
  obtain ⟨U1, U2⟩ := news_upd (pre := [(s.heap.objs.size, emptyDict)]) (post := rest) (o := excO C tp none) (o' := excO C tp (some s.heap.objs.size)) (f := fun o => { o with dict := some s.heap.objs.size }) F1 N1
    (fun p hp => by rw [List.mem_singleton.mp hp]; exact Nat.ne_of_gt hed) hoff rfl rfl
  refine wpAny_bind (wpAny_alloc (wpAny_bind (wpAny_update (Heap.get?_push_of_some _ he) ?_)))
  refine wpAny_pure (a := some s.heap.objs.size) ?_
  refine xstore (s := { s with heap := (s.heap.push emptyDict).update e fun o => { o with dict := some s.heap.objs.size }, toks := s.toks + 1 }) (pre := [(e, excO C tp (some s.heap.objs.size))]) (post := rest) U1 ?_ (fun p hp => by rw [List.mem_singleton.mp hp]; exact Nat.ne_of_lt hed)
    (fun p hp => Nat.ne_of_lt (Heap.lt_size (N p (.tail _ hp)).1)) rfl e1 e2 hz fun h' F' N' => h _ h' F' N' hed fun p hp => Heap.lt_size (N p (.tail _ hp)).1
  intro p hp
  rcases List.mem_cons.mp hp with rfl | hp
  · exact U2 _ (by simp)
  · rcases List.mem_cons.mp hp with rfl | hp
    · exact U2 _ (.head _)
    · exact U2 _ (by simp [hp])
end
-- 63
theorem reg_p63 : True := by
  (k_with "getMethod type:Exception" => (guard_hyp tag63 : True; (k_here; refine' method_type ?Fq162 ?Xq162 ?mq162 (by decide +kernel) ?eq162 ?hq162 ?_; (case Fq162 => k_asm); (case Xq162 => k_asm); (case mq162 => exact meta_Exception); (case eq162 => k_dflt k_is); (case hq162 => k_handed))))
  (k_with "call builtin:Exception.__init__" => (guard_hyp tag63 : True; (k_here; k_dflt (refine' xc_init (bm := bmW) ?Fq163 ?Xq163 ?Nq163 ?oq163 ?qq163 ?eq163 ?_; (case Fq163 => k_asm); (case Xq163 => k_asm); (case Nq163 => k_asm); (case oq163 => k_all); (case qq163 => with_reducible assumption); (case eq163 => decide +kernel)); intro tp' h' F' N'; (try k_sweep))))
  (k_with "setAttr ref" => (guard_hyp tag63 : True; (k_here; k_dflt (first | (refine' xc_set1 (bm := bmW) ?Fq164 ?Xq164 ?Nq164 ?oq164 ?qq164 bmW_pass ?Oq164 ?sq164 ?tq164 ?e1q164 ?e2q164 ?zq164 ?_; (case Fq164 => k_asm); (case Xq164 => k_asm); (case Nq164 => k_asm); (case oq164 => k_all); (case qq164 => with_reducible assumption); (case Oq164 => decide +kernel); (case sq164 => k_is); (case tq164 => k_is); (case e1q164 => exact putL_nil _ _ _ _); (case e2q164 => exact putN_nil _); (case zq164 => exact Nat.le_of_ble_eq_true rfl); intro d' h' F' N' l1 l2; (try k_sweep)) | (refine' xc_set2 (bm := bmW) ?Fq164 ?Xq164 ?Nq164 ?nq164 ?oq164 ?qq164 bmW_pass ?Oq164 ?sq164 ?tq164 ?lq164 ?e1q164 ?e2q164 ?zq164 ?_; (case Fq164 => k_asm); (case Xq164 => k_asm); (case Nq164 => k_asm); (case nq164 => exact Nat.ne_of_lt (by assumption)); (case oq164 => k_all); (case qq164 => with_reducible assumption); (case Oq164 => decide +kernel); (case sq164 => k_is); (case tq164 => k_is); (case lq164 => exact getL_two _ _ _); (case e1q164 => exact putL_two _ _ _ _ _ _); (case e2q164 => exact putN_two _ _ _); (case zq164 => exact Nat.le_of_ble_eq_true rfl); intro h' F' N'; (try k_sweep))))))
  trivial
noncomputable abbrev bmW : List Value := [.ref 46, .type "Exception", .type "BaseException", .type "object"]
theorem xc_59 (w : World) : xcIn (Mine.hd.heap_39 w.params) 59 bmW := by unfold xcIn; kernel_rfl!
theorem bmW_pass (self : Value) : refuseLoop self "__setattr__" bmW = pure () := by
  rw [refuseLoop_ref]
  exact PySem.F.store_Exception.passes self
theorem meta_Exception : typeOf (.type "Exception") = pure (.type "type") := by first | rfl | kernel_rfl!
theorem putL_nil (name : Str) (hs : Int) (k v : Value) : putL name hs k v [] = [⟨hs, k, v⟩] := rfl
theorem putN_nil (name : Str) : putN name [] 0 = 1 := rfl
theorem what_at (t : Tok) : (Value.str (Str.ofString "what") t).isStr (Str.ofString "at") = false := by kernel_rfl!
theorem putL_two (hw hs : Int) (t : Tok) (k v u : Value) : putL (Str.ofString "at") hs k v [⟨hw, .str (Str.ofString "what") t, u⟩] = [⟨hw, .str (Str.ofString "what") t, u⟩, ⟨hs, k, v⟩] := by simp [putL, what_at]
theorem putN_two (hw : Int) (t : Tok) (u : Value) : putN (Str.ofString "at") [⟨hw, .str (Str.ofString "what") t, u⟩] 1 = 2 := by simp [putN, what_at]
theorem getL_two (hw : Int) (t : Tok) (u : Value) : (getL (Str.ofString "at") [⟨hw, .str (Str.ofString "what") t, u⟩]).isSome = true := by
  have e : DictEntry.refKey ⟨hw, .str (Str.ofString "what") t, u⟩ = false := by first | rfl | kernel_rfl!
  simp [getL, what_at, e]
set_option maxHeartbeats 8000000 in
theorem new_fault (w : World) (x : Str) (t u : Tok) (i : Int) (news : Led) : MC w 59 [.str x t, .int i u] news 4 60 (fun v n' => ∃ e d tp, v = .ref e ∧ n' = (e, excO 59 tp (some d)) :: news ∧ ∀ p ∈ news, p.1 ≠ e) := by
  have tag63 : True := trivial
  intro mean mg mb dp un gd cn cs a ccd cl outer A₀ base h₀ L m hp0 gs0 dr0 tk0 os0 Q E B F X N T hk hd hu hret
  have q : xcIn (Mine.hd.heap_39 w.params) 59 bmW := xc_59 w
  refine xc_make (bm := bmW) (fI := 36) F X N q (by decide +kernel) (by decide +kernel) (by decide +kernel) (Nat.le_of_ble_eq_true rfl) (by kernel_rfl!) (by kernel_rfl!) ?_
  intro e tp h1 F1 N1 l1
  have l0 := lt_ne l1
  k_extra "mc_enter"
  k_steps
  exact hret _ _ _ _ ⟨_, _, _, rfl, rfl, l0⟩ (by k_asm) (cb_drop (by assumption) (by kcj_in))
-- 64
open PySem.Calls
/-- what a raise statement's value must be -/
noncomputable def RaiseEnd (C : Addr) (E : Value → Shared → Prop) (v : Value) (s₁ : Shared) : Prop :=
  ∃ e tp dd nm q N bs bm hdct sn sub ab col d0 k0 k1 k2 k3 k5 newId, v = .ref e ∧ bm.contains (.type "BaseException") = true ∧ s₁.heap.get? C = some (excClassObj nm q C N bs bm hdct sn sub ab col d0 k0 k1 k2 k3 k5 newId) ∧
    s₁.heap.get? e = some (excO C tp dd) ∧ E (.ref e) s₁
section
variable {M : Model} {A : Around} {E : Value → Shared → Prop} {s : Shared} {env : Env} {C : Addr}
theorem raise_made {x : Sem Value} {Q : Flow → Shared → Prop} (hh : A.handled = none) (h : wpAny M A x (RaiseEnd C E) E s) : wpAny M A (raiseStmt env (some x) none) Q E s := by
  unfold raiseStmt
  refine wpAny_bind (wpAny_mono h (fun v s₁ h₁ => ?_) fun _ _ x => x)
  obtain ⟨e, tp, dd, nm, q, N, bs, bm, hdct, sn, sub, ab, col, d0, k0, k1, k2, k3, k5, newId, rfl, hb, hC, he, hE⟩ := h₁
  have hcB : (Value.ref C :: bm).contains (.type "BaseException") = true := by rw [List.contains_cons, hb, Bool.or_true]
  obtain ⟨hp, g, d, tk, os⟩ := s₁
  have he' : hp.get? e = some { cls := .ref C, dict := dd, data := .fields #[.ref tp, .none, .none, .none, .bool false, .none] } := he
  repeat (first | with_reducible refine wpAny_loadPart_at he' ?_ | with_reducible refine wpAny_loadPart_at hC ?_ | (with_reducible refine wpAny_isSubtype_exc hC ?_; rw [hcB]) | wp_step)
  exact wpAny_raiseNew_none hh hE
theorem raise_at {x : Expr} {pos : Pos} {Q : Flow → Shared → Prop} (hh : A.handled = none) (h : wpAny M A (eval x env) (RaiseEnd C E) E s) : wpAny M A (exec (.Raise (some x) none pos) env) Q E s := by
  rw [arm_exec_Raise]
  refine wpAny_bind (wpAny_standAt ?_)
  refine raise_made (C := C) hh ?_
  exact wpAny_bind (wpAny_mono h (fun v s₁ h₁ => wpAny_bind (wpAny_standAt (wpAny_pure h₁))) fun _ _ x => x)
end
section
variable {M : Model} {A : Around} {E : Value → Shared → Prop} {s' : Shared} {base g : Heap} {outer : List Env} {L a e tp : Addr} {dd : Option Addr} {m : Str → Option Value} {name : Str} {scope : Scope} {cd : Value} {Q : Unit → Shared → Prop} {news : List (Addr × Obj)} {C : Addr}
theorem leave_fault (K : Below A base outer g) (F : Fr g L s'.heap m) (N : News g L s'.heap news) (he : (e, excO C tp dd) ∈ news) {keep : List (Addr × Obj)} (hkp : ∀ q ∈ keep, q ∈ news ∧ q.1 ≠ e)
    (hQ : ∀ h', RaisedSN base g outer e (.ref C) keep h' → g.UpToSlots h' → Q () { s' with heap := h' }) (hk : scope.kind = .function := by rfl) :
    wpAny M (A.deeper (envOf name scope L a cd)) (leaving (envOf name scope L a cd) (.ref e)) Q E s' := by
  have K' := K.push (name := name) (a := a) (cd := cd) F hk
  have hx := N _ he
  have heb : base.get? e = none := fresh_of_stays K.stays hx.2.2
  have hin : ∀ env ∈ (envOf name scope L a cd :: outer), ∀ b, env.frame = some b → b ∈ e :: (envOf name scope L a cd :: outer).filterMap (·.frame) := fun env he b hb => .tail _ (List.mem_filterMap.mpr ⟨env, he, hb⟩)
  have st : base.StaysIn (hideAll s'.heap (e :: (envOf name scope L a cd :: outer).filterMap (·.frame))) := fun b o q => hideAll_get _ (K'.stays b o q) fun hm => by
    rcases List.mem_cons.mp hm with rfl | hm
    · rw [heb] at q; cases q
    · rw [(K'.frames.mem hm).1] at q; cases q
  have sg : ∀ b o, g.get? b = some o → b ∉ outer.filterMap (·.frame) → (hideAll s'.heap (e :: (envOf name scope L a cd :: outer).filterMap (·.frame))).get? b = some o := fun b o q nm => hideAll_get _ (F.keep b o q) fun hm => by
    rcases List.mem_cons.mp hm with rfl | hm
    · rw [hx.2.2] at q; cases q
    · rcases kts_mem hm with z | z
      · rw [z, kts_self F] at q; cases q
      · exact nm z
  have hen : (hideAll s'.heap (e :: (envOf name scope L a cd :: outer).filterMap (·.frame))).get? e = none := hideAll_none _ (List.mem_cons_self ..)
  have hl : ∀ q ∈ keep, (hideAll s'.heap (e :: (envOf name scope L a cd :: outer).filterMap (·.frame))).get? q.1 = some q.2 ∧ g.get? q.1 = none ∧ base.get? q.1 = none := fun q hq => by
    have hn := N q (hkp q hq).1
    refine ⟨hideAll_get _ hn.1 fun hm => ?_, hn.2.2, fresh_of_stays K.stays hn.2.2⟩
    rcases List.mem_cons.mp hm with z | hm
    · exact (hkp q hq).2 z
    · obtain ⟨env, he, hf⟩ := List.mem_filterMap.mp hm
      rcases List.mem_cons.mp he with rfl | he
      · exact hn.2.1 (Option.some.inj hf).symm
      · obtain ⟨o, ho, _⟩ := (K.frames.mem (List.mem_filterMap.mpr ⟨env, he, hf⟩)).2
        rw [hn.2.2] at ho; cases ho
  refine wpAny_leaving_firstW (a0 := .ref tp) K'.stack (funFrames_hide K'.frames hin) rfl hx.1 (fun b o hb => of_hideAll _ hb) hen rfl rfl rfl fun h' hL => ?_
  obtain ⟨k1, ⟨_, _, k2⟩, k3, k4⟩ := hL
  exact hQ h' ⟨_, .ref tp, st, sg, hl, k1, hen, k2, k3⟩ ((Heap.UpToSlots.of_keeps F.keep).trans k4)
end
/-- a call of the def at f lets a WordFault fly -/
noncomputable def XC (w : World) (f : Addr) (vs : List Value) (news keep : Led) (kd ku : Nat) : Prop :=
  ∀ (mean : ExcName → Option Value) (mg mb : Str → Option Value) (dp un : Nat) (gd : Option (List Code)) (cn : Str) (cs : Scope) (a : Addr) (ccd : Value) (cl : List (Str × Addr)) (outer : List Env) (A₀ : Around) (base h₀ : Heap) (L : Addr)
    (m : Str → Option Value) (hp : Heap) (gs : Array GenState) (dr : Drawn) (tk0 : Nat) (os : OsState) (Q E : Value → Shared → Prop),
    Below A₀ base outer h₀ → Fr h₀ L hp m → (hd.heap_39 w.params).In h₀ → News h₀ L hp news → Top hd.view_39 LO mean mg mb h₀ → cs.kind = .function → dp + kd < recursionLimit → un + ku < cLine →
    (∀ e g h' tk', Fr h₀ L g m → RaisedSN base g (envX cn cs L a ccd cl :: outer) e (.ref 59) keep h' → g.UpToSlots h' → E (.ref e) ⟨h', gs, dr, tk', os⟩) →
    wpAny (model PySem.Challenge.rw_or0065_01.row.prog w) (ktrTop dp un gd cn cs L a ccd cl outer) (call (.ref f) vs) Q E ⟨hp, gs, dr, tk0, os⟩
theorem XC.use {w : World} {f : Addr} {vs : List Value} {kd ku : Nat}
  {mean : ExcName → Option Value} {mg mb : Str → Option Value} {dp un : Nat} {gd : Option (List Code)} {cn : Str} {cs : Scope} {a : Addr} {ccd : Value} {cl : List (Str × Addr)} {outer : List Env} {A₀ : Around} {base h₀ : Heap} {L : Addr}
    {m : Str → Option Value} {s : Shared} {Q E : Value → Shared → Prop} {news keep : Led} (h : XC w f vs news keep kd ku) (B : Below A₀ base outer h₀) (F : Fr h₀ L s.heap m) (X : (hd.heap_39 w.params).In h₀) (N : News h₀ L s.heap news) (T : Top hd.view_39 LO mean mg mb h₀) (hk : cs.kind = .function)
    (hd : dp + kd < recursionLimit) (hun : un + ku < cLine)
    (fly : ∀ e g h' tk', Fr h₀ L g m → RaisedSN base g (envX cn cs L a ccd cl :: outer) e (.ref 59) keep h' → g.UpToSlots h' → E (.ref e) { s with heap := h', toks := tk' }) :
    wpAny (model PySem.Challenge.rw_or0065_01.row.prog w) (ktrTop dp un gd cn cs L a ccd cl outer) (call (.ref f) vs) Q E s :=
  h mean mg mb dp un gd cn cs a ccd cl outer A₀ base h₀ L m s.heap s.gens s.drawn s.toks s.os Q E B F X N T hk hd hun fly
theorem cls59 {w : World} {g : Heap} {L : Addr} {m : Str → Option Value} {E : Value → Shared → Prop} {s : Shared} {e tp : Addr} {dd : Option Addr} {news : Led} (X : (hd.heap_39 w.params).In g) (F : Fr g L s.heap m) (N : News g L s.heap news) (he : (e, excO 59 tp dd) ∈ news) (hE : E (.ref e) s) : RaiseEnd 59 E (.ref e) s := by
  obtain ⟨nm, qn, NS, bs, sn, sub, ab, col, d0, k0, k1, k2, k3, k5, hC, _⟩ := xc_cls (X.keeps F.keep) (xc_59 w)
  exact ⟨e, tp, dd, nm, qn, NS, bs, bmW, true, sn, sub, ab, col, d0, k0, k1, k2, k3, k5, _, rfl, by decide +kernel, hC, (N _ he).1, hE⟩
theorem raised_sub {base G : Heap} {l : List Env} {e : Addr} {cls : Value} {keep keep' : Led} {h : Heap} (hs : ∀ q ∈ keep', q ∈ keep) (R : RaisedSN base G l e cls keep h) : RaisedSN base G l e cls keep' h := by
  obtain ⟨B, a0, h1, h2, h3, h4⟩ := R
  exact ⟨B, a0, h1, h2, fun q hq => h3 q (hs q hq), h4⟩
theorem news_drop1 {h₀ h : Heap} {L : Addr} {x : Addr × Obj} {l : Led} (N : News h₀ L h (x :: l)) : News h₀ L h l := fun p hp => N p (.tail _ hp)
theorem reg_m64 : True := by
  (k_with "eval Call" => (k_here; (with_reducible show wpAny _ _ (eval (Expr.Call (Expr.Name (Str.ofString "WordFault") _) _ [] _) _) _ _ _); k_dflt (refine Call_ ?_)))
  (k_with "call ref" => (k_here; (try dsimp only [List.nil_append, List.cons_append, List.append_nil]); (with_reducible show wpAny _ _ (call (Value.ref 59) [Value.str _ _, Value.int _ _]) _ _ _); k_dflt (refine' MC.use (new_fault _ _ _ _ _ _) ?Bq166 ?Fq166 ?Xq166 ?Nq166 ?Tq166 ?hkq166 ?hdq166 ?hunq166 ?_; (case Bq166 => k_asm); (case Fq166 => k_asm); (case Xq166 => k_asm); (case Nq166 => k_asm); (case Tq166 => k_asm); (case hkq166 => first | exact rfl | assumption);  (case hdq166 => ktr_room); (case hunq166 => ktr_units)); intro v9 n9 h9 tk9 hV9 F9 N9; (obtain ⟨e9, d9, t9, e8, e7, ne9⟩ := hV9; rw [e7] at N9; clear e7; subst e8); (try k_sweep); (try dsimp only); (try k_extra "kfold")))
  (k_with "exec Raise some none" => (k_here; (with_reducible show wpAny _ _ (exec (Stmt.Raise (some (Expr.Call (Expr.Name (Str.ofString "WordFault") _) _ [] _)) none _) _) _ _ _); k_dflt (refine raise_at (C := 59) rfl ?_)))
  trivial
-- 65
set_option maxHeartbeats 8000000 in
theorem take_token_bad (w : World) (c dc : Addr) (b : Array UInt8) (ks : List Int) (i : Int) (l : List Int) (k1 k2 k3 t1 t2 t3 : Tok) (rest : Led) (hcd : c ≠ dc) (hoff : ∀ p ∈ rest, p.1 ≠ dc)
   (hk : KBw.bInts b = ks) (hat : At ks i l) (hs : tokB (hd1 l) = false) (hsz : ks.length ≤ 16777216) :
   XC w 338 [.ref c] ((c, instObj 155 dc) :: (dc, curD w.params b i ks.length k1 k2 k3 t1 t2 t3) :: rest) rest 10 100 := by
  have tag65 : True := trivial
  intro mean mg mb dp un gd cn cs a ccd cl outer A₀ base h₀ L m hp0 gs0 dr0 tk0 os0 Q E B F X N T hkk hd hu hfly
  have hlo := hat.lo
  have hhi := hat.hi
  have hpk : tokB (pk ks i) = false := by rw [hat.pk_hd]; exact hs
  k_with "exec While Call cons nil" => (
    guard_hyp tag65 : True
    rename Fr _ _ _ _ => lF
    rename News _ _ _ _ => lN
    with_unfolding_all refine While_inv2 (JZ w.params c dc b ks.length i k1 k2 k3 t1 t3 rest) lF lN ⟨_, _⟩ ?_
    clear lF lN
    rintro n m₁ nx h₁ tk₁ F₁ N₁ ⟨t, t2'⟩)
  k_extra "mc_enter"
  k_steps
  refine cls59 (by k_asm) (by assumption) (by assumption) (by k_mem) ?_
  rename ∀ p ∈ _ :: _, _ => ne8
  refine leave_fault (by assumption) (by assumption) (by assumption) (by k_mem) (keep := rest) (fun q hq => ⟨.tail _ (.tail _ (.tail _ hq)), ne8 q (.tail _ (.tail _ hq))⟩) fun h8 S8 U8 => ?_
  exact hfly _ _ _ _ (by assumption) S8 U8
-- 66
set_option maxHeartbeats 8000000 in
theorem take_worth_bad (w : World) (c dc : Addr) (b : Array UInt8) (ks : List Int) (i : Int) (l : List Int) (k1 k2 k3 t1 t2 t3 : Tok) (rest : Led) (hcd : c ≠ dc) (hoff : ∀ p ∈ rest, p.1 ≠ dc)
   (hk : KBw.bInts b = ks) (hat : At ks i l) (hs : worthB (hd1 l) = false) (h34 : hd1 l ≠ 34) (hsz : ks.length ≤ 16777216) :
   XC w 352 [.ref c] ((c, instObj 155 dc) :: (dc, curD w.params b i ks.length k1 k2 k3 t1 t2 t3) :: rest) rest 12 120 := by
  have tag66 : True := trivial
  intro mean mg mb dp un gd cn cs a ccd cl outer A₀ base h₀ L m hp0 gs0 dr0 tk0 os0 Q E B F X N T hkk hd hu hfly
  have hlo := hat.lo
  have hhi := hat.hi
  have hpk : worthB (pk ks i) = false := by rw [hat.pk_hd]; exact hs
  have hq34 : pk ks i ≠ 34 := by rw [hat.pk_hd]; exact h34
  k_with "exec While Call cons nil" => (
    guard_hyp tag66 : True
    rename Fr _ _ _ _ => lF
    rename News _ _ _ _ => lN
    with_unfolding_all refine While_inv2 (JZ w.params c dc b ks.length i k1 k2 k3 t1 t3 rest) lF lN ⟨_, _⟩ ?_
    clear lF lN
    rintro n m₁ nx h₁ tk₁ F₁ N₁ ⟨t, t2'⟩)
  k_extra "mc_enter"
  k_steps
  refine cls59 (by k_asm) (by assumption) (by assumption) (by k_mem) ?_
  rename ∀ p ∈ _ :: _, _ => ne8
  refine leave_fault (by assumption) (by assumption) (by assumption) (by k_mem) (keep := rest) (fun q hq => ⟨.tail _ (.tail _ (.tail _ hq)), ne8 q (.tail _ (.tail _ hq))⟩) fun h8 S8 U8 => ?_
  exact hfly _ _ _ _ (by assumption) S8 U8
-- 67
theorem reg_p67 : True := by
  (k_with "eval Call" => (guard_hyp tag67 : True; (k_here; (with_reducible show wpAny _ _ (eval (Expr.Call (Expr.Name (Str.ofString "small_word") _) _ [] _) _) _ _ _); k_dflt (refine Call_ ?_))))
  (k_with "eval Call" => (guard_hyp tag67 : True; (k_here; (with_reducible show wpAny _ _ (eval (Expr.Call (Expr.Name (Str.ofString "take_token") _) _ [] _) _) _ _ _); k_dflt (refine Call_ ?_))))
  (k_with "eval Call" => (guard_hyp tag67 : True; (k_here; (with_reducible show wpAny _ _ (eval (Expr.Call (Expr.Name (Str.ofString "take_worth") _) _ [] _) _) _ _ _); k_dflt (refine Call_ ?_))))
  (k_with "eval Call" => (guard_hyp tag67 : True; (k_here; (with_reducible show wpAny _ _ (eval (Expr.Call (Expr.Name (Str.ofString "skip_between") _) _ [] _) _) _ _ _); k_dflt (refine Call_ ?_))))
  (k_with "call ref" => (guard_hyp tag67 : True; (k_here; (with_reducible show wpAny _ _ (call (Value.ref 338) _) _ _ _); k_dflt (refine' XC.use (take_token_bad _ _ _ _ _ _ _ _ _ _ _ _ _ _ ?p1q172 ?p2q172 ?p3q172 ?p4q172 ?p5q172 ?p6q172) ?Bq172 ?Fq172 ?Xq172 ?Nq172 ?Tq172 ?hkq172 ?hdq172 ?hunq172 ?_; (case Bq172 => k_asm); (case Fq172 => k_asm); (case Xq172 => k_asm); (case Nq172 => (refine' news_drop1 ?nq172; (case nq172 => k_asm))); (case Tq172 => k_asm); (case p3q172 => with_reducible assumption); (case p4q172 => with_reducible assumption); (case p5q172 => with_reducible assumption); (case p6q172 => with_reducible assumption); (case p1q172 => k_ne); (case p2q172 => k_all); (case hkq172 => first | exact rfl | assumption); (case hdq172 => ktr_room); (case hunq172 => ktr_units)); intro e8 g8 h8 tk8 FG8 R8 U8)))
  (k_with "call ref" => (guard_hyp tag67 : True; (k_here; (with_reducible show wpAny _ _ (call (Value.ref 352) _) _ _ _); k_dflt (refine' XC.use (take_worth_bad _ _ _ _ _ _ _ _ _ _ _ _ _ _ ?p1q173 ?p2q173 ?p3q173 ?p4q173 ?p5q173 ?p7q173 ?p6q173) ?Bq173 ?Fq173 ?Xq173 ?Nq173 ?Tq173 ?hkq173 ?hdq173 ?hunq173 ?_; (case Bq173 => k_asm); (case Fq173 => k_asm); (case Xq173 => k_asm); (case Nq173 => (refine' news_drop1 ?nq173; (case nq173 => k_asm))); (case Tq173 => k_asm); (case p3q173 => with_reducible assumption); (case p4q173 => with_reducible assumption); (case p5q173 => with_reducible assumption); (case p7q173 => with_reducible assumption); (case p6q173 => with_reducible assumption); (case p1q173 => k_ne); (case p2q173 => k_all); (case hkq173 => first | exact rfl | assumption); (case hdq173 => ktr_room); (case hunq173 => ktr_units)); intro e8 g8 h8 tk8 FG8 R8 U8)))
  (k_with "call ref" => (guard_hyp tag67 : True; (k_here; (with_reducible show wpAny _ _ (call (Value.ref 338) _) _ _ _); (with_reducible rename St1 _ => hS); (with_reducible rcases st1_cases hS (by assumption) with ⟨h1, h2⟩ | ⟨nm, u2, l2, a3, hn1, hn2, hn3, hu2, ht2, f1, f2, hS2, a4, a5, b4, b5, c4, c5⟩); all_goals clear hS)))
  (k_with "call ref" => (guard_hyp tag67 : True; (k_here; (with_reducible show wpAny _ _ (call (Value.ref 357) _) _ _ _); (with_reducible rename St2 _ => hS); (with_reducible rcases st2_cases hS (by assumption) (by assumption) with ⟨h1, h2⟩ | ⟨k9, l9, a5, h1, h2, h3⟩ | ⟨u3, l3, a5, hu3, f3, f4, hS3, c6, a6, a7, b6, b7, c7⟩); all_goals clear hS)))
  (k_with "call ref" => (guard_hyp tag67 : True; (k_here; (with_reducible show wpAny _ _ (call (Value.ref 352) _) _ _ _); (with_reducible rename St3 _ => hS); (with_reducible rcases st3_cases hS (by assumption) with ⟨h1, h2⟩ | ⟨wt, o, u4, r, a7, hwt, hu4, hpr, d1, d2, d3, a8, a9, b8, b9, c8, c9⟩); all_goals clear hS)))
  trivial
/-- a parameters' text that is refused, stage by stage -/
inductive PrsX : List Int → Prop
  | noName {u1 l : List Int} : Gp u1 → hd1 l = 61 → PrsX (59 :: (u1 ++ l))
  | noEq {u1 nm u2 l : List Int} : Gp u1 → (∀ c ∈ nm, tokB c = true) → nm ≠ [] → nm.length ≤ 100000 → Gp u2 → tokB (hd1 (u2 ++ l)) = false → whiteB (hd1 l) = false → hd1 l ≠ 40 → hd1 l ≠ 61 → PrsX (59 :: (u1 ++ (nm ++ (u2 ++ l))))
  | noWorth {u1 nm u2 u3 l : List Int} : Gp u1 → (∀ c ∈ nm, tokB c = true) → nm ≠ [] → nm.length ≤ 100000 → Gp u2 → Gp u3 → hd1 l = 59 ∨ hd1 l = -1 → PrsX (59 :: (u1 ++ (nm ++ (u2 ++ (61 :: (u3 ++ l))))))
  | pair {u1 nm u2 u3 wt o u4 r : List Int} : Gp u1 → (∀ c ∈ nm, tokB c = true) → nm ≠ [] → nm.length ≤ 100000 → Gp u2 → Gp u3 → Wt wt o → Gp u4 → PrsX r →
      PrsX (59 :: (u1 ++ (nm ++ (u2 ++ (61 :: (u3 ++ (wt ++ (u4 ++ r))))))))
theorem PrsX.hd {r : List Int} (h : PrsX r) : hd1 r = 59 := by cases h <;> rfl
theorem PrsX.white {r : List Int} (h : PrsX r) : whiteB (hd1 r) = false ∧ hd1 r ≠ 40 ∧ worthB (hd1 r) = false := by rw [h.hd]; decide
noncomputable abbrev St3 (l : List Int) : Prop := (hd1 l = 59 ∨ hd1 l = -1) ∨ ∃ wt o u4 r, l = wt ++ (u4 ++ r) ∧ Wt wt o ∧ Gp u4 ∧ PrsX r
noncomputable abbrev St2 (l : List Int) : Prop := hd1 l ≠ 61 ∨ ∃ u3 l3, l = 61 :: (u3 ++ l3) ∧ Gp u3 ∧ whiteB (hd1 l3) = false ∧ hd1 l3 ≠ 40 ∧ St3 l3
noncomputable def St1 (l : List Int) : Prop := hd1 l = 61 ∨ ∃ nm u2 l2, l = nm ++ (u2 ++ l2) ∧ (∀ c ∈ nm, tokB c = true) ∧ nm ≠ [] ∧ nm.length ≤ 100000 ∧ Gp u2 ∧ tokB (hd1 (u2 ++ l2)) = false ∧ whiteB (hd1 l2) = false ∧ hd1 l2 ≠ 40 ∧ St2 l2
theorem PrsX.st {r : List Int} (h : PrsX r) : ∃ u1 l1, r = 59 :: (u1 ++ l1) ∧ Gp u1 ∧ whiteB (hd1 l1) = false ∧ hd1 l1 ≠ 40 ∧ hd1 l1 ≠ 59 ∧ 0 ≤ hd1 l1 ∧ St1 l1 := by
  have w61 : ∀ l, whiteB (hd1 (61 :: l)) = false ∧ hd1 (61 :: l) ≠ 40 := fun l => ⟨by show whiteB 61 = false; decide, by show (61 : Int) ≠ 40; decide⟩
  cases h with
  | noName g h => exact ⟨_, _, rfl, g, by rw [h]; decide, by rw [h]; decide, by rw [h]; decide, by rw [h]; decide, .inl h⟩
  | @noEq _ _ u2 l g h1 h2 h3 g2 ht hw h40 h61 =>
    have q := tok_head (l := u2 ++ l) h1 h2
    have q2 := tok_not q
    exact ⟨_, _, rfl, g, q2.1, q2.2.1, q2.2.2.1, tok_pos q, .inr ⟨_, _, _, rfl, h1, h2, h3, g2, ht, hw, h40, .inl h61⟩⟩
  | @noWorth _ _ u2 u3 l g h1 h2 h3 g2 g3 h59 =>
    have q := tok_head (l := u2 ++ (61 :: (u3 ++ l))) h1 h2
    have q2 := tok_not q
    exact ⟨_, _, rfl, g, q2.1, q2.2.1, q2.2.2.1, tok_pos q, .inr ⟨_, _, _, rfl, h1, h2, h3, g2, g2.tok tok61, (w61 _).1, (w61 _).2, .inr ⟨_, _, rfl, g3, by rcases h59 with h | h <;> rw [h] <;> decide, by rcases h59 with h | h <;> rw [h] <;> decide, .inl h59⟩⟩⟩
  | @pair _ _ u2 u3 wt o u4 r g h1 h2 h3 g2 g3 hw g4 hr =>
    have q := tok_head (l := u2 ++ (61 :: (u3 ++ (wt ++ (u4 ++ r))))) h1 h2
    have q2 := tok_not q
    have q3 := hw.head (l := u4 ++ r)
    exact ⟨_, _, rfl, g, q2.1, q2.2.1, q2.2.2.1, tok_pos q, .inr ⟨_, _, _, rfl, h1, h2, h3, g2, g2.tok tok61, (w61 _).1, (w61 _).2, .inr ⟨_, _, rfl, g3, q3.1, q3.2, .inr ⟨_, _, _, _, rfl, hw, g4, hr⟩⟩⟩⟩
theorem facts61 {l : List Int} (h : hd1 l = 61) : tokB (hd1 l) = false ∧ whiteB (hd1 l) = false ∧ hd1 l ≠ 40 ∧ hd1 l ≠ 59 := by rw [h]; decide
theorem facts59 {l : List Int} (h : hd1 l = 59 ∨ hd1 l = -1) : worthB (hd1 l) = false ∧ hd1 l ≠ 34 ∧ whiteB (hd1 l) = false ∧ hd1 l ≠ 40 := by rcases h with h | h <;> rw [h] <;> decide
theorem At.shorter {ks : List Int} {p p' : Int} {u r : List Int} (h : At ks p u) (h' : At ks p' r) (hlt : p < p') : r.length < u.length := by
  have := h.len
  have := h'.len
  omega
theorem hd1_ne {k j : Int} {l : List Int} (h : hd1 (k :: l) ≠ j) : k ≠ j := h
theorem At.bound {b : Array UInt8} {ks : List Int} {i k : Int} {l : List Int} (hk : KBw.bInts b = ks) (h : At ks i (k :: l)) : 0 ≤ k := by
  have : k ∈ ks := by
    have := h.eq
    exact List.mem_of_mem_drop (i := i.toNat) (by rw [this]; exact List.mem_cons_self ..)
  exact (KBw.ints_in (hk ▸ this : k ∈ KBw.bInts b)).1
theorem news_two {h₀ h : Heap} {L c dc : Addr} {o1 o2 : Obj} {news : Led} (N : News h₀ L h news) (h1 : (c, o1) ∈ news) (h2 : (dc, o2) ∈ news) : News h₀ L h [(c, o1), (dc, o2)] := by
  intro p hp
  rcases List.mem_cons.mp hp with rfl | hp
  · exact N _ h1
  · rw [List.mem_singleton.mp hp]; exact N _ h2
theorem off_nil {dc : Addr} : ∀ p ∈ ([] : Led), p.1 ≠ dc := fun p hp => nomatch hp
inductive S1C (ks : List Int) (i : Int) (l : List Int) : Prop
  | no (h1 : hd1 l = 61) (h2 : tokB (hd1 l) = false)
  | yes (nm u2 l2 : List Int) (a3 : At ks i (nm ++ (u2 ++ l2))) (hn1 : ∀ c ∈ nm, tokB c = true) (hn2 : nm ≠ []) (hn3 : nm.length ≤ 100000) (hu2 : Gp u2) (ht2 : tokB (hd1 (u2 ++ l2)) = false) (f1 : whiteB (hd1 l2) = false) (f2 : hd1 l2 ≠ 40) (hS2 : St2 l2) (a4 : At ks (i + nm.length) (u2 ++ l2)) (a5 : At ks (i + nm.length + u2.length) l2)
      (b4 : 0 ≤ i + nm.length) (b5 : 0 ≤ i + nm.length + u2.length) (c4 : i + nm.length ≤ ks.length) (c5 : i + nm.length + u2.length ≤ ks.length)
inductive S2C (ks : List Int) (i : Int) : Prop
  | no (h1 : pk ks i = -1) (h2 : i = ks.length)
  | other (k9 : Int) (l9 : List Int) (a5 : At ks i (k9 :: l9)) (h1 : k9 ≠ 61) (h2 : 0 ≤ k9) (h3 : i < ks.length)
  | yes (u3 l3 : List Int) (a5 : At ks i (61 :: (u3 ++ l3))) (hu3 : Gp u3) (f3 : whiteB (hd1 l3) = false) (f4 : hd1 l3 ≠ 40) (hS3 : St3 l3) (c6 : i < ks.length) (a6 : At ks (i + 1) (u3 ++ l3)) (a7 : At ks (i + 1 + u3.length) l3) (b6 : 0 ≤ i + 1) (b7 : 0 ≤ i + 1 + u3.length) (c7 : i + 1 + u3.length ≤ ks.length)
inductive S3C (ks : List Int) (i : Int) (l : List Int) : Prop
  | no (h1 : worthB (hd1 l) = false) (h2 : hd1 l ≠ 34)
  | yes (wt o u4 r : List Int) (a7 : At ks i (wt ++ (u4 ++ r))) (hwt : Wt wt o) (hu4 : Gp u4) (hpr : PrsX r) (d1 : whiteB (hd1 r) = false) (d2 : hd1 r ≠ 40) (d3 : worthB (hd1 (u4 ++ r)) = false) (a8 : At ks (i + wt.length) (u4 ++ r)) (a9 : At ks (i + wt.length + u4.length) r)
      (b8 : 0 ≤ i + wt.length) (b9 : 0 ≤ i + wt.length + u4.length) (c8 : i + wt.length ≤ ks.length) (c9 : i + wt.length + u4.length ≤ ks.length)
theorem st1_cases {ks : List Int} {i : Int} {l : List Int} (h : St1 l) (a : At ks i l) : S1C ks i l := by
  rcases h with h61 | ⟨nm, u2, l2, rfl, hn1, hn2, hn3, hu2, ht2, f1, f2, hS2⟩
  · exact .no h61 (facts61 h61).1
  · have a4 := a.app
    have a5 := a4.app
    exact .yes nm u2 l2 a hn1 hn2 hn3 hu2 ht2 f1 f2 hS2 a4 a5 a4.lo a5.lo a4.hi a5.hi
theorem st2_cases {b : Array UInt8} {ks : List Int} {i : Int} {l : List Int} (h : St2 l) (a : At ks i l) (hk : KBw.bInts b = ks) : S2C ks i := by
  rcases h with h61 | ⟨u3, l3, rfl, hu3, f3, f4, hS3⟩
  · rcases l with _ | ⟨k9, l9⟩
    · exact .no a.pk_done a.done
    · exact .other k9 l9 a h61 (At.bound hk a) a.lt
  · have a6 := a.next
    have a7 := a6.app
    exact .yes u3 l3 a hu3 f3 f4 hS3 a.lt a6 a7 a6.lo a7.lo a7.hi
theorem st3_cases {ks : List Int} {i : Int} {l : List Int} (h : St3 l) (a : At ks i l) : S3C ks i l := by
  rcases h with h59 | ⟨wt, o, u4, r, rfl, hwt, hu4, hpr⟩
  · exact .no (facts59 h59).1 (facts59 h59).2.1
  · have a8 := a.app
    have a9 := a8.app
    exact .yes wt o u4 r a hwt hu4 hpr hpr.white.1 hpr.white.2.1 (hu4.worth hpr.white.2.2) a8 a9 a8.lo a9.lo a8.hi a9.hi
inductive J67 (P : Params) (c dc : Addr) (b : Array UInt8) (ks : List Int) (k1 k2 k3 t1 t3 : Tok) (rest : Led) : Nat → (Str → Option Value) → Led → Prop
  | mk {m : Str → Option Value} (D : Addr) (q : List Int) (p : Int) (t2' : Tok) (its : Array Value) (k : Nat) (tl : Led) (hpq : PrsX q) (hat1 : At ks p q) (hz1 : its.size ≤ p)
    (hof1 : ∀ p ∈ tl ++ rest, p.1 ≠ dc) (hof2 : ∀ p ∈ tl ++ rest, p.1 ≠ D) (hcD : c ≠ D) (hDd : D ≠ dc) (hov : OvrAll m [(Str.ofString "cursor", .ref c), (Str.ofString "pairs", .ref D)]) :
      J67 P c dc b ks k1 k2 k3 t1 t3 rest q.length m ((D, listOf its k) :: (c, instObj 155 dc) :: (dc, curD P b p ks.length k1 k2 k3 t1 t2' t3) :: (tl ++ rest))
set_option maxHeartbeats 8000000 in
theorem take_pairs_bad (w : World) (c dc : Addr) (b : Array UInt8) (ks : List Int) (i : Int) (u r : List Int) (k1 k2 k3 t1 t2 t3 : Tok) (rest : Led) (hcd : c ≠ dc) (hoff : ∀ p ∈ rest, p.1 ≠ dc)
   (hk : KBw.bInts b = ks) (hat : At ks i (u ++ r)) (hg : Gp u) (hp : PrsX r) (hsz : ks.length ≤ 1000000) :
   XC w 364 [.ref c] ((c, instObj 155 dc) :: (dc, curD w.params b i ks.length k1 k2 k3 t1 t2 t3) :: rest) rest 16 160 := by
  have tag67 : True := trivial
  intro mean mg mb dp un gd cn cs a ccd cl outer A₀ base h₀ L m hp0 gs0 dr0 tk0 os0 Q E B F X N T hkk hd hu hfly
  have hsz2 : ks.length ≤ 16777216 := by omega
  have hw0 := hp.white
  have hw1 := hw0.1
  have hw2 := hw0.2.1
  have hlo := hat.lo
  have hhi := hat.hi
  k_with "exec While UnaryOp cons nil" => (
    guard_hyp tag67 : True
    rename Fr _ _ _ _ => lF
    rename News _ _ _ _ => lN
    rename _ ∧ _ ∧ AllLt _ _ => lA
    with_unfolding_all refine While_inv2 (J67 w.params c dc b ks k1 k2 k3 t1 t3 rest) lF lN (n₀ := r.length) ?_ ?_
    focus (with_unfolding_all exact ⟨_, r, i + u.length, _, #[], _, [], hp, hat.app, Int.le_trans (Int.natCast_nonneg _) hat.app.lo, hoff, allLt_ne lA.2.2, Nat.ne_of_lt lA.1, Nat.ne_of_gt lA.2.1, ⟨rfl, rfl, trivial⟩⟩)
    clear lF lN lA
    rintro n m₁ nx h₁ tk₁ F₁ N₁ ⟨D, q, p, t2', its, k, tl, hpq, hat1, hz1, hof1, hof2, hcD, hDd, hov⟩
    replace F₁ := fr_ovr F₁ _ hov
    clear hw0 hw1 hw2 hlo hhi hat hg hp
    obtain ⟨u1, l1, rfl, hu1, d7, d8, d9, dp1, hS1⟩ := hpq.st
    clear hpq
    have hlo := hat1.lo
    have hhi := hat1.hi
    have hlt := hat1.lt; have a2 := hat1.next; have a3 := a2.app; have b2 := a2.lo; have b3 := a3.lo; have c3 := a3.hi; have e3 := a3.pk_hd; have e4 := a3.lt1 dp1)
  k_extra "mc_enter"
  k_steps
  · rename RaisedSN _ _ _ _ _ _ _ => R8
    rename Heap.UpToSlots _ _ => U8
    refine' leave_onSN ?K ?F R8 U8 fun h7 S7 _ U7 => ?z
    case K => assumption
    case F => assumption
    case z => exact hfly _ _ _ _ (by assumption) (raised_sub (fun q hq => List.mem_append_right _ hq) S7) U7
  · refine cls59 (by k_asm) (by assumption) (by assumption) (by k_mem) ?_
    rename ∀ p ∈ _ :: _, _ => ne8
    refine leave_fault (by assumption) (by assumption) (by assumption) (by k_mem) (keep := rest) (fun q hq => ⟨.tail _ (.tail _ (.tail _ (.tail _ (List.mem_append_right _ hq)))), ne8 q (.tail _ (.tail _ (.tail _ (List.mem_append_right _ hq))))⟩) fun h8 S8 U8 => ?_
    exact hfly _ _ _ _ (by assumption) S8 U8
  · refine cls59 (by k_asm) (by assumption) (by assumption) (by k_mem) ?_
    rename ∀ p ∈ _ :: _, _ => ne8
    refine leave_fault (by assumption) (by assumption) (by assumption) (by k_mem) (keep := rest) (fun q hq => ⟨.tail _ (.tail _ (.tail _ (.tail _ (List.mem_append_right _ hq)))), ne8 q (.tail _ (.tail _ (.tail _ (List.mem_append_right _ hq))))⟩) fun h8 S8 U8 => ?_
    exact hfly _ _ _ _ (by assumption) S8 U8
  · rename RaisedSN _ _ _ _ _ _ _ => R8
    rename Heap.UpToSlots _ _ => U8
    refine' leave_onSN ?K ?F R8 U8 fun h7 S7 _ U7 => ?z
    case K => assumption
    case F => assumption
    case z => exact hfly _ _ _ _ (by assumption) (raised_sub (fun q hq => List.mem_append_right _ hq) S7) U7
  · rename PrsX _ => hpr9
    rename _ ∧ _ ∧ _ ∧ AllLt _ _ => lA
    refine' while_next ?F ?N ?n ⟨D, _, _, _, _, _, _, hpr9, ?a, ?z, ?o1, ?o2, hcD, hDd, ?ov⟩
    case F => assumption
    case N => exact tp_close (by assumption)
    case ov => exact ⟨rfl, rfl, trivial⟩
    case o1 => exact offC (Nat.ne_of_gt lA.2.2.1) hof1
    case o2 => exact offC (Nat.ne_of_gt lA.1) hof2
    case a => assumption
    case n => exact At.shorter hat1 (by assumption) (by omega)
    case z => rw [Array.size_push]; omega
-- 68
theorem reg_p68 : True := by
  (k_with "eval Call" => (guard_hyp tag68 : True; (k_here; (with_reducible show wpAny _ _ (eval (Expr.Call (Expr.Name (Str.ofString "skip_between") _) _ [] _) _) _ _ _); k_dflt (refine Call_ ?_))))
  (k_with "eval Call" => (guard_hyp tag68 : True; (k_here; (with_reducible show wpAny _ _ (eval (Expr.Call (Expr.Name (Str.ofString "take_token") _) _ [] _) _) _ _ _); k_dflt (refine Call_ ?_))))
  (k_with "eval Call" => (guard_hyp tag68 : True; (k_here; (with_reducible show wpAny _ _ (eval (Expr.Call (Expr.Name (Str.ofString "small_word") _) _ [] _) _) _ _ _); k_dflt (refine Call_ ?_))))
  (k_with "eval Call" => (guard_hyp tag68 : True; (k_here; (with_reducible show wpAny _ _ (eval (Expr.Call (Expr.Name (Str.ofString "take_pairs") _) _ [] _) _) _ _ _); k_dflt (refine Call_ ?_))))
  (k_with "eval Call" => (guard_hyp tag68 : True; (k_here; (with_reducible show wpAny _ _ (eval (Expr.Call (Expr.Name (Str.ofString "params_of") _) _ [] _) _) _ _ _); k_dflt (refine Call_ ?_))))
  (k_with "call ref" => (guard_hyp tag68 : True; (k_here; (try dsimp only [List.nil_append, List.cons_append, List.append_nil]); (with_reducible show wpAny _ _ (call (Value.ref 124) [Value.ref _, Value.bytes _ _]) _ _ _); k_dflt (refine' CC.useB (skip_ok _ _ _ _ _ _ _ _ ?p1q182 ?p2q182 ?p3q182) ?Bq182 ?Fq182 ?Xq182 ?Nq182 ?Tq182 ?hkq182 ?hcq182 ?huq182 ?hdq182 ?hunq182 ?_; (case Bq182 => k_asm); (case Fq182 => k_asm); (case Xq182 => k_asm); (case Nq182 => k_asm); (case Tq182 => k_asm); (case hkq182 => first | exact rfl | assumption); (case hcq182 => k_mem); (case huq182 => (intro t9; k_upd)); (case p1q182 => with_reducible assumption); (case p2q182 => with_reducible assumption); (case p3q182 => with_reducible assumption); (case hdq182 => ktr_room); (case hunq182 => ktr_units)); intro t9 h9 tk9 F9 N9; (try k_sweep); (try dsimp only); (try k_extra "kfold"))))
  (k_with "call ref" => (guard_hyp tag68 : True; (k_here; (try dsimp only [List.nil_append, List.cons_append, List.append_nil]); (with_reducible show wpAny _ _ (call (Value.ref 124) [Value.ref _, Value.bytes _ _]) _ _ _); k_dflt (refine' CC.useB (skip_no _ _ _ _ _ _ _ _ ?p1q183 ?p2q183 ?p4q183 ?p3q183) ?Bq183 ?Fq183 ?Xq183 ?Nq183 ?Tq183 ?hkq183 ?hcq183 ?huq183 ?hdq183 ?hunq183 ?_; (case Bq183 => k_asm); (case Fq183 => k_asm); (case Xq183 => k_asm); (case Nq183 => k_asm); (case Tq183 => k_asm); (case hkq183 => first | exact rfl | assumption); (case hcq183 => k_mem); (case huq183 => (intro t9; k_upd)); (case p1q183 => with_reducible assumption); (case p2q183 => with_reducible assumption); (case p4q183 => with_reducible assumption); (case p3q183 => with_reducible assumption); (case hdq183 => ktr_room); (case hunq183 => ktr_units)); intro t9 h9 tk9 F9 N9; (try k_sweep); (try dsimp only); (try k_extra "kfold"))))
  (k_with "call ref" => (guard_hyp tag68 : True; (k_here; (with_reducible show wpAny _ _ (call (Value.ref 338) _) _ _ _); k_dflt (refine' XC.use (take_token_bad _ _ _ _ _ _ _ _ _ _ _ _ _ _ ?p1q184 ?p2q184 ?p3q184 ?p4q184 ?p5q184 ?p6q184) ?Bq184 ?Fq184 ?Xq184 ?Nq184 ?Tq184 ?hkq184 ?hdq184 ?hunq184 ?_; (case Bq184 => k_asm); (case Fq184 => k_asm); (case Xq184 => k_asm); (case Nq184 => k_asm); (case Tq184 => k_asm); (case p3q184 => with_reducible assumption); (case p4q184 => with_reducible assumption); (case p5q184 => with_reducible assumption); (case p6q184 => with_reducible assumption); (case p1q184 => k_ne); (case p2q184 => k_all); (case hkq184 => first | exact rfl | assumption); (case hdq184 => ktr_room); (case hunq184 => ktr_units)); intro e8 g8 h8 tk8 FG8 R8 U8)))
  (k_with "call ref" => (guard_hyp tag68 : True; (k_here; (with_reducible show wpAny _ _ (call (Value.ref 364) _) _ _ _); k_dflt (refine' XC.use (take_pairs_bad _ _ _ _ _ _ _ _ _ _ _ _ _ _ _ ?p1q185 ?p2q185 ?p3q185 ?p4q185 ?p5q185 ?p6q185 ?p7q185) ?Bq185 ?Fq185 ?Xq185 ?Nq185 ?Tq185 ?hkq185 ?hdq185 ?hunq185 ?_; (case Bq185 => k_asm); (case Fq185 => k_asm); (case Xq185 => k_asm); (case Nq185 => k_asm); (case Tq185 => k_asm); (case p3q185 => with_reducible assumption); (case p4q185 => with_reducible assumption); (case p5q185 => with_reducible assumption); (case p6q185 => with_reducible assumption); (case p7q185 => with_reducible assumption); (case p1q185 => k_ne); (case p2q185 => k_all); (case hkq185 => first | exact rfl | assumption); (case hdq185 => ktr_room); (case hunq185 => ktr_units)); intro e8 g8 h8 tk8 FG8 R8 U8)))
  (k_with "call ref" => (guard_hyp tag68 : True; (k_here; (with_reducible show wpAny _ _ (call (Value.ref 338) _) _ _ _); (with_reducible rename Kx1 _ => hS); (with_reducible rcases kx1_cases hS (by assumption) with h1 | ⟨nm, u2, l2, a3, hn1, hn2, hn3, hu2, ht2, f1, f2, hS2, a4, a5⟩); all_goals clear hS)))
  (k_with "call ref" => (guard_hyp tag68 : True; (k_here; (with_reducible show wpAny _ _ (call (Value.ref 124) _) _ _ _); (with_reducible rename Kx2 _ => hS); (with_reducible rcases kx2_cases hS (by assumption) with h1 | ⟨u2, l3, a3, hu2, f1, f2, hS2, a4, a5⟩); all_goals clear hS)))
  (k_with "call ref" => (guard_hyp tag68 : True; (k_here; (with_reducible show wpAny _ _ (call (Value.ref 338) _) _ _ _); (with_reducible rename Kx3 _ => hS); (with_reducible rcases kx3_cases hS (by assumption) with h1 | ⟨nm, u2, l2, a3, hn1, hn2, hn3, hu2, ht2, hpr, a4⟩); all_goals clear hS)))
  trivial
noncomputable abbrev Kx3 (l : List Int) : Prop := (hd1 l = 59 ∨ hd1 l = -1) ∨ ∃ sub u3 r, l = sub ++ (u3 ++ r) ∧ (∀ c ∈ sub, tokB c = true) ∧ sub ≠ [] ∧ sub.length ≤ 100000 ∧ Gp u3 ∧ PrsX r
noncomputable abbrev Kx2 (l : List Int) : Prop := hd1 l ≠ 47 ∨ ∃ u2 l3, l = 47 :: (u2 ++ l3) ∧ Gp u2 ∧ whiteB (hd1 l3) = false ∧ hd1 l3 ≠ 40 ∧ Kx3 l3
noncomputable abbrev Kx1 (l : List Int) : Prop := hd1 l = 47 ∨ ∃ top u1 l2, l = top ++ (u1 ++ l2) ∧ (∀ c ∈ top, tokB c = true) ∧ top ≠ [] ∧ top.length ≤ 100000 ∧ Gp u1 ∧ tokB (hd1 (u1 ++ l2)) = false ∧ whiteB (hd1 l2) = false ∧ hd1 l2 ≠ 40 ∧ Kx2 l2
theorem kx1_cases {ks : List Int} {i : Int} {l : List Int} (h : Kx1 l) (a : At ks i l) : tokB (hd1 l) = false ∨
    (∃ top u1 l2, At ks i (top ++ (u1 ++ l2)) ∧ (∀ c ∈ top, tokB c = true) ∧ top ≠ [] ∧ top.length ≤ 100000 ∧ Gp u1 ∧ tokB (hd1 (u1 ++ l2)) = false ∧ whiteB (hd1 l2) = false ∧ hd1 l2 ≠ 40 ∧ Kx2 l2 ∧ At ks (i + top.length) (u1 ++ l2) ∧ At ks (i + top.length + u1.length) l2) := by
  rcases h with h | ⟨top, u1, l2, rfl, h1, h2, h3, g, ht, f1, f2, hS⟩
  · exact .inl (by rw [h]; decide)
  · exact .inr ⟨top, u1, l2, a, h1, h2, h3, g, ht, f1, f2, hS, a.app, a.app.app⟩
theorem kx2_cases {ks : List Int} {i : Int} {l : List Int} (h : Kx2 l) (a : At ks i l) : hd1 l ≠ 47 ∨
    (∃ u2 l3, At ks i (47 :: (u2 ++ l3)) ∧ Gp u2 ∧ whiteB (hd1 l3) = false ∧ hd1 l3 ≠ 40 ∧ Kx3 l3 ∧ At ks (i + 1) (u2 ++ l3) ∧ At ks (i + 1 + u2.length) l3) := by
  rcases h with h | ⟨u2, l3, rfl, g, f1, f2, hS⟩
  · exact .inl h
  · exact .inr ⟨u2, l3, a, g, f1, f2, hS, a.next, a.next.app⟩
theorem kx3_cases {ks : List Int} {i : Int} {l : List Int} (h : Kx3 l) (a : At ks i l) : tokB (hd1 l) = false ∨
    (∃ sub u3 r, At ks i (sub ++ (u3 ++ r)) ∧ (∀ c ∈ sub, tokB c = true) ∧ sub ≠ [] ∧ sub.length ≤ 100000 ∧ Gp u3 ∧ tokB (hd1 (u3 ++ r)) = false ∧ PrsX r ∧ At ks (i + sub.length) (u3 ++ r)) := by
  rcases h with h | ⟨sub, u3, r, rfl, h1, h2, h3, g, hr⟩
  · exact .inl (by rcases h with h | h <;> rw [h] <;> decide)
  · exact .inr ⟨sub, u3, r, a, h1, h2, h3, g, g.tok (by rw [hr.hd]; decide), hr, a.app⟩
theorem skip_no (w : World) (c dc : Addr) (b : Array UInt8) (ks : List Int) (i : Int) (l : List Int) (t : Tok) (hk : KBw.bInts b = ks) (hat : At ks i l) (h : hd1 l ≠ 47) (hsz : ks.length ≤ 16777216) :
   CC w 124 [.ref c, .bytes #[47] t] c dc b ks.length i i 2 20 (BoolV false) := by
  have q := skip_slash w c dc b ks i l t hk hat hsz
  rw [if_neg h, decide_eq_false h] at q
  exact q
set_option maxHeartbeats 8000000 in
theorem strict_kind_bad (w : World) (b : Array UInt8) (t : Tok) (ks u0 l : List Int) (news : Led) (hk : KBw.bInts b = ks) (hsz : ks.length ≤ 1000000) (hks : ks = u0 ++ l) (g0 : Gp u0) (hw : whiteB (hd1 l) = false) (h40 : hd1 l ≠ 40) (hS : Kx1 l) :
    XC w 416 [.bytes b t] news news 24 260 := by
  have tag68 : True := trivial
  intro mean mg mb dp un gd cn cs a ccd cl outer A₀ base h₀ L m hp0 gs0 dr0 tk0 os0 Q E B F X N T hkk hd hu hfly
  have hsz2 : ks.length ≤ 16777216 := by omega
  have a0 : At ks 0 (u0 ++ l) := hks ▸ At.start ks
  have a1 := a0.app
  k_extra "mc_enter"
  k_steps
  · rename RaisedSN _ _ _ _ _ _ _ => R8
    rename Heap.UpToSlots _ _ => U8
    refine' leave_onSN ?K ?F R8 U8 fun h7 S7 _ U7 => ?z
    case K => assumption
    case F => assumption
    case z => exact hfly _ _ _ _ (by assumption) S7 U7
  · refine cls59 (by k_asm) (by assumption) (by assumption) (by k_mem) ?_
    rename ∀ p ∈ _ :: _, _ => ne8
    refine leave_fault (by assumption) (by assumption) (by assumption) (by k_mem) (keep := news) (fun q hq => ⟨.tail _ (.tail _ (.tail _ hq)), ne8 q (.tail _ (.tail _ hq))⟩) fun h8 S8 U8 => ?_
    exact hfly _ _ _ _ (by assumption) S8 U8
  · rename RaisedSN _ _ _ _ _ _ _ => R8
    rename Heap.UpToSlots _ _ => U8
    refine' leave_onSN ?K ?F R8 U8 fun h7 S7 _ U7 => ?z
    case K => assumption
    case F => assumption
    case z => exact hfly _ _ _ _ (by assumption) S7 U7
  · rename RaisedSN _ _ _ _ _ _ _ => R8
    rename Heap.UpToSlots _ _ => U8
    refine' leave_onSN ?K ?F R8 U8 fun h7 S7 _ U7 => ?z
    case K => assumption
    case F => assumption
    case z => exact hfly _ _ _ _ (by assumption) S7 U7
-- 69
theorem reg_p69 : True := by
  (k_with "eval Call" => (guard_hyp tag69 : True; (k_here; (with_reducible show wpAny _ _ (eval (Expr.Call (Expr.Name (Str.ofString "strict_kind") _) _ [] _) _) _ _ _); k_dflt (refine Call_ ?_))))
  (k_with "hc_enter" => (guard_hyp tag69 : True; (refine wpAny_call ?_; k_dflt (refine' code_defS0 ?k1q190 ?k2q190 ?k3q190 ?k4q190 ?k5q190 ?kAq190 ?k6q190 ?k7q190 ?k8q190 ?k9q190 ?kBq190 ?_ ?cKq190 ?c2q190 ?c3q190 ?c4q190 ?c5q190; (case kAq190 => exact rfl); (case k2q190 => k_asm); (case k1q190 => k_asm); (case k3q190 => k_asm); (case k4q190 => k_asm); (case k5q190 => k_asm); (case k6q190 => k_is); (case k7q190 => k_is); (case k8q190 => ktr_room); (case k9q190 => first | exact BindsTo.of_eq rfl | exact binds_K (by k_in) rfl (by k_is) rfl rfl rfl); (case kBq190 => exact locs rfl); (case cKq190 => assumption); (case c2q190 => exact rfl); (case c3q190 => exact rfl); (case c4q190 => exact rfl); (case c5q190 => decide); k_whole; intro g' L' h' FG' F' N' B' X' T' D'; (try dsimp only); (try k_lift B'); (try k_extra "kfold")))))
  trivial
/-- what a call of the def at f does, from the law's own frame -/
noncomputable def HC (w : World) (f : Addr) (vs : List Value) (news : Led) (kd ku : Nat) (Post : Value → Led → Prop) : Prop :=
  ∀ (mean : ExcName → Option Value) (mg mb : Str → Option Value) (dp un : Nat) (gd : Option (List Code)) (cn : Str) (cs : Scope) (a : Addr) (ccd : Value) (A₀ : Around) (h₀ : Heap) (L : Addr)
    (m : Str → Option Value) (hp : Heap) (gs : Array GenState) (dr : Drawn) (tk0 : Nat) (os : OsState) (Q E : Value → Shared → Prop),
    Below A₀ h₀ [] h₀ → Fr h₀ L hp m → (hd.heap_39 w.params).In h₀ → News h₀ L hp news → Top hd.view_39 LO mean mg mb h₀ → cs.kind = .function → dp + kd < recursionLimit → un + ku < cLine →
    (∀ v news' h' tk', Post v news' → Fr h₀ L h' m → News h₀ L h' news' → Q v ⟨h', gs, dr, tk', os⟩) →
    wpAny (model PySem.Challenge.rw_or0065_01.row.prog w) (ktrTop dp un gd cn cs L a ccd [] []) (call (.ref f) vs) Q E ⟨hp, gs, dr, tk0, os⟩
theorem HC.use {w : World} {f : Addr} {vs : List Value} {kd ku : Nat} {Post : Value → Led → Prop}
  {mean : ExcName → Option Value} {mg mb : Str → Option Value} {dp un : Nat} {gd : Option (List Code)} {cn : Str} {cs : Scope} {a : Addr} {ccd : Value} {A₀ : Around} {h₀ : Heap} {L : Addr}
    {m : Str → Option Value} {s : Shared} {Q E : Value → Shared → Prop} {news : Led} (h : HC w f vs news kd ku Post) (B : Below A₀ h₀ [] h₀) (F : Fr h₀ L s.heap m) (X : (hd.heap_39 w.params).In h₀) (N : News h₀ L s.heap news) (T : Top hd.view_39 LO mean mg mb h₀) (hk : cs.kind = .function)
    (hd : dp + kd < recursionLimit) (hun : un + ku < cLine)
    (ret : ∀ v n' h' tk', Post v n' → Fr h₀ L h' m → News h₀ L h' n' → Q v { s with heap := h', toks := tk' }) :
    wpAny (model PySem.Challenge.rw_or0065_01.row.prog w) (ktrTop dp un gd cn cs L a ccd [] []) (call (.ref f) vs) Q E s :=
  h mean mg mb dp un gd cn cs a ccd A₀ h₀ L m s.heap s.gens s.drawn s.toks s.os Q E B F X N T hk hd hun ret
set_option maxHeartbeats 8000000 in
theorem heard_bad (w : World) (b : Array UInt8) (t : Tok) (ks u0 l : List Int) (news : Led) (hk : KBw.bInts b = ks) (hsz : ks.length ≤ 1000000) (hks : ks = u0 ++ l) (g0 : Gp u0) (hw : whiteB (hd1 l) = false) (h40 : hd1 l ≠ 40) (hS : Kx1 l) :
    HC w 447 [.bytes b t] news 30 400 (fun v n' => n' = news ∧ v = .none) := by
  have tag69 : True := trivial
  intro mean mg mb dp un gd cn cs a ccd A₀ h₀ L m hp0 gs0 dr0 tk0 os0 Q E B F X N T hkk hd hu hret
  (k_with "call ref" => (guard_hyp tag69 : True; (k_here; (with_reducible show wpAny _ _ (call (Value.ref 416) _) _ _ _); k_dflt (refine' XC.use (strict_kind_bad _ _ _ _ _ _ _ hk hsz hks g0 hw h40 hS) ?B ?F ?X ?N ?T ?hk ?hd ?hun ?_; (case B => k_asm); (case F => k_asm); (case X => k_asm); (case N => k_asm); (case T => k_asm); (case hk => first | exact rfl | assumption); (case hd => ktr_room); (case hun => ktr_units)); intro e8 g8 h8 tk8 FG8 R8 U8)))
  k_extra "hc_enter"
  k_steps
  exact hret _ _ _ _ ⟨rfl, rfl⟩ (by k_asm) (by k_asm)
-- 70
/-- the state of a pot -/
structure PotS where
  cells : List Value
  ns : List Int
  st : Int
  pl : Int
  t1 : Tok
  t2 : Tok
  k1 : Nat
  k2 : Nat
noncomputable abbrev potO (PL : Addr) (q : PotS) : Obj := listOf #[.ref PL, .int q.st q.t1, .int q.pl q.t2] q.k1
noncomputable abbrev celO (q : PotS) : Obj := listOf q.cells.toArray q.k2
structure PotOk (q : PotS) (n : Int) : Prop where
  isI : IntsAre q.cells q.ns
  pos : ∀ x ∈ q.ns, 0 ≤ x
  len : q.ns.length ≤ 40
  st0 : 0 ≤ q.st
  st1 : q.st < 2147483647
  pl0 : 0 ≤ q.pl
  pl1 : q.pl ≤ n
/-- a call that turns the pot at PO, its cells at PL -/
noncomputable def DC (w : World) (f : Addr) (vs : List Value) (PO PL : Addr) (n j : Int) (kd ku : Nat) (V : Value → Prop) : Prop :=
  ∀ (q : PotS) (rest : Led), PotOk q n → PO ≠ PL → (∀ p ∈ rest, p.1 ≠ PO) → (∀ p ∈ rest, p.1 ≠ PL) →
    MC w f vs ((PO, potO PL q) :: (PL, celO q) :: rest) kd ku (fun v n' => V v ∧ ∃ q', PotOk q' (n + j) ∧ n' = (PO, potO PL q') :: (PL, celO q') :: rest)
theorem set_pos {ns : List Int} {y : Int} (h : ∀ x ∈ ns, 0 ≤ x) (hy : 0 ≤ y) (j : Nat) : ∀ x ∈ ns.set j y, 0 ≤ x := by
  intro x hx
  rcases List.mem_or_eq_of_mem_set hx with hx | rfl
  · exact h x hx
  · exact hy
theorem fm0 {a b : Int} (h : 0 < b) : 0 ≤ a.fmod b := Int.fmod_nonneg_of_pos a h
theorem fm1 {a b : Int} (h : 0 < b) : a.fmod b < b := Int.fmod_lt_of_pos a h
theorem fd0 {a b : Int} (h : 0 ≤ a) (hb : 0 < b) : 0 ≤ a.fdiv b := Int.fdiv_nonneg h (by omega)
noncomputable def DrawV (lim : Int) (v : Value) : Prop := ∃ i t, v = .int i t ∧ 0 ≤ i ∧ i < lim
theorem DrawV.out {lim : Int} {v : Value} (h : DrawV lim v) : ∃ i t, v = .int i t ∧ 0 ≤ i ∧ i < lim := h
set_option maxHeartbeats 8000000 in
theorem draw (w : World) (PO PL : Addr) (lim : Int) (tl : Tok) (n : Int) (hl0 : 0 < lim) (hl1 : lim ≤ 100) (hn : n ≤ 100000) :
    DC w 428 [.ref PO, .int lim tl] PO PL n 1 3 30 (DrawV lim) := by
  intro q rest hq hne hof1 hof2
  obtain ⟨cells, ns, st, pl, t1, t2, k1, k2⟩ := q
  obtain ⟨isI, pos, hlen0, st0, st1, pl0, pl1⟩ := hq
  dsimp only [potO, celO] at *
  intro mean mg mb dp un gd cn cs a ccd cl outer A₀ base h₀ L m hp0 gs0 dr0 tk0 os0 Q E B F X N T hk hd hu hret
  have hlen := isI.length
  k_extra "mc_enter"
  k_steps
  · refine' hret _ _ _ _ ⟨⟨_, _, rfl, fm0 hl0, fm1 hl0⟩, ⟨_, _, st, pl + 1, t1, _, k1, k2⟩, ?ok, rfl⟩ ?F ?N
    case F => k_asm
    case N => assumption
    case ok =>
      refine ⟨by assumption, ?_, ?_, st0, st1, by show (0 : Int) ≤ pl + 1; omega, by show pl + 1 ≤ n + 1; omega⟩
      · refine set_pos pos (fd0 (b := lim) ?_ hl0) _
        omega
      · show (List.set _ _ _).length ≤ 40
        rw [List.length_set]
        exact hlen0
  all_goals (
    refine' hret _ _ _ _ ⟨⟨_, _, rfl, fm0 hl0, fm1 hl0⟩, ⟨cells, ns, _, pl + 1, _, _, k1, k2⟩, ?ok, rfl⟩ ?F ?N
    case F => k_asm
    case N => assumption
    case ok => exact ⟨isI, pos, hlen0, fm0 (by decide), fm1 (by decide), by show (0 : Int) ≤ pl + 1; omega, by show pl + 1 ≤ n + 1; omega⟩)
theorem upd_mem {d : Addr} {o o' : Obj} {l l' : Led} (u : Upd d o o' l l') : ∀ p ∈ l', p = (d, o') ∨ (p ∈ l ∧ p.1 ≠ d) := by
  obtain ⟨pre, post, rfl, rfl, h1, h2⟩ := u.split
  intro p hp
  rcases List.mem_append.mp hp with hp | hp
  · exact .inr ⟨List.mem_append_left _ hp, h1 p hp⟩
  · rcases List.mem_cons.mp hp with hp | hp
    · exact .inl hp
    · exact .inr ⟨List.mem_append_right _ (.tail _ hp), h2 p hp⟩
theorem upd_in {d : Addr} {o o' : Obj} {l l' : Led} (u : Upd d o o' l l') : (d, o) ∈ l := by
  obtain ⟨pre, post, rfl, rfl, h1, h2⟩ := u.split
  simp
section
variable {w : World} {f : Addr} {vs : List Value} {PO PL : Addr} {n j : Int} {kd ku : Nat} {V : Value → Prop}
  {mean : ExcName → Option Value} {mg mb : Str → Option Value} {dp un : Nat} {gd : Option (List Code)} {cn : Str} {cs : Scope} {a : Addr} {ccd : Value} {cl : List (Str × Addr)} {outer : List Env} {A₀ : Around} {base h₀ : Heap} {L : Addr}
    {m : Str → Option Value} {s : Shared} {Q E : Value → Shared → Prop} {news : Led} {news1 news2 : PotS → Led}
theorem DC.use {q : PotS} (h : DC w f vs PO PL n j kd ku V) (hq : PotOk q n) (hne : PO ≠ PL) (B : Below A₀ base outer h₀) (F : Fr h₀ L s.heap m) (X : (hd.heap_39 w.params).In h₀) (N : News h₀ L s.heap news) (T : Top hd.view_39 LO mean mg mb h₀) (hk : cs.kind = .function)
    (u1 : ∀ q', Upd PO (potO PL q) (potO PL q') news (news1 q')) (u2 : ∀ q', Upd PL (celO q) (celO q') (news1 q') (news2 q')) (hd : dp + kd < recursionLimit) (hun : un + ku < cLine)
    (ret : ∀ v q' h' tk', V v → PotOk q' (n + j) → Fr h₀ L h' m → News h₀ L h' (news2 q') → Q v { s with heap := h', toks := tk' }) :
    wpAny (model PySem.Challenge.rw_or0065_01.row.prog w) (ktrTop dp un gd cn cs L a ccd cl outer) (call (.ref f) vs) Q E s := by
  refine h q (news.filter fun p => decide (p.1 ≠ PO) && decide (p.1 ≠ PL)) hq hne (fun p hp => ?_) (fun p hp => ?_) mean mg mb dp un gd cn cs a ccd cl outer A₀ base h₀ L m s.heap s.gens s.drawn s.toks s.os Q E B F X ?_ T hk hd hun ?_
  · have := (List.mem_filter.mp hp).2
    simp only [Bool.and_eq_true, decide_eq_true_eq] at this
    exact this.1
  · have := (List.mem_filter.mp hp).2
    simp only [Bool.and_eq_true, decide_eq_true_eq] at this
    exact this.2
  · intro p hp
    rcases List.mem_cons.mp hp with rfl | hp
    · exact N _ (upd_in (u1 q))
    · rcases List.mem_cons.mp hp with rfl | hp
      · rcases upd_mem (u1 q) _ (upd_in (u2 q)) with e | e
        · exact absurd (congrArg Prod.fst e).symm hne
        · exact N _ e.1
      · exact N p (List.mem_filter.mp hp).1
  · rintro v n' h' tk' ⟨hV, q', hq', rfl⟩ F' N'
    refine ret v q' h' tk' hV hq' F' ?_
    intro p hp
    rcases upd_mem (u2 q') p hp with rfl | ⟨hp1, n2⟩
    · exact N' _ (.tail _ (.head _))
    · rcases upd_mem (u1 q') p hp1 with rfl | ⟨hp2, n1⟩
      · exact N' _ (.head _)
      · exact N' p (.tail _ (.tail _ (List.mem_filter.mpr ⟨hp2, by simp [n1, n2]⟩)))
theorem DC.useD {q : PotS} {lim : Int} (h : DC w f vs PO PL n j kd ku (DrawV lim)) (hq : PotOk q n) (hne : PO ≠ PL) (B : Below A₀ base outer h₀) (F : Fr h₀ L s.heap m) (X : (hd.heap_39 w.params).In h₀) (N : News h₀ L s.heap news) (T : Top hd.view_39 LO mean mg mb h₀) (hk : cs.kind = .function)
    (u1 : ∀ q', Upd PO (potO PL q) (potO PL q') news (news1 q')) (u2 : ∀ q', Upd PL (celO q) (celO q') (news1 q') (news2 q')) (hd : dp + kd < recursionLimit) (hun : un + ku < cLine)
    (ret : ∀ i t q' h' tk', 0 ≤ i → i < lim → PotOk q' (n + j) → Fr h₀ L h' m → News h₀ L h' (news2 q') → Q (.int i t) { s with heap := h', toks := tk' }) :
    wpAny (model PySem.Challenge.rw_or0065_01.row.prog w) (ktrTop dp un gd cn cs L a ccd cl outer) (call (.ref f) vs) Q E s :=
  DC.use h hq hne B F X N T hk u1 u2 hd hun fun v q' h' tk' hV hq' F' N' => by obtain ⟨i, t, rfl, h0, h1⟩ := DrawV.out hV; exact ret i t q' h' tk' h0 h1 hq' F' N'
end
theorem reg_m70 : True := by
  (k_with "eval Call" => (k_here; (with_reducible show wpAny _ _ (eval (Expr.Call (Expr.Name (Str.ofString "_law_draw") _) _ [] _) _) _ _ _); k_dflt (refine Call_ ?_)))
  (k_with "call ref" => (k_here; (try dsimp only [List.nil_append, List.cons_append, List.append_nil]); (with_reducible show wpAny _ _ (call (Value.ref 428) [Value.ref _, Value.int _ _]) _ _ _); k_dflt (refine' DC.useD (draw _ _ _ _ _ _ ?p1q192 ?p2q192 ?p3q192) ?hqq192 ?hneq192 ?Bq192 ?Fq192 ?Xq192 ?Nq192 ?Tq192 ?hkq192 ?u1q192 ?u2q192 ?hdq192 ?hunq192 ?_; (case Bq192 => k_asm); (case Fq192 => k_asm); (case Xq192 => k_asm); (case Nq192 => k_asm); (case Tq192 => k_asm); (case hqq192 => assumption); (case hneq192 => with_reducible assumption); (case hkq192 => first | exact rfl | assumption); (case u1q192 => (intro q9; k_upd)); (case u2q192 => (intro q9; k_upd)); (case p1q192 => first | decide | omega); (case p2q192 => first | decide | omega); (case p3q192 => first | decide | omega); (case hdq192 => ktr_room); (case hunq192 => ktr_units)); intro i9 u9 q9 h9 tk9 d9 f9 hq9 F9 N9;  (try k_sweep); (try dsimp only); (try k_extra "kfold")))
  trivial
-- 71
theorem reg_p71 : True := by
  (k_with "eval ListComp" => (guard_hyp tag71 : True; (k_here; k_dflt (refine ListComp_G (F₀ := by k_asm) (by with_unfolding_all rfl) (by decide) (by rfl) (by decide) (by rfl) ?_))))
  (k_with "subscriptTail" => (guard_hyp tag71 : True; (k_here; (with_reducible show wpAny _ _ (subscriptTail _ _ (Value.ref _) (Value.int _ _)) _ _ _); k_dflt (refine' item_menu GapV1 ?Nq194 ?mq194 ?aq194 ?bq194 ?zq194 ?pq194 ?_; (case Nq194 => k_asm); (case mq194 => k_mem); (case aq194 => assumption); (case bq194 => assumption); (case zq194 => exact Nat.le_of_ble_eq_true rfl); (case pq194 => exact gap_menu _ _ _ _ _)); intro v9 hV9)))
  trivial
section
variable {prog : Program} {w : World} {A : Around} {E : Value → Shared → Prop} {s : Shared} {h₀ : Heap} {L : Addr} {m : Str → Option Value} {env : Env} {elt : Expr} {x : Str} {scope : Scope} {cl : List (Str × Addr)} {Q : Value → Shared → Prop}
/-- a comprehension's source, told by hand -/
noncomputable def GSrc (prog : Program) (w : World) (A : Around) (h₀ : Heap) (L : Addr) (m : Str → Option Value) (env : Env) (elt : Expr) (x : Str) (scope : Scope) (cl : List (Str × Addr)) (Fin : Shared → List Value → List (Addr × Obj) → Prop) (xv : Value) (s₁ : Shared) : Prop := LCg.CompSrc prog w A h₀ L m env elt x scope cl Fin xv s₁
theorem ListComp_G {iter : Expr} {px : Pos} {pos : Pos} (F₀ : Fr h₀ L s.heap m)
    (hclos : closureFor scope env = pure cl) (hcell : ∀ y ∈ scope.names, y.2 ≠ .cell) (hkind : scope.kind = .function)
    (hnames : ∀ y ∈ scope.names, y.2 = .local → scope.names.lookup y.1 = some .local) (hx : scope.names.lookup x = some .local)
    (h : wpAny (model prog w) A (eval iter env) (GSrc prog w A h₀ L m env elt x scope cl (fun s₂ => LCg.FinE h₀ L m s₂ Q)) E s)
    (hs : ∀ x, foldedSetIterable iter env x = pure x := by intro _; rfl) :
    wpAny (model prog w) A (eval (.ListComp elt [⟨.Name x px, iter, [], 0⟩] scope pos) env) Q E s :=
  LCg.ListComp_U F₀ hclos hcell hkind hnames hx (wpAny_mono h (fun _ _ z => z) fun _ _ z => z) hs
theorem item_menu {value slice : Expr} {l : Addr} {its : Array Value} {n : Nat} {news : Led} {k : Int} {u : Tok} (P : Value → Prop) (N : News h₀ L s.heap news) (hm : (l, listOf its n) ∈ news) (h0 : 0 ≤ k) (h1 : k < its.size) (hz : its.size ≤ 1000) (hP : ∀ v ∈ its.toList, P v) (h : ∀ v, P v → Q v s)
    (hs : subscripted slice false (.ref l) (.int k u) = operate [.ref l, .int k u] (getItem (.ref l) (.int k u)) := by with_unfolding_all rfl) :
    wpAny (model prog w) A (subscriptTail value slice (.ref l) (.int k u)) Q E s := by
  have hl : s.heap.IsList l its := ⟨_, (N _ hm).1, rfl, n, rfl⟩
  have hk : k.toNat < its.toList.length := by simp; omega
  have hx : its.toList[k.toNat]? = some its.toList[k.toNat] := List.getElem?_eq_getElem hk
  exact tail_any hl.typeIs slot_list_getitem.lookup (wpAny_getItem_list hl h0 (by omega) (by simpa using hx) (h _ (hP _ (List.getElem_mem hk)))) hs
end
noncomputable def GapV1 (v : Value) : Prop := ∃ b t, v = .bytes b t ∧ Gp (KBw.bInts b) ∧ (KBw.bInts b).length ≤ 8
theorem gp1 : Gp (KBw.bInts #[32]) := .white rfl .nil
theorem gp2 : Gp (KBw.bInts #[9]) := .white rfl .nil
theorem gp3 : Gp (KBw.bInts #[13, 10, 32]) := .white rfl (.white rfl (.white rfl .nil))
theorem gp4 : Gp (KBw.bInts #[40, 99, 41]) := .com (body := [99, 41]) (.plain (by decide) (by decide) (by decide) (by decide) (by decide) (by decide) (.closes .done)) .nil
theorem gp5 : Gp (KBw.bInts #[40, 97, 40, 98, 41, 92, 41, 41]) :=
  .com (body := [97, 40, 98, 41, 92, 41, 41]) (.plain (by decide) (by decide) (by decide) (by decide) (by decide) (by decide) (.opens (by decide) (.plain (by decide) (by decide) (by decide) (by decide) (by decide) (by decide) (.closes (.esc (by decide) (by decide) (by decide) (.closes .done)))))) .nil
theorem gap_menu (t1 t2 t3 t4 t5 : Tok) : ∀ v ∈ (#[Value.bytes #[32] t1, .bytes #[9] t2, .bytes #[13, 10, 32] t3, .bytes #[40, 99, 41] t4, .bytes #[40, 97, 40, 98, 41, 92, 41, 41] t5] : Array Value).toList, GapV1 v := by
  intro v hv
  simp only [List.mem_cons, List.not_mem_nil, or_false] at hv
  rcases hv with rfl | rfl | rfl | rfl | rfl
  · exact ⟨_, _, rfl, gp1, by decide⟩
  · exact ⟨_, _, rfl, gp2, by decide⟩
  · exact ⟨_, _, rfl, gp3, by decide⟩
  · exact ⟨_, _, rfl, gp4, by decide⟩
  · exact ⟨_, _, rfl, gp5, by decide⟩
theorem Gp.append {u v : List Int} (h : Gp u) (k : Gp v) : Gp (u ++ v) := by
  induction h with
  | nil => exact k
  | white hc _ ih => exact .white hc ih
  | @com body r hb _ ih =>
    rw [List.cons_append, List.append_assoc]
    exact .com hb ih
theorem Gp.flatten : ∀ {us : List (List Int)}, (∀ u ∈ us, Gp u ∧ u.length ≤ 8) → Gp us.flatten
  | [], _ => .nil
  | u :: us, h => by
    rw [List.flatten_cons]
    exact (h u (by simp)).1.append (Gp.flatten fun v hv => h v (by simp [hv]))
theorem flat_len : ∀ {us : List (List Int)}, (∀ u ∈ us, Gp u ∧ u.length ≤ 8) → us.flatten.length ≤ 8 * us.length
  | [], _ => by simp
  | u :: us, h => by
    rw [List.flatten_cons, List.length_append, List.length_cons]
    have h1 := (h u (by simp)).2
    have h2 := flat_len (us := us) fun v hv => h v (by simp [hv])
    omega
section
variable {prog : Program} {w : World} {A : Around} {E : Value → Shared → Prop} {s : Shared} {h₀ : Heap} {L : Addr} {m : Str → Option Value} {env : Env} {elt : Expr} {x : Str} {scope : Scope} {cl : List (Str × Addr)} {Q : Value → Shared → Prop}
theorem gap_rest {P : Nat → Value → Prop} {k : Nat} {led : PotS → Led} {n1 : Int} {q : PotS} (hq : PotOk q n1)
    (turn : ∀ q n I oI C oC D m₂ ys h tk (E' : Value → Shared → Prop), PotOk q n → n ≤ n1 + k → LCg.NsObj oC m₂ → Fr h₀ L h m → News h₀ L h ((I, oI) :: (C, oC) :: (D, LCg.lst ys) :: led q) → LCg.Off3 I C D (led q) → ((@Ne Nat I C) ∧ (@Ne Nat I D) ∧ (@Ne Nat C D)) →
      wpAny (model prog w) A (eval elt (compEnvC scope cl C env)) (LCg.CompEnd h₀ L m { s with heap := h, toks := tk } I oI C oC D (LCg.lst ys) (fun _ => True) (fun y news' => GapV1 y ∧ ∃ q', PotOk q' (n + 1) ∧ news' = led q')) E' { s with heap := h, toks := tk })
    (fin : ∀ ys us q D h tk, BsAre ys us → (∀ u ∈ us, Gp u ∧ u.length ≤ 8) → us.length = k → PotOk q (n1 + k) → Fr h₀ L h m → News h₀ L h ((D, LCg.lst ys) :: led q) → LCg.Off1 D (led q) → Q (.ref D) { s with heap := h, toks := tk }) :
    LCg.CompRest prog w A h₀ L m env elt x scope cl s (fun _ => True) P (LCg.FinE h₀ L m s Q) k 0 [] (led q) := by
  have key : ∀ (j i : Nat) (ys : List Value) (us : List (List Int)) (q : PotS), i + j = k → BsAre ys us → (∀ u ∈ us, Gp u ∧ u.length ≤ 8) → us.length = i → PotOk q (n1 + i) →
      LCg.CompRest prog w A h₀ L m env elt x scope cl s (fun _ => True) P (LCg.FinE h₀ L m s Q) j i ys (led q) := by
    intro j
    induction j with
    | zero =>
      intro i ys us q hi hb hu hl hq
      have e : i = k := by omega
      subst e
      exact LCg.CompRest.zero fun D h tk F N o1 => fin ys us q D h tk hb hu hl hq F N o1
    | succ j ih =>
      intro i ys us q hi hb hu hl hq
      refine LCg.CompRest.succ ?_
      intro v I oI C oC D m₂ h tk E' hv hC hx F N off ne
      refine wpAny_mono (turn q (n1 + i) I oI C oC D m₂ ys h tk E' hq (by omega) hC F N off ne) (fun y s₂ hq2 => ?_) fun _ _ e => e
      obtain ⟨h', tk', nw, e, F', N', off', hS', ⟨b, t, hy, hg, hz⟩, q', hq', hn⟩ := hq2
      subst hn hy
      refine ⟨h', tk', _, e, F', N', off', hS', ?_⟩
      refine ih (i + 1) _ (us ++ [KBw.bInts b]) q' (by omega) (hb.snoc rfl) ?_ (by simp [hl]) ?_
      · intro u hu'
        rcases List.mem_append.mp hu' with hu' | hu'
        · exact hu u hu'
        · rw [List.mem_singleton.mp hu']; exact ⟨hg, hz⟩
      · rw [show n1 + ((i + 1 : Nat) : Int) = n1 + i + 1 by omega]
        exact hq'
  have := key k 0 [] [] q (by omega) .nil (fun u hu => nomatch hu) rfl (by simpa using hq)
  exact this
end
theorem PotOk.mono {q : PotS} {n n' : Int} (h : PotOk q n) (hn : n ≤ n') : PotOk q n' := { h with pl1 := Int.le_trans h.pl1 hn }
noncomputable def GapV (v : Value) : Prop := ∃ b t, v = .bytes b t ∧ Gp (KBw.bInts b) ∧ (KBw.bInts b).length ≤ 16
theorem GapV.out {v : Value} (h : GapV v) : ∃ b t, v = .bytes b t ∧ Gp (KBw.bInts b) ∧ (KBw.bInts b).length ≤ 16 := h
theorem DC.useG {w : World} {f : Addr} {vs : List Value} {PO PL : Addr} {n j : Int} {kd ku : Nat}
  {mean : ExcName → Option Value} {mg mb : Str → Option Value} {dp un : Nat} {gd : Option (List Code)} {cn : Str} {cs : Scope} {a : Addr} {ccd : Value} {cl : List (Str × Addr)} {outer : List Env} {A₀ : Around} {base h₀ : Heap} {L : Addr}
    {m : Str → Option Value} {s : Shared} {Q E : Value → Shared → Prop} {news : Led} {news1 news2 : PotS → Led} {q : PotS} (h : DC w f vs PO PL n j kd ku GapV) (hq : PotOk q n) (hne : PO ≠ PL) (B : Below A₀ base outer h₀) (F : Fr h₀ L s.heap m) (X : (hd.heap_39 w.params).In h₀) (N : News h₀ L s.heap news) (T : Top hd.view_39 LO mean mg mb h₀) (hk : cs.kind = .function)
    (u1 : ∀ q', Upd PO (potO PL q) (potO PL q') news (news1 q')) (u2 : ∀ q', Upd PL (celO q) (celO q') (news1 q') (news2 q')) (hd : dp + kd < recursionLimit) (hun : un + ku < cLine)
    (ret : ∀ b t q' h' tk', Gp (KBw.bInts b) → (KBw.bInts b).length ≤ 16 → PotOk q' (n + j) → Fr h₀ L h' m → News h₀ L h' (news2 q') → Q (.bytes b t) { s with heap := h', toks := tk' }) :
    wpAny (model PySem.Challenge.rw_or0065_01.row.prog w) (ktrTop dp un gd cn cs L a ccd cl outer) (call (.ref f) vs) Q E s :=
  DC.use h hq hne B F X N T hk u1 u2 hd hun fun v q' h' tk' hV hq' F' N' => by obtain ⟨b, t, rfl, h0, h1⟩ := GapV.out hV; exact ret b t q' h' tk' h0 h1 hq' F' N'
set_option maxHeartbeats 8000000 in
theorem gap (w : World) (PO PL : Addr) (n : Int) (hn : n ≤ 90000) :
    DC w 440 [.ref PO] PO PL n 3 6 60 GapV := by
  intro q rest hq hne hof1 hof2
  have tag71 : True := trivial
  intro mean mg mb dp un gd cn cs a ccd cl outer A₀ base h₀ L m hp0 gs0 dr0 tk0 os0 Q E B F X N T hkk hd hu hret
  k_extra "mcc_enter"
  k_steps
  rename PotOk _ (n + 1) => hq1
  rename IsRange _ _ _ _ _ _ _ _ => hr
  refine LCg.CompSrc.range rfl (by assumption) (by assumption) hr (small_one (by omega) (by omega) (by omega) (by omega)) (rangeSize_nat _ _) (by rw [sizeLine_eq]; omega) fun g => gap_rest (led := fun q => (_, _) :: (PO, potO PL q) :: (PL, celO q) :: rest) hq1 ?_ ?_
  · intro q8 n8 I oI C oC D m₂ ys h tk E' hq8 hn8 hC F N off ne
    have hn9 : n8 ≤ 100000 := by omega
    simp only [LCg.Off3] at off
    have f1 := off.1; have f2 := off.2.1; have f3 := off.2.2.1
    k_steps
    exact LCg.CompEnd.intro (by assumption) (by assumption) ((_, _) :: (PO, potO PL _) :: (PL, celO _) :: rest) (fun p hp => .tail _ hp) off trivial ⟨by assumption, _, by assumption, rfl⟩
  · intro ys us q8 D h tk hb hu2 hl hq8 F N o1
    have hb2 : BsAre ys.toArray.toList us := by simpa using hb
    have hz2 := flat_len hu2
    have hz3 : us.flatten.length ≤ 16 := by omega
    simp only [LCg.Off1] at o1
    k_steps
    rename KBw.bInts _ = us.flatten => e8
    refine hret _ _ _ _ ⟨⟨_, _, rfl, e8 ▸ Gp.flatten hu2, e8 ▸ hz3⟩, q8, hq8.mono (by omega), rfl⟩ (by k_asm) (cb_drop (by assumption) (by kcj_in))
theorem reg_m71 : True := by
  (k_with "eval Call" => (k_here; (with_reducible show wpAny _ _ (eval (Expr.Call (Expr.Name (Str.ofString "_law_gap") _) _ [] _) _) _ _ _); k_dflt (refine Call_ ?_)))
  (k_with "call ref" => (k_here; (try dsimp only [List.nil_append, List.cons_append, List.append_nil]); (with_reducible show wpAny _ _ (call (Value.ref 440) [Value.ref _]) _ _ _); k_dflt (refine' DC.useG (gap _ _ _ _ ?p3q196) ?hqq196 ?hneq196 ?Bq196 ?Fq196 ?Xq196 ?Nq196 ?Tq196 ?hkq196 ?u1q196 ?u2q196 ?hdq196 ?hunq196 ?_; (case Bq196 => k_asm); (case Fq196 => k_asm); (case Xq196 => k_asm); (case Nq196 => k_asm); (case Tq196 => k_asm); (case hqq196 => assumption); (case hneq196 => with_reducible assumption); (case hkq196 => first | exact rfl | assumption); (case u1q196 => (intro q9; k_upd)); (case u2q196 => (intro q9; k_upd)); (case p3q196 => first | decide | omega); (case hdq196 => ktr_room); (case hunq196 => ktr_units)); intro b9 u9 q9 h9 tk9 g9 z9 hq9 F9 N9;  (try k_sweep); (try dsimp only); (try k_extra "kfold")))
  trivial
-- 72
/-- a pair of the law's menu -/
noncomputable def MenuP (nm wt : Array UInt8) : Prop :=
  ∃ (pk : PK) (o : List Int), pk.Ok ∧ pk.pair = (lowStr (KBw.bInts nm), o) ∧ Wt (KBw.bInts wt) o ∧ (∀ c ∈ KBw.bInts nm, tokB c = true) ∧ KBw.bInts nm ≠ [] ∧ (KBw.bInts nm).length ≤ 20 ∧ (KBw.bInts wt).length ≤ 40 ∧
    (hd1 (KBw.bInts wt) = 34 ∨ ∀ c ∈ KBw.bInts wt, tokB c = true)
theorem mp_plain {nm wt : Array UInt8} (x : String) (hx : lowStr (KBw.bInts nm) = Str.ofString x) (hm : Str.ofString x = Str.ofString "a" ∨ Str.ofString x = Str.ofString "name" ∨ Str.ofString x = Str.ofString "e" ∨ Str.ofString x = Str.ofString "f") (h1 : ∀ c ∈ KBw.bInts nm, tokB c = true) (h2 : KBw.bInts nm ≠ []) (h3 : (KBw.bInts nm).length ≤ 20)
    (h4 : (KBw.bInts wt).length ≤ 40) (h5 : ∀ c ∈ KBw.bInts wt, tokB c = true) (h6 : KBw.bInts wt ≠ []) (h7 : ∀ c ∈ KBw.bInts wt, c < 128) : MenuP nm wt :=
  ⟨.pl (Str.ofString x) (KBw.bInts wt), KBw.bInts wt, ⟨hm, h7, by omega⟩, by rw [hx]; rfl, .plain (fun c hc => by unfold worthB; rw [h5 c hc, Bool.or_true]) h6, h1, h2, h3, h4, .inr h5⟩
/-- plain signs within quotes: those with a backslash ahead are marked -/
noncomputable def qtW (l : List (Bool × Int)) : List Int := l.flatMap (fun p => if p.1 then [92, p.2] else [p.2]) ++ [34]
noncomputable def qtK (p : Bool × Int) : Bool := decide (p.2 ≠ 0 ∧ p.2 ≠ 10 ∧ p.2 ≠ 13) && (p.1 || decide (p.2 ≠ 34 ∧ p.2 ≠ 92))
theorem qt_of {l : List (Bool × Int)} (h : l.all qtK = true) : Qt (qtW l) (l.map (·.2)) := by
  induction l with
  | nil => exact .close
  | cons p l ih =>
    rw [List.all_cons, Bool.and_eq_true] at h
    have k := ih h.2
    obtain ⟨⟨⟩ | ⟨⟩, c⟩ := p
    · have q := (Bool.and_eq_true _ _).mp h.1
      have q1 := of_decide_eq_true q.1
      have q2 := of_decide_eq_true q.2
      exact .plain q2.1 q2.2 q1.1 q1.2.1 q1.2.2 k
    · have q1 := of_decide_eq_true ((Bool.and_eq_true _ _).mp h.1).1
      exact .esc q1.1 q1.2.1 q1.2.2 k
theorem mp_quoted {nm wt : Array UInt8} (x : String) (ws r : List Int) (hx : lowStr (KBw.bInts nm) = Str.ofString x) (hm : Str.ofString x = Str.ofString "a" ∨ Str.ofString x = Str.ofString "name" ∨ Str.ofString x = Str.ofString "e" ∨ Str.ofString x = Str.ofString "f") (h1 : ∀ c ∈ KBw.bInts nm, tokB c = true) (h2 : KBw.bInts nm ≠ []) (h3 : (KBw.bInts nm).length ≤ 20)
    (h4 : (KBw.bInts wt).length ≤ 40) (h5 : KBw.bInts wt = 34 :: r) (h6 : Qt r ws) (h7 : ∀ c ∈ ws, c < 128) (h8 : ws.length ≤ 1000) : MenuP nm wt :=
  ⟨.pl (Str.ofString x) ws, ws, ⟨hm, h7, h8⟩, by rw [hx]; rfl, by rw [h5]; exact .quoted h6, h1, h2, h3, h4, .inl (by rw [h5]; rfl)⟩
theorem mp1 : MenuP #[97] #[120] := mp_plain "a" (by kernel_rfl!) (.inl rfl) (by decide) (by decide) (by decide) (by decide) (by decide) (by decide) (by decide)
theorem mp2 : MenuP #[78, 97, 109, 101] #[34, 113, 92, 34, 59, 32, 114, 34] := mp_quoted "name" [113, 34, 59, 32, 114] [113, 92, 34, 59, 32, 114, 34] (by kernel_rfl!) (.inr (.inl rfl)) (by decide) (by decide) (by decide) (by decide) rfl (qt_of (l := [(false, 113), (true, 34), (false, 59), (false, 32), (false, 114)]) (by decide)) (by decide) (by decide)
theorem mp3 : MenuP #[99, 42, 48] #[34, 40, 110, 111, 116, 32, 97, 32, 99, 111, 109, 109, 101, 110, 116, 41, 34] :=
  ⟨.pt (Str.ofString "c*0") (Str.ofString "c") 0 false wC, KBw.bInts wC, .inl ⟨rfl, rfl, rfl, rfl, rfl⟩, by rw [show lowStr (KBw.bInts #[99, 42, 48]) = Str.ofString "c*0" by kernel_rfl!]; rfl,
    .quoted (u := [40, 110, 111, 116, 32, 97, 32, 99, 111, 109, 109, 101, 110, 116, 41, 34]) (qt_of (l := [40, 110, 111, 116, 32, 97, 32, 99, 111, 109, 109, 101, 110, 116, 41].map fun c => (false, c)) (by decide)), by decide, by decide, by decide, by decide, .inl rfl⟩
theorem mp4 : MenuP #[99, 42, 49, 42] #[37, 52, 49] :=
  ⟨.pt (Str.ofString "c*1*") (Str.ofString "c") 1 true wP, KBw.bInts wP, .inr (.inl ⟨rfl, rfl, rfl, rfl, rfl⟩), by rw [show lowStr (KBw.bInts #[99, 42, 49, 42]) = Str.ofString "c*1*" by kernel_rfl!]; rfl,
    .plain (by decide) (by decide), by decide, by decide, by decide, by decide, .inr (by decide)⟩
theorem mp5 : MenuP #[100, 42] #[117, 116, 102, 45, 56, 39, 39, 37, 67, 51, 37, 65, 57] :=
  ⟨.pt (Str.ofString "d*") (Str.ofString "d") 0 true wU, KBw.bInts wU, .inr (.inr ⟨rfl, rfl, rfl, rfl, rfl⟩), by rw [show lowStr (KBw.bInts #[100, 42]) = Str.ofString "d*" by kernel_rfl!]; rfl,
    .plain (by decide) (by decide), by decide, by decide, by decide, by decide, .inr (by decide)⟩
theorem mp6 : MenuP #[97] #[115, 101, 99, 111, 110, 100] := mp_plain "a" (by kernel_rfl!) (.inl rfl) (by decide) (by decide) (by decide) (by decide) (by decide) (by decide) (by decide)
theorem mp7 : MenuP #[101] #[34, 34] := mp_quoted "e" [] [34] (by kernel_rfl!) (.inr (.inr (.inl rfl))) (by decide) (by decide) (by decide) (by decide) rfl (qt_of (l := []) (by decide)) (by decide) (by decide)
theorem mp8 : MenuP #[102] #[49, 46, 50] := mp_plain "f" (by kernel_rfl!) (.inr (.inr (.inr rfl))) (by decide) (by decide) (by decide) (by decide) (by decide) (by decide) (by decide)
noncomputable def MenuV (tl : Led) (v : Value) : Prop := ∃ T nm wt t1 t2, v = .ref T ∧ (T, tupOf [.bytes nm t1, .bytes wt t2]) ∈ tl ∧ MenuP nm wt
theorem menu_close {h₀ h : Heap} {L l a1 a2 a3 a4 a5 a6 a7 a8 : Addr} {k : Nat} {s1 s2 s3 s4 s5 s6 s7 s8 u1 u2 u3 u4 u5 u6 u7 u8 : Tok} {news : Led}
    (N : News h₀ L h ((l, listOf #[.ref a1, .ref a2, .ref a3, .ref a4, .ref a5, .ref a6, .ref a7, .ref a8] k) :: (a8, tupOf [.bytes #[102] s8, .bytes #[49, 46, 50] u8]) :: (a7, tupOf [.bytes #[101] s7, .bytes #[34, 34] u7]) :: (a6, tupOf [.bytes #[97] s6, .bytes #[115, 101, 99, 111, 110, 100] u6]) :: (a5, tupOf [.bytes #[100, 42] s5, .bytes #[117, 116, 102, 45, 56, 39, 39, 37, 67, 51, 37, 65, 57] u5]) :: (a4, tupOf [.bytes #[99, 42, 49, 42] s4, .bytes #[37, 52, 49] u4]) :: (a3, tupOf [.bytes #[99, 42, 48] s3, .bytes #[34, 40, 110, 111, 116, 32, 97, 32, 99, 111, 109, 109, 101, 110, 116, 41, 34] u3]) :: (a2, tupOf [.bytes #[78, 97, 109, 101] s2, .bytes #[34, 113, 92, 34, 59, 32, 114, 34] u2]) :: (a1, tupOf [.bytes #[97] s1, .bytes #[120] u1]) :: news)) : ∃ (vs : List Value) (tl : Led), News h₀ L h ((l, listOf vs.toArray k) :: (tl ++ news)) ∧ vs.length = 8 ∧ ∀ v ∈ vs, MenuV tl v := by
  refine ⟨[.ref a1, .ref a2, .ref a3, .ref a4, .ref a5, .ref a6, .ref a7, .ref a8], [(a8, tupOf [.bytes #[102] s8, .bytes #[49, 46, 50] u8]), (a7, tupOf [.bytes #[101] s7, .bytes #[34, 34] u7]), (a6, tupOf [.bytes #[97] s6, .bytes #[115, 101, 99, 111, 110, 100] u6]), (a5, tupOf [.bytes #[100, 42] s5, .bytes #[117, 116, 102, 45, 56, 39, 39, 37, 67, 51, 37, 65, 57] u5]), (a4, tupOf [.bytes #[99, 42, 49, 42] s4, .bytes #[37, 52, 49] u4]), (a3, tupOf [.bytes #[99, 42, 48] s3, .bytes #[34, 40, 110, 111, 116, 32, 97, 32, 99, 111, 109, 109, 101, 110, 116, 41, 34] u3]), (a2, tupOf [.bytes #[78, 97, 109, 101] s2, .bytes #[34, 113, 92, 34, 59, 32, 114, 34] u2]), (a1, tupOf [.bytes #[97] s1, .bytes #[120] u1])], N, rfl, ?_⟩
  intro v hv
  simp only [List.mem_cons, List.not_mem_nil, or_false] at hv
  rcases hv with rfl | rfl | rfl | rfl | rfl | rfl | rfl | rfl
  · exact ⟨_, _, _, _, _, rfl, .tail _ (.tail _ (.tail _ (.tail _ (.tail _ (.tail _ (.tail _ (.head _))))))), mp1⟩
  · exact ⟨_, _, _, _, _, rfl, .tail _ (.tail _ (.tail _ (.tail _ (.tail _ (.tail _ (.head _)))))), mp2⟩
  · exact ⟨_, _, _, _, _, rfl, .tail _ (.tail _ (.tail _ (.tail _ (.tail _ (.head _))))), mp3⟩
  · exact ⟨_, _, _, _, _, rfl, .tail _ (.tail _ (.tail _ (.tail _ (.head _)))), mp4⟩
  · exact ⟨_, _, _, _, _, rfl, .tail _ (.tail _ (.tail _ (.head _))), mp5⟩
  · exact ⟨_, _, _, _, _, rfl, .tail _ (.tail _ (.head _)), mp6⟩
  · exact ⟨_, _, _, _, _, rfl, .tail _ (.head _), mp7⟩
  · exact ⟨_, _, _, _, _, rfl, .head _, mp8⟩
set_option maxHeartbeats 8000000 in
theorem law_pairs (w : World) : PC w 435 [] 2 20 (fun v n' => ∃ (D : Addr) (vs : List Value) (k : Nat) (tl : Led), v = .ref D ∧ n' = (D, listOf vs.toArray k) :: tl ∧ vs.length = 8 ∧ ∀ v ∈ vs, MenuV tl v) := by
  intro mean mg mb dp un gd cn cs a ccd cl outer A₀ base h₀ L m hp0 gs0 dr0 tk0 os0 Q E B F X T hkk hd hu hret
  k_extra "pc_enter"
  k_steps
  rename News h₀ L _ _ => kN0
  clear kN0
  (try (rename News h₀ L _ _ => kN0; clear kN0))
  rename News _ _ _ _ => kN1
  obtain ⟨vs, tl, N2, hl, hm⟩ := menu_close (news := []) kN1
  rw [List.append_nil] at N2
  refine hret _ _ _ _ _ _ _ ⟨_, vs, _, tl, rfl, rfl, hl, hm⟩ (by assumption) (by assumption) N2 (by assumption)
theorem PC.mcf {w : World} {f : Addr} {vs : List Value} {kd ku : Nat} {Post : Value → Led → Prop} (h : PC w f vs kd ku Post) (news : Led) : MC w f vs news kd ku (fun v n => ∃ n0, Post v n0 ∧ n = n0 ++ news ∧ ∀ p ∈ n0, ∀ q ∈ news, p.1 ≠ q.1) := by
  intro mean mg mb dp un gd cn cs a ccd cl outer A₀ base h₀ L m hp0 gs0 dr0 tk0 os0 Q E B F X N T hk hd hu hret
  refine h mean mg mb dp un gd cn cs a ccd cl outer A₀ base h₀ L m hp0 gs0 dr0 tk0 os0 Q E B F X T hk hd hu fun v g L' n' h' tk' m' hP hg F' N' F₁ => hret v _ h' tk' ⟨n', hP, rfl, fun p hp q hq e => ?_⟩ F₁ ?_
  · have h1 := hg _ _ (N q hq).1
    rw [← e, (N' p hp).2.2] at h1
    cases h1
  · intro p hp
    rcases List.mem_append.mp hp with hp | hp
    · refine ⟨(N' p hp).1, ?_, ?_⟩
      · intro e
        obtain ⟨oL, _, _, hL, _⟩ := F.ns
        have := hg _ _ hL
        rw [← e, (N' p hp).2.2] at this
        cases this
      · cases q : h₀.get? p.1 with
        | none => rfl
        | some o =>
          have := hg _ _ (F.keep _ _ q)
          rw [(N' p hp).2.2] at this
          cases this
    · exact ⟨F'.keep _ _ (hg _ _ (N p hp).1), (N p hp).2⟩
theorem news_back {h₀ h : Heap} {L : Addr} {x : Addr × Obj} {tl news : Led} (N : News h₀ L h ((x :: tl) ++ news)) : News h₀ L h (x :: (news ++ tl)) := by
  intro p hp
  rcases List.mem_cons.mp hp with rfl | hp
  · exact N _ (.head _)
  · rcases List.mem_append.mp hp with hp | hp
    · exact N p (List.mem_append_right _ hp)
    · exact N p (List.mem_append_left _ (.tail _ hp))
theorem fr_ne {A B : Led} {x y : Addr} {o o' : Obj} (f : ∀ p ∈ A, ∀ q ∈ B, p.1 ≠ q.1) (a : (x, o) ∈ A) (b : (y, o') ∈ B) : x ≠ y := f _ a _ b
theorem fr_all {B : Led} {x : Addr × Obj} {tl : Led} {y : Addr} {o' : Obj} (f : ∀ p ∈ x :: tl, ∀ q ∈ B, p.1 ≠ q.1) (b : (y, o') ∈ B) : ∀ p ∈ tl, p.1 ≠ y := fun p hp => f p (.tail _ hp) _ b
theorem MenuV.out {tl : Led} {v : Value} (h : MenuV tl v) : ∃ T nm wt t1 t2, v = .ref T ∧ (T, tupOf [.bytes nm t1, .bytes wt t2]) ∈ tl ∧ MenuP nm wt := h
local macro_rules | `(tactic| k_ne) => `(tactic| k_extra "k_ne_7")
local macro_rules | `(tactic| k_all) => `(tactic| k_extra "k_all_8")
theorem reg_m72 : True := by
  (k_with "eval Call" => (k_here; (with_reducible show wpAny _ _ (eval (Expr.Call (Expr.Name (Str.ofString "_law_pairs") _) _ [] _) _) _ _ _); k_dflt (refine Call_ ?_)))
  (k_with "call ref" => (k_here; (try dsimp only [List.nil_append, List.cons_append, List.append_nil]); (with_reducible show wpAny _ _ (call (Value.ref 435) []) _ _ _); k_dflt (refine' MC.use ((law_pairs _).mcf _) ?Bq198 ?Fq198 ?Xq198 ?Nq198 ?Tq198 ?hkq198 ?hdq198 ?hunq198 ?_; (case Bq198 => k_asm); (case Fq198 => k_asm); (case Xq198 => k_asm); (case Nq198 => k_asm); (case Tq198 => k_asm); (case hkq198 => first | exact rfl | assumption);  (case hdq198 => ktr_room); (case hunq198 => ktr_units)); intro v9 n9 h9 tk9 hV9 F9 N9; (obtain ⟨n0, ⟨D9, vs9, k9, tl9, e8, e7, hl9, hm9⟩, e9, fr9⟩ := hV9; subst e7; rw [e9] at N9; clear e9; subst e8; replace N9 := news_back N9; simp only [List.cons_append, List.nil_append] at N9); (try k_sweep); (try dsimp only); (try k_extra "kfold")))
  (k_with "k_ne_7" => ((refine neN ?_; (try dsimp only); first | (refine' fr_ne ?fq199 ?aq199 ?bq199; (case fq199 => assumption); (case aq199 => k_mem); (case bq199 => k_mem)) | (refine' Ne.symm (fr_ne ?fq199 ?aq199 ?bq199); (case fq199 => assumption); (case aq199 => k_mem); (case bq199 => k_mem)) | (with_reducible assumption) | (exact Ne.symm (by with_reducible assumption)))))
  (k_with "k_all_8" => ((refine' fr_all ?fq200 ?bq200; (case fq200 => assumption); (case bq200 => k_mem))))
  trivial
-- 73
/-- a pair of the menu, and what it says -/
inductive MenuR (p : Array UInt8 × Array UInt8) (pk : PK) : Prop
  | mk (o : List Int) (h1 : pk.Ok) (h2 : pk.pair = (lowStr (KBw.bInts p.1), o)) (h3 : Wt (KBw.bInts p.2) o) (h4 : ∀ c ∈ KBw.bInts p.1, tokB c = true) (h5 : KBw.bInts p.1 ≠ []) (h6 : (KBw.bInts p.1).length ≤ 20) (h7 : (KBw.bInts p.2).length ≤ 40)
    (h8 : hd1 (KBw.bInts p.2) = 34 ∨ ∀ c ∈ KBw.bInts p.2, tokB c = true) : MenuR p pk
theorem MenuP.r {nm wt : Array UInt8} (h : MenuP nm wt) : ∃ pk, MenuR (nm, wt) pk := by
  obtain ⟨pk, o, h1, h2, h3, h4, h5, h6, h7, h8⟩ := h
  exact ⟨pk, o, h1, h2, h3, h4, h5, h6, h7, h8⟩
theorem MenuR.ok {p : Array UInt8 × Array UInt8} {pk : PK} (h : MenuR p pk) : pk.Ok := by cases h; assumption
noncomputable abbrev MenuC (ps : List (Array UInt8 × Array UInt8)) (ks : List PK) : Prop := Two MenuR ps ks
theorem MenuC.ok {ps : List (Array UInt8 × Array UInt8)} {ks : List PK} (h : MenuC ps ks) : ∀ k ∈ ks, k.Ok := Two.any PK.Ok (fun _ _ => MenuR.ok) h
theorem MenuC.len {ps : List (Array UInt8 × Array UInt8)} {ks : List PK} (h : MenuC ps ks) : ks.length = ps.length := (Two.len h).symm
noncomputable def flatW (ps : List (Array UInt8 × Array UInt8)) : List (List Int) := ps.flatMap fun p => [[59], KBw.bInts p.1, [61], KBw.bInts p.2]
theorem flatW_cons (p : Array UInt8 × Array UInt8) (ps : List (Array UInt8 × Array UInt8)) : flatW (p :: ps) = [59] :: KBw.bInts p.1 :: [61] :: KBw.bInts p.2 :: flatW ps := rfl
/-- the words with gaps between them -/
noncomputable def Lay : List (List Int) → List Int → Prop
  | [], x => Gp x
  | u :: us, x => ∃ g r, x = g ++ (u ++ r) ∧ Gp g ∧ Lay us r
theorem Lay.snoc {u g : List Int} (hg : Gp g) : ∀ {us : List (List Int)} {x : List Int}, Lay us x → Lay (us ++ [u]) (x ++ (u ++ g))
  | [], x, h => ⟨x, g, rfl, h, hg⟩
  | v :: us, x, h => by
    obtain ⟨g', r, rfl, hg', hr⟩ := h
    exact ⟨g', r ++ (u ++ g), by simp, hg', hr.snoc hg⟩
theorem Lay.tight : ∀ {us : List (List Int)}, Lay us us.flatten
  | [] => .nil
  | u :: us => ⟨[], us.flatten, by simp, .nil, Lay.tight⟩
theorem Lay.gap {u g : List Int} (hg : Gp g) : ∀ {us : List (List Int)} {x : List Int}, Lay us x → Lay us (g ++ x)
  | [], x, h => hg.append h
  | v :: us, x, h => by
    obtain ⟨g', r, rfl, hg', hr⟩ := h
    exact ⟨g ++ g', r, by simp, hg.append hg', hr⟩
/-- the words behind the second one -/
theorem lay_pairs {tail : List (List Int)} {ps : List (Array UInt8 × Array UInt8)} {ks : List PK} (ht : tail = [] ∨ tail = [[59]]) (hm : MenuC ps ks) : ∀ {y : List Int}, Lay (flatW ps ++ tail) y → ∃ g r, y = g ++ r ∧ Gp g ∧ Prs r (ks.map PK.pair) := by
  induction hm with
  | nil =>
    intro y h
    rcases ht with rfl | rfl
    · exact ⟨y, [], (List.append_nil y).symm, h, .nil⟩
    · obtain ⟨g, r, rfl, hg, hr⟩ := h
      exact ⟨g, 59 :: r, rfl, hg, .last hr⟩
  | cons hp _ ih =>
    intro y h
    obtain ⟨g, r1, rfl, hg, g1, r2, rfl, hg1, g2, r3, rfl, hg2, g3, r4, rfl, hg3, h⟩ := h
    obtain ⟨g4, r5, rfl, hg4, hr⟩ := ih h
    obtain ⟨o, h1, h2, h3, h4, h5, h6, h7, h8⟩ := hp
    refine ⟨g, _, rfl, hg, ?_⟩
    rw [List.map_cons, h2]
    exact .pair (u1 := g1) (u2 := g2) (u3 := g3) (u4 := g4) (r := r5) hg1 h4 h5 (Nat.le_trans h6 (by decide)) hg2 hg3 h3 hg4 hr
theorem lay_kind {top sub : List Int} {tail : List (List Int)} (ht : tail = [] ∨ tail = [[59]]) {ps : List (Array UInt8 × Array UInt8)} {ks : List PK} {x : List Int} (hm : MenuC ps ks) (h : Lay (top :: [47] :: sub :: (flatW ps ++ tail)) x) :
    ∃ u0 u1 u2 u3 r, x = u0 ++ (top ++ (u1 ++ (47 :: (u2 ++ (sub ++ (u3 ++ r)))))) ∧ Gp u0 ∧ Gp u1 ∧ Gp u2 ∧ Gp u3 ∧ Prs r (ks.map PK.pair) := by
  obtain ⟨g, r1, rfl, hg, g1, r2, rfl, hg1, g2, r3, rfl, hg2, h⟩ := h
  obtain ⟨g3, r4, rfl, hg3, hr⟩ := lay_pairs ht hm h
  exact ⟨g, g1, g2, g3, r4, rfl, hg, hg1, hg2, hg3, hr⟩
theorem Gp.cut {g l : List Int} (h : Gp g) (hne : g ≠ []) : tokB (hd1 (g ++ l)) = false := by
  cases h with
  | nil => exact absurd rfl hne
  | white hc _ => exact tok_white hc
  | com => show tokB 40 = false; decide
theorem lay_end : ∀ {ps : List (Array UInt8 × Array UInt8)} {y : List Int}, Lay (flatW ps) y → ∃ g r, y = g ++ r ∧ Gp g ∧ (hd1 r = 59 ∨ hd1 r = -1)
  | [], y, h => ⟨y, [], by simp, h, .inr rfl⟩
  | p :: ps, y, h => by
    rw [flatW_cons] at h
    obtain ⟨g, r1, rfl, hg, _⟩ := h
    exact ⟨g, [59] ++ r1, rfl, hg, .inl rfl⟩
theorem tok5 {l : List Int} (h : hd1 l = 59 ∨ hd1 l = -1) : tokB (hd1 l) = false ∧ whiteB (hd1 l) = false ∧ hd1 l ≠ 40 ∧ hd1 l ≠ 61 ∧ hd1 l ≠ 47 := by rcases h with h | h <;> rw [h] <;> decide
theorem mem_app {p : Int → Bool} {u v : List Int} (h : ∀ c ∈ u, p c = true) (k : ∀ c ∈ v, p c = true) : ∀ c ∈ u ++ v, p c = true := by
  intro c hc
  rcases List.mem_append.mp hc with hc | hc
  · exact h c hc
  · exact k c hc
theorem tok47n {c : Int} (h : tokB c = true) : c ≠ 47 := by rintro rfl; revert h; decide
/-- the words with the one at j left out -/
noncomputable def outW (ws : List (List Int)) (j : Nat) : List (List Int) := ws.set j []
theorem lay_skip {us : List (List Int)} {x : List Int} (h : Lay ([] :: us) x) : Lay us x := by
  obtain ⟨g, r, rfl, hg, hr⟩ := h
  rw [List.nil_append]
  exact Lay.gap (u := []) hg hr
theorem hd_quote {u l : List Int} (h : hd1 u = 34) : hd1 (u ++ l) = 34 := by
  cases u with
  | nil => exact absurd h (by decide)
  | cons c u => exact h
theorem lay_bad0 {p : Array UInt8 × Array UInt8} {ps : List (Array UInt8 × Array UInt8)} {k : PK} {y : List Int} (hp : MenuR p k) (h : Lay ([59] :: [] :: [61] :: KBw.bInts p.2 :: flatW ps) y) : ∃ g r, y = g ++ r ∧ Gp g ∧ PrsX r := by
  obtain ⟨g, r1, rfl, hg, h⟩ := h
  obtain ⟨g2, r3, rfl, hg2, _⟩ := lay_skip h
  exact ⟨g, _, rfl, hg, .noName (u1 := g2) (l := [61] ++ _) hg2 rfl⟩
theorem lay_bad2 {p : Array UInt8 × Array UInt8} {ps : List (Array UInt8 × Array UInt8)} {k : PK} {y : List Int} (hp : MenuR p k) (h : Lay ([59] :: KBw.bInts p.1 :: [61] :: [] :: flatW ps) y) : ∃ g r, y = g ++ r ∧ Gp g ∧ PrsX r := by
  obtain ⟨g, r1, rfl, hg, g1, r2, rfl, hg1, g2, r3, rfl, hg2, h⟩ := h
  obtain ⟨g3, r4, rfl, hg3, hr⟩ := lay_end (lay_skip h)
  obtain ⟨o, h1, h2, h3, h4, h5, h6, h7, h8⟩ := hp
  exact ⟨g, _, rfl, hg, .noWorth (u1 := g1) (u2 := g2) (u3 := g3) (l := r4) hg1 h4 h5 (Nat.le_trans h6 (by decide)) hg2 hg3 hr⟩
theorem bad_eq {p : Array UInt8 × Array UInt8} {k : PK} {g1 g2 l : List Int} (hp : MenuR p k) (hg1 : Gp g1) (hg2 : Gp g2) (hq : whiteB (hd1 l) = false ∧ hd1 l ≠ 40 ∧ hd1 l ≠ 61) (ht : tokB (hd1 (g2 ++ l)) = false) : PrsX (59 :: (g1 ++ (KBw.bInts p.1 ++ (g2 ++ l)))) := by
  obtain ⟨o, h1, h2, h3, h4, h5, h6, h7, h8⟩ := hp
  exact .noEq (u1 := g1) (u2 := g2) (l := l) hg1 h4 h5 (Nat.le_trans h6 (by decide)) hg2 ht hq.1 hq.2.1 hq.2.2
theorem bad_eq2 {p : Array UInt8 × Array UInt8} {k : PK} {g1 g3 l : List Int} (hp : MenuR p k) (h8 : ∀ c ∈ KBw.bInts p.2, tokB c = true) (hg1 : Gp g1) (hg3 : Gp g3) (hr : hd1 l = 59 ∨ hd1 l = -1) : PrsX (59 :: (g1 ++ (KBw.bInts p.1 ++ (KBw.bInts p.2 ++ (g3 ++ l))))) := by
  have t5 := tok5 hr
  obtain ⟨o, h1, h2, h3, h4, h5, h6, h7, _⟩ := hp
  have := PrsX.noEq (u1 := g1) (nm := KBw.bInts p.1 ++ KBw.bInts p.2) (u2 := g3) (l := l) hg1 (mem_app h4 h8) (List.append_ne_nil_of_left_ne_nil h5 _) (by rw [List.length_append]; exact Nat.le_trans (Nat.add_le_add h6 h7) (by decide)) hg3 (hg3.tok t5.1) t5.2.1 t5.2.2.1 t5.2.2.2.1
  rw [List.append_assoc] at this
  exact this
theorem worth_hd {p : Array UInt8 × Array UInt8} {k : PK} {l : List Int} (hp : MenuR p k) : whiteB (hd1 (KBw.bInts p.2 ++ l)) = false ∧ hd1 (KBw.bInts p.2 ++ l) ≠ 40 ∧ hd1 (KBw.bInts p.2 ++ l) ≠ 61 := by
  obtain ⟨o, h1, h2, h3, h4, h5, h6, h7, h8⟩ := hp
  have hw := h3.head (l := l)
  refine ⟨hw.1, hw.2, ?_⟩
  rcases h8 with h8 | h8
  · rw [hd_quote h8]; decide
  · have hn : KBw.bInts p.2 ≠ [] := by
      intro e
      rw [e] at h3
      cases h3 with
      | plain _ hne => exact hne rfl
    exact (tok_not (tok_head h8 hn)).2.2.2
theorem MenuR.tokens {p : Array UInt8 × Array UInt8} {k : PK} (hp : MenuR p k) : hd1 (KBw.bInts p.2) = 34 ∨ ∀ c ∈ KBw.bInts p.2, tokB c = true := by cases hp; assumption
theorem lay_bad1 {p : Array UInt8 × Array UInt8} {ps : List (Array UInt8 × Array UInt8)} {k : PK} {y : List Int} (hp : MenuR p k) (h : Lay ([59] :: KBw.bInts p.1 :: [] :: KBw.bInts p.2 :: flatW ps) y) : ∃ g r, y = g ++ r ∧ Gp g ∧ PrsX r := by
  obtain ⟨g, r1, rfl, hg, g1, r2, rfl, hg1, h⟩ := h
  obtain ⟨g2, r3, rfl, hg2, h⟩ := lay_skip h
  obtain ⟨g3, r4, rfl, hg3, hr⟩ := lay_end h
  refine ⟨g, _, rfl, hg, ?_⟩
  by_cases hne : g2 = []
  · subst hne
    rcases hp.tokens with h8 | h8
    · exact bad_eq hp hg1 .nil (worth_hd hp) (by rw [List.nil_append, hd_quote h8]; decide)
    · exact bad_eq2 hp h8 hg1 hg3 hr
  · exact bad_eq hp hg1 hg2 (worth_hd hp) (hg2.cut hne)
theorem lay_bad {ps : List (Array UInt8 × Array UInt8)} {ks : List PK} (hm : MenuC ps ks) : ∀ {y : List Int} (k j : Nat), k < ps.length → j = 4 * k + 1 ∨ j = 4 * k + 2 ∨ j = 4 * k + 3 → Lay ((flatW ps).set j []) y → ∃ g r, y = g ++ r ∧ Gp g ∧ PrsX r := by
  induction hm with
  | nil => exact fun _ _ hk _ _ => absurd hk (Nat.not_lt_zero _)
  | cons hp _ ih =>
    intro y k j hk hj h
    cases k with
    | zero =>
      rcases hj with rfl | rfl | rfl
      · exact lay_bad0 hp h
      · exact lay_bad1 hp h
      · exact lay_bad2 hp h
    | succ k =>
      obtain ⟨j', rfl, hj'⟩ : ∃ j', j = j' + 4 ∧ (j' = 4 * k + 1 ∨ j' = 4 * k + 2 ∨ j' = 4 * k + 3) := by
        rcases hj with rfl | rfl | rfl
        · exact ⟨4 * k + 1, rfl, .inl rfl⟩
        · exact ⟨4 * k + 2, rfl, .inr (.inl rfl)⟩
        · exact ⟨4 * k + 3, rfl, .inr (.inr rfl)⟩
      obtain ⟨g, r1, rfl, hg, g1, r2, rfl, hg1, g2, r3, rfl, hg2, g3, r4, rfl, hg3, h⟩ := h
      obtain ⟨g4, r5, rfl, hg4, hr⟩ := ih k j' (Nat.lt_of_succ_lt_succ hk) hj' h
      obtain ⟨o, h1, h2, h3, h4, h5, h6, h7, h8⟩ := hp
      exact ⟨g, _, rfl, hg, .pair (u1 := g1) (u2 := g2) (u3 := g3) (u4 := g4) (r := r5) hg1 h4 h5 (Nat.le_trans h6 (by decide)) hg2 hg3 h3 hg4 hr⟩
theorem lay_kind_bad {top sub : List Int} {ps : List (Array UInt8 × Array UInt8)} {ks : List PK} {x : List Int} (out : Nat) (ht : ∀ c ∈ top, tokB c = true) (hs : ∀ c ∈ sub, tokB c = true) (ht0 : top ≠ []) (hs0 : sub ≠ []) (htl : top.length ≤ 100) (hsl : sub.length ≤ 100) (hm : MenuC ps ks)
    (ho : out = 0 ∨ out = 1 ∨ out = 2 ∨ ∃ k, k < ps.length ∧ (out = 4 * k + 4 ∨ out = 4 * k + 5 ∨ out = 4 * k + 6)) (h : Lay ((top :: [47] :: sub :: flatW ps).set out []) x) :
    ∃ u0 l, x = u0 ++ l ∧ Gp u0 ∧ whiteB (hd1 l) = false ∧ hd1 l ≠ 40 ∧ Kx1 l := by
  have tk : ∀ (l : List Int), whiteB (hd1 (top ++ l)) = false ∧ hd1 (top ++ l) ≠ 40 := fun l => ⟨(tok_not (tok_head ht ht0)).1, (tok_not (tok_head ht ht0)).2.1⟩
  rcases ho with rfl | rfl | rfl | ⟨k, hk, hj⟩
  · have h := lay_skip h
    obtain ⟨g, r, rfl, hg, _⟩ := h
    exact ⟨g, _, rfl, hg, white47A, b47A, .inl rfl⟩
  · obtain ⟨g, r1, rfl, hg, h⟩ := h
    obtain ⟨g1, r2, rfl, hg1, h⟩ := lay_skip h
    obtain ⟨g2, r3, rfl, hg2, hr⟩ := lay_end h
    refine ⟨g, _, rfl, hg, (tk _).1, (tk _).2, .inr ?_⟩
    by_cases hne : g1 = []
    · subst hne
      have t5 := tok5 hr
      exact ⟨top ++ sub, g2, r3, by simp, mem_app ht hs, by simp [ht0], by rw [List.length_append]; omega, hg2, hg2.tok t5.1, t5.2.1, t5.2.2.1, .inl t5.2.2.2.2⟩
    · have q := tok_head (l := g2 ++ r3) hs hs0
      exact ⟨top, g1, sub ++ (g2 ++ r3), rfl, ht, ht0, by omega, hg1, hg1.cut hne, (tok_not q).1, (tok_not q).2.1, .inl (tok47n q)⟩
  · obtain ⟨g, r1, rfl, hg, g1, r2, rfl, hg1, h⟩ := h
    have h := lay_skip h
    obtain ⟨g2, r3, rfl, hg2, hr⟩ := lay_end h
    have t5 := tok5 hr
    exact ⟨g, _, rfl, hg, (tk _).1, (tk _).2, .inr ⟨top, g1, _, rfl, ht, ht0, by omega, hg1, hg1.tok tok47, white47A, b47A, .inr ⟨g2, r3, rfl, hg2, t5.2.1, t5.2.2.1, .inl hr⟩⟩⟩
  · obtain ⟨j, rfl, hj'⟩ : ∃ j, out = j + 3 ∧ (j = 4 * k + 1 ∨ j = 4 * k + 2 ∨ j = 4 * k + 3) := by
      rcases hj with rfl | rfl | rfl
      · exact ⟨4 * k + 1, rfl, .inl rfl⟩
      · exact ⟨4 * k + 2, rfl, .inr (.inl rfl)⟩
      · exact ⟨4 * k + 3, rfl, .inr (.inr rfl)⟩
    obtain ⟨g, r1, rfl, hg, g1, r2, rfl, hg1, g2, r3, rfl, hg2, h⟩ := h
    obtain ⟨g3, r4, rfl, hg3, hr⟩ := lay_bad hm k j hk hj' h
    have q := tok_head (l := g3 ++ r4) hs hs0
    exact ⟨g, _, rfl, hg, (tk _).1, (tk _).2, .inr ⟨top, g1, _, rfl, ht, ht0, by omega, hg1, hg1.tok tok47, white47A, b47A, .inr ⟨g2, _, rfl, hg2, (tok_not q).1, (tok_not q).2.1, .inr ⟨sub, g3, r4, rfl, hs, hs0, by omega, hg3, hr⟩⟩⟩⟩
-- 74
section
variable {prog : Program} {w : World} {A : Around} {E : Value → Shared → Prop} {s : Shared} {env : Env} {h₀ : Heap} {target : Expr} {body : List Stmt} {Q : Flow → Shared → Prop}
theorem walks_turns1 {I : Addr} {n : Nat} {P : Nat → Value → Prop} {St : Nat → Heap → Prop} {m₀ : Str → Option Value} {news : Led} (W : Walks prog w A I [I] [I] n P St)
    (hgo : ∀ i v (s : Shared) (Q : Unit → Shared → Prop) (E : Value → Shared → Prop), St i s.heap → Q () s → wpAny (model prog w) A (letOwnedTupleGo target (.ref I) v) Q E s)
    (hobj : ∀ i h, St i h → ∃ o, h.get? I = some o) (hst : St 0 s.heap) (hI : h₀.get? I = none) (hIL : env.locals ≠ I) (F : Fr h₀ env.locals s.heap m₀) (N : News h₀ env.locals s.heap news) (hnI : ∀ p ∈ news, p.1 ≠ I)
    (J : Nat → (Str → Option Value) → Led → Prop) (hJ : J 0 m₀ news)
    (turn : ∀ i v m₁ nx oI h₁ tk₁, i < n → P i v → J i m₁ nx → (∀ p ∈ nx, p.1 ≠ I) → Fr h₀ env.locals h₁ m₁ → News h₀ env.locals h₁ ((I, oI) :: nx) →
      wpAny (model prog w) A (assign target env v) (fun _ s₃ => wpAny (model prog w) A (execs body env) (TurnEnd h₀ env.locals I oI { s with heap := h₁, toks := tk₁ } (J (i + 1)) Q) E s₃) E { s with heap := h₁, toks := tk₁ })
    (done : ∀ m₁ nx h tk, J n m₁ nx → Fr h₀ env.locals h m₁ → News h₀ env.locals h nx → Q .next { s with heap := h, toks := tk }) :
    TurnsAt prog w A h₀ env target body Q E (.ref I) s := by
  refine ⟨I, [I], [I], n, fun i v _ => P i v, fun i v h => P i v ∧ St (i + 1) h, St, m₀, news, J, rfl, KTurns.ofWalks W hgo, ?_, ?_, ?_, hst, F, N, hJ, ?_, ?_⟩
  · intro h
    exact hIL (List.mem_singleton.mp h)
  · intro b hb
    rw [List.mem_singleton.mp hb]
    exact hI
  · intro p hp hq
    exact hnI p hp (List.mem_singleton.mp hq)
  · intro i v m₁ nx h₁ tk₁ own hin hP hJ' hoff hown hget hall hst₁ F₁ N₁
    obtain ⟨oI, hoI⟩ := hobj _ _ hst₁
    have hIown : (I, oI) ∈ own := hall I (List.mem_cons_self ..) hI oI hoI
    have N₂ : News h₀ env.locals h₁ ((I, oI) :: nx) := by
      intro p hp
      rcases List.mem_cons.mp hp with rfl | hp
      · exact N₁ _ (List.mem_append_left _ hIown)
      · exact N₁ _ (List.mem_append_right _ hp)
    refine wpAny_mono (turn i v m₁ nx oI h₁ tk₁ hin hP hJ' (fun p hp e => hoff p hp (List.mem_singleton.mpr e)) F₁ N₂) (fun _ s₃ h₃ => wpAny_mono h₃ (fun f s₄ h₄ => ?_) fun _ _ e => e) fun _ _ e => e
    have fin : TurnEnd h₀ env.locals I oI { s with heap := h₁, toks := tk₁ } (J (i + 1)) Q .next s₄ → LoopStepU h₀ env.locals [I] own (J (i + 1)) { s with heap := h₁, toks := tk₁ } .next s₄ := by
      rintro ⟨h', tk, m', nx', e, F', N', ho, hj⟩
      refine ⟨rfl, h', tk, m', nx', e, F', ?_, fun p hp hq => ho p hp (List.mem_singleton.mp hq), hj⟩
      intro p hp
      rcases List.mem_append.mp hp with hp | hp
      · have hpo := hget p hp
        have e1 := List.mem_singleton.mp (hown p hp)
        have : p = (I, oI) := by
          rw [e1] at hpo
          exact Prod.ext e1 (Option.some.inj (hpo.symm.trans hoI))
        rw [this]
        exact N' _ (List.mem_cons_self ..)
      · exact N' _ (List.mem_cons_of_mem _ hp)
    cases f with
    | ret v => exact h₄
    | brk => exact h₄
    | next => exact fin h₄
    | cont => exact fin h₄
  · intro h' tk m' news' F' N' _ hj
    exact done m' news' h' tk hj F' N'
theorem range_turns {r : Addr} {b : Int} {n : Nat} {t u v : Tok} {x : Str} {px : Pos} {m₀ : Str → Option Value} {news : Led} (hh : A.handled = none) (F : Fr h₀ env.locals s.heap m₀) (N : News h₀ env.locals s.heap news) (hr : IsRange s.heap r 0 b 1 t u v) (hb : b = (n : Int)) (hz : n ≤ 1000)
    (J : Nat → (Str → Option Value) → Led → Prop) (hJ : J 0 m₀ news)
    (turn : ∀ I i t m₁ nx oI h₁ tk₁, i < n → J i m₁ nx → (∀ p ∈ nx, p.1 ≠ I) → Fr h₀ env.locals h₁ m₁ → News h₀ env.locals h₁ ((I, oI) :: nx) →
      wpAny (model prog w) A (assign (.Name x px) env (.int i t)) (fun _ s₃ => wpAny (model prog w) A (execs body env) (TurnEnd h₀ env.locals I oI { s with heap := h₁, toks := tk₁ } (J (i + 1)) Q) E s₃) E { s with heap := h₁, toks := tk₁ })
    (done : ∀ m₁ nx h tk, J n m₁ nx → Fr h₀ env.locals h m₁ → News h₀ env.locals h nx → Q .next { s with heap := h, toks := tk }) :
    wpAny (model prog w) A (pyIter (.ref r)) (fun it s₂ => TurnsAt prog w A h₀ env (.Name x px) body Q E it s₂) E s := by
  subst hb
  have hn : Builtin.Range.rangeSize 0 (n : Int) 1 = ((n : Nat) : Int) := by rw [rangeSize_nat]; simp
  refine wpAny_pyIter_range hr (small_one (by omega) (by omega) (by omega) (by omega)) ?_
  refine walks_turns1 (LCg.range_walks hh 0 n) (fun i v s Q E st q => ?_) (fun i h st => ⟨_, st⟩) (by show IsRangeIter _ _ _ _ _; rw [hn]; simpa using Heap.get?_push_size _ rfl) (next_is_new F) (Nat.ne_of_lt F.ns.lt) (F.push _)
    (fun p hp => ⟨Heap.get?_push_of_some _ (N p hp).1, (N p hp).2⟩) (fun p hp => Nat.ne_of_lt (Heap.lt_size (N p hp).1)) J hJ (fun i v m₁ nx oI h₁ tk₁ hi hP hJ' ho F₁ N₁ => ?_) done
  · exact wpAny_pure q
  · obtain ⟨t, rfl⟩ := hP
    rw [Int.zero_add]
    exact turn _ i t m₁ nx oI h₁ tk₁ hi hJ' ho F₁ N₁
end
-- 75
theorem reg_p75 : True := by
  (k_with "eval ListComp" => (guard_hyp tag75 : True; (k_here; k_dflt (refine LCg.ListComp_U (F₀ := by k_asm) (by with_unfolding_all rfl) (by decide) (by rfl) (by decide) (by rfl) ?_))))
  (k_with "exec Assign cons ListComp" => (guard_hyp tag75 : True; (k_here; k_dflt (refine LCg.Assign_ListComp_U (F₀ := by k_asm) (by rfl) (by with_unfolding_all rfl) (by with_unfolding_all rfl) (by decide) (by rfl) (by decide) (by rfl) (by rfl) (by rfl) ?_))))
  trivial
theorem off1_ne {D : Addr} : ∀ {l : Led}, LCg.Off1 D l → ∀ p ∈ l, p.1 ≠ D
  | [], _, _, h => nomatch h
  | _ :: _, h, p, hp => by
    rcases List.mem_cons.mp hp with rfl | hp
    · exact h.1
    · exact off1_ne h.2 p hp
set_option maxHeartbeats 8000000 in
theorem law_pot (w : World) (l : Addr) (vs : List Value) (ns : List Int) (news : Led)
    (mean : ExcName → Option Value) (mg mb : Str → Option Value) (dp un : Nat) (gd : Option (List Code)) (cn : Str) (cs : Scope) (a : Addr) (ccd : Value) (cl : List (Str × Addr)) (outer : List Env) (A₀ : Around) (base h₀ : Heap) (L : Addr)
    (m : Str → Option Value) (s : Shared) (Q E : Value → Shared → Prop)
    (B : Below A₀ base outer h₀) (F : Fr h₀ L s.heap m) (X : (hd.heap_39 w.params).In h₀) (N : News h₀ L s.heap news) (T : Top hd.view_39 LO mean mg mb h₀) (hk : cs.kind = .function) (hd : dp + 4 < recursionLimit) (hu : un + 40 < cLine)
    (hl : h₀.IsList l vs.toArray) (hI : IntsAre vs ns) (hz : ns.length ≤ 63)
    (hret : ∀ PO PL q h' tk', PO ≠ PL → (∀ p ∈ news, p.1 ≠ PO) → (∀ p ∈ news, p.1 ≠ PL) → PotOk q 0 → Fr h₀ L h' m → News h₀ L h' ((PO, potO PL q) :: (PL, celO q) :: news) → Q (.ref PO) { s with heap := h', toks := tk' }) :
    wpAny (model PySem.Challenge.rw_or0065_01.row.prog w) (ktrTop dp un gd cn cs L a ccd cl outer) (call (.ref 421) [.ref l]) Q E s := by
  revert B F X N T
  have tag75 : True := trivial
  intro B F X N T
  (k_with "pyIter ref" => (guard_hyp tag75 : True; k_state (fun (pre : List Int) st => 0 ≤ st ∧ st < 2147483647) "state"))
  k_extra "mc_enter"
  rename Fr h₀ L _ _ => FG9
  have hl2 := hl.at fun o e => FG9.keep _ _ e
  k_steps
  rename IntsAre _ (List.take 40 ns) => hI9
  have hl9 := hI9.length
  have hl8 : (List.take 40 ns).length ≤ 40 := by rw [List.length_take]; omega
  refine LCg.CompSrc.ledger rfl (by assumption) (by assumption) (by k_mem) (by rw [sizeLine_eq, List.size_toArray]; omega) fun g => kcf_list (fun k => k) hI9 ?_ ?_
  · intro k t I oI C oC D m₂ ys h tk E' hm hC hx F N off ne _
    (try simp only [LCg.Off3, and_true] at off)
    k_steps
    all_goals exact ⟨rfl, _, rfl⟩
  · unfold KPfDone
    intro ys hi D h tk F N o1
    rw [List.map_id'] at hi
    have hl7 := hi.length
    k_steps
    refine LCg.CompSrc.ledger rfl (by assumption) (by assumption) (by k_mem) (by rw [sizeLine_eq, List.size_toArray]; omega) fun g => kcf_list (fun k => (if k < 0 then -k else k).fmod (10 ^ Int.toNat 400)) hi ?_ ?_
    · intro k t I oI C oC D m₂ ys h tk E' hm hC hx F N off ne _
      (try simp only [LCg.Off3, and_true] at off)
      k_steps
      all_goals exact ⟨rfl, _, rfl⟩
    · unfold KPfDone
      intro ys hi D h tk F N o1
      have hl6 := hi.length
      rw [List.length_map] at hl6
      k_steps
      rename _ ∧ _ ∧ _ ∧ AllLt _ _ => lA
      refine hret _ D ⟨ys, _, _, 0, _, _, 0, ys.length⟩ _ _ (Nat.ne_of_gt lA.1) (allLt_ne lA.2.2.2) (off1_ne o1.2.2) ⟨hi, ?_, by rw [List.length_map]; exact hl8, by assumption, by assumption, Int.le_refl 0, Int.le_refl 0⟩ (by k_asm) (cb_drop (by assumption) (by kcj_in))
      intro x hx
      obtain ⟨k, _, rfl⟩ := List.mem_map.mp hx
      exact fm0 (Int.pow_pos (by decide))
-- 76
noncomputable abbrev wordsL (top sub : Array UInt8) (ps : List (Array UInt8 × Array UInt8)) : List (List Int) := KBw.bInts top :: [47] :: KBw.bInts sub :: flatW ps
noncomputable def NeedOk (n : Nat) (x : Int) : Prop := x = 0 ∨ x = 1 ∨ x = 2 ∨ ∃ k : Nat, k < n ∧ (x = 4 * k + 4 ∨ x = 4 * k + 5 ∨ x = 4 * k + 6)
theorem NeedOk.mono {n n' : Nat} {x : Int} (h : NeedOk n x) (hn : n ≤ n') : NeedOk n' x := by
  rcases h with h | h | h | ⟨k, hk, h⟩
  · exact .inl h
  · exact .inr (.inl h)
  · exact .inr (.inr (.inl h))
  · exact .inr (.inr (.inr ⟨k, by omega, h⟩))
theorem flatW_snoc (ps : List (Array UInt8 × Array UInt8)) (p : Array UInt8 × Array UInt8) : flatW (ps ++ [p]) = flatW ps ++ [[59], KBw.bInts p.1, [61], KBw.bInts p.2] := by
  unfold flatW
  rw [List.flatMap_append]
  rfl
theorem flatW_len : ∀ (ps : List (Array UInt8 × Array UInt8)), (flatW ps).length = 4 * ps.length
  | [] => rfl
  | p :: ps => by rw [flatW_cons]; simp only [List.length_cons]; rw [flatW_len ps]; omega
theorem words_len (top sub : Array UInt8) (ps : List (Array UInt8 × Array UInt8)) : (wordsL top sub ps).length = 3 + 4 * ps.length := by
  simp only [List.length_cons, flatW_len]; omega
/-- what holds between the turns of the law's first loop -/
structure V1F (top sub : Array UInt8) (i : Nat) (ps : List (Array UInt8 × Array UInt8)) (ks : List PK) (its : List Value) (nits : List Value) (ns : List Int) (q : PotS) : Prop where
  len : ps.length = i
  menu : MenuC ps ks
  words : BsAre its (wordsL top sub ps)
  isI : IntsAre nits ns
  need : ∀ x ∈ ns, NeedOk i x
  nlen : ns.length = 3 + 3 * i
  pot : PotOk q (10 + 5 * i)
noncomputable def V1L (top sub : Array UInt8) (PO PL WA NA : Addr) (i : Nat) (m : Str → Option Value) (nx : Led) : Prop :=
  ∃ ps ks its kw nits ns kn q, V1F top sub i ps ks its nits ns q ∧ OvrAll m [(Str.ofString "pot", .ref PO), (Str.ofString "words", .ref WA), (Str.ofString "needed", .ref NA)] ∧
    nx = [(WA, listOf its.toArray kw), (NA, listOf nits.toArray kn), (PO, potO PL q), (PL, celO q)]
section
variable {prog : Program} {w : World} {A : Around} {E : Value → Shared → Prop} {s : Shared} {env : Env} {h₀ : Heap} {body : List Stmt} {Q : Flow → Shared → Prop}
theorem loop1 {r : Addr} {b : Int} {t u v : Tok} {x : Str} {px : Pos} {m₀ : Str → Option Value} {NA WA PO PL : Addr} {a0 a1 a2 b0 b1 b2 : Tok} {kn kw : Nat} {top sub : Array UInt8} {q : PotS} {X2 X3 : Addr × Obj} (hh : A.handled = none) (F : Fr h₀ env.locals s.heap m₀)
    (N : News h₀ env.locals s.heap [(NA, listOf #[.int 0 a0, .int 1 a1, .int 2 a2] kn), (WA, listOf #[.bytes top b0, .bytes #[47] b1, .bytes sub b2] kw), X2, X3, (PO, potO PL q), (PL, celO q)]) (hr : IsRange s.heap r 0 b 1 t u v) (h0 : 0 ≤ b) (h5 : b < 5) (hq : PotOk q (0 + 1 + 1 + 1))
    (hov : OvrAll m₀ [(Str.ofString "pot", .ref PO), (Str.ofString "words", .ref WA), (Str.ofString "needed", .ref NA)])
    (turn : ∀ (I : Addr) (i : Nat) (t : Tok) (ps : List (Array UInt8 × Array UInt8)) (ks : List PK) (its : List Value) (kw : Nat) (nits : List Value) (ns : List Int) (kn : Nat) (q : PotS) (m₁ : Str → Option Value) (oI : Obj) (h₁ : Heap) (tk₁ : Nat), i < 5 → V1F top sub i ps ks its nits ns q → I ≠ WA → I ≠ NA → I ≠ PO → I ≠ PL → Fr h₀ env.locals h₁ (fun y => if y = Str.ofString "pot" then some (Value.ref PO) else if y = Str.ofString "words" then some (Value.ref WA) else if y = Str.ofString "needed" then some (Value.ref NA) else m₁ y) →
      News h₀ env.locals h₁ [(I, oI), (WA, listOf its.toArray kw), (NA, listOf nits.toArray kn), (PO, potO PL q), (PL, celO q)] →
      wpAny (model prog w) A (assign (.Name x px) env (.int (i : Nat) t)) (fun _ s₃ => wpAny (model prog w) A (execs body env) (TurnEnd h₀ env.locals I oI { s with heap := h₁, toks := tk₁ } (V1L top sub PO PL WA NA (i + 1)) Q) E s₃) E { s with heap := h₁, toks := tk₁ })
    (done : ∀ (n : Nat) (ps : List (Array UInt8 × Array UInt8)) (ks : List PK) (its : List Value) (kw : Nat) (nits : List Value) (ns : List Int) (kn : Nat) (q : PotS) (m₁ : Str → Option Value) (h : Heap) (tk : Nat), n < 5 → V1F top sub n ps ks its nits ns q → Fr h₀ env.locals h (fun y => if y = Str.ofString "pot" then some (Value.ref PO) else if y = Str.ofString "words" then some (Value.ref WA) else if y = Str.ofString "needed" then some (Value.ref NA) else m₁ y) →
      News h₀ env.locals h [(WA, listOf its.toArray kw), (NA, listOf nits.toArray kn), (PO, potO PL q), (PL, celO q)] → Q .next { s with heap := h, toks := tk }) :
    wpAny (model prog w) A (pyIter (.ref r)) (fun it s₂ => TurnsAt prog w A h₀ env (.Name x px) body Q E it s₂) E s := by
  have N' : News h₀ env.locals s.heap [(WA, listOf #[.bytes top b0, .bytes #[47] b1, .bytes sub b2] kw), (NA, listOf #[.int 0 a0, .int 1 a1, .int 2 a2] kn), (PO, potO PL q), (PL, celO q)] := cb_drop N (by kcj_in)
  refine range_turns (n := b.toNat) hh F N' hr (by omega) (by omega) (V1L top sub PO PL WA NA) ?_ ?_ ?_
  · refine ⟨[], [], [.bytes top b0, .bytes #[47] b1, .bytes sub b2], kw, [.int 0 a0, .int 1 a1, .int 2 a2], [0, 1, 2], kn, q, ⟨rfl, .nil, .cons rfl (.cons rfl (.cons rfl .nil)), .cons 0 _ (.cons 1 _ (.cons 2 _ .nil)), ?_, rfl, ?_⟩, hov, rfl⟩
    · intro x hx
      simp only [List.mem_cons, List.not_mem_nil, or_false] at hx
      rcases hx with rfl | rfl | rfl
      · exact .inl rfl
      · exact .inr (.inl rfl)
      · exact .inr (.inr (.inl rfl))
    · exact hq.mono (by decide)
  · rintro I i t m₁ nx oI h₁ tk₁ hi ⟨ps, ks, its, kw, nits, ns, kn, q, f, hov', rfl⟩ hoI F₁ N₁
    exact turn I i t ps ks its kw nits ns kn q m₁ oI h₁ tk₁ (by omega) f (Ne.symm (hoI _ (.head _))) (Ne.symm (hoI _ (.tail _ (.head _)))) (Ne.symm (hoI _ (.tail _ (.tail _ (.head _))))) (Ne.symm (hoI _ (.tail _ (.tail _ (.tail _ (.head _)))))) (fr_ovr F₁ _ hov') N₁
  · rintro m₁ nx h tk ⟨ps, ks, its, kw, nits, ns, kn, q, f, hov', rfl⟩ F' N'
    exact done b.toNat ps ks its kw nits ns kn q m₁ h tk (by omega) f (fr_ovr F' _ hov') N'
theorem V1F.next {top sub : Array UInt8} {i : Nat} {ps : List (Array UInt8 × Array UInt8)} {ks : List PK} {its nits : List Value} {ns : List Int} {q q' : PotS} {nm wt : Array UInt8} {t1 t2 t3 t4 t5 t6 t7 : Tok} (f : V1F top sub i ps ks its nits ns q) (hm : MenuP nm wt) (hq : PotOk q' (10 + 5 * i + 1)) {n1 n2 n3 : Int} (h1 : n1 = its.length + 1) (h2 : n2 = its.length + 2) (h3 : n3 = its.length + 3) :
    ∃ ks', V1F top sub (i + 1) (ps ++ [(nm, wt)]) ks' (its ++ [.bytes #[59] t1, .bytes nm t2, .bytes #[61] t3, .bytes wt t4]) (nits ++ [.int n1 t5, .int n2 t6, .int n3 t7]) (ns ++ [n1, n2, n3]) q' := by
  obtain ⟨pk, hr⟩ := hm.r
  have hl : its.length = 3 + 4 * i := by rw [f.words.len, words_len, f.len]
  refine ⟨ks ++ [pk], ?_, f.menu.snoc hr, ?_, ?_, ?_, ?_, ?_⟩
  · rw [List.length_append, f.len]; rfl
  · have : wordsL top sub (ps ++ [(nm, wt)]) = wordsL top sub ps ++ [[59], KBw.bInts nm, [61], KBw.bInts wt] := by
      show _ :: _ :: _ :: flatW _ = _
      rw [flatW_snoc]
      rfl
    rw [this]
    exact f.words.app (.cons rfl (.cons rfl (.cons rfl (.cons rfl .nil))))
  · exact f.isI.append (.cons _ _ (.cons _ _ (.cons _ _ .nil)))
  · intro x hx
    rcases List.mem_append.mp hx with hx | hx
    · exact (f.need x hx).mono (Nat.le_succ _)
    · refine .inr (.inr (.inr ⟨i, Nat.lt_succ_self _, ?_⟩))
      simp only [List.mem_cons, List.not_mem_nil, or_false] at hx
      rcases hx with rfl | rfl | rfl <;> omega
  · rw [List.length_append, f.nlen]; simp only [List.length_cons, List.length_nil]; omega
  · exact hq.mono (by omega)
end
-- 77
section
variable {prog : Program} {w : World} {A : Around} {E : Value → Shared → Prop} {s : Shared} {h₀ h : Heap} {L D b : Addr} {m : Str → Option Value} {news news' : Led}
theorem len_led {its : List Value} {c : Nat} {Q : Value → Shared → Prop} (N : News h₀ L s.heap news) (hm : (D, listOf its.toArray c) ∈ news) (hf : its.length ≤ 16384) (h : Q (.int (its.length : Nat) (s.toks + 1)) { s with toks := s.toks + 1 + 1 }) :
    wpAny (model prog w) A (call (.builtin "len") [.ref D]) Q E s := by
  have hl : s.heap.IsList D its.toArray := News.isList N hm
  refine Calls.call_len_list hl (by rw [List.size_toArray]; omega) ?_
  rw [List.size_toArray]
  exact h
theorem extend_led {its l2 : List Value} {n n2 : Nat} {Q : Value → Shared → Prop} (F : Fr h₀ L s.heap m) (N : News h₀ L s.heap news) (hb : (b, listOf l2.toArray n2) ∈ news) (hne : l2.length ≠ 0)
    (U : Upd D (listOf its.toArray n) (listOf (its ++ l2).toArray (n + 1)) news news') (hz : its.length + l2.length ≤ 16384)
    (h : ∀ h', Fr h₀ L h' m → News h₀ L h' news' → Q .none { s with heap := h' }) : wpAny (model prog w) A (call (.builtin "list.extend") [.ref D, .ref b]) Q E s := by
  refine kl_extend F N hb (by simp) (by simpa using hne) U (extend_door ?_) ?_ ?_ h
  · rw [List.size_toArray, List.size_toArray, sizeLine_eq]; omega
  · rw [List.toList_toArray, sizeLine_eq]; omega
  · rw [List.size_toArray, List.size_toArray, sizeLine_eq]; omega
end
theorem flat_bound {ps : List (Array UInt8 × Array UInt8)} {ks : List PK} (hm : MenuC ps ks) : (flatW ps).flatten.length ≤ 62 * ps.length := by
  induction hm with
  | nil => exact Nat.le_refl _
  | cons h _ ih =>
    obtain ⟨_, _, _, _, _, _, h6, h7, _⟩ := h
    rw [flatW_cons]
    simp only [List.flatten_cons, List.length_append, List.length_cons, List.length_nil]
    omega
theorem V1F.room {top sub : Array UInt8} {i : Nat} {ps : List (Array UInt8 × Array UInt8)} {ks : List PK} {its nits : List Value} {ns : List Int} {q : PotS} (f : V1F top sub i ps ks its nits ns q) (h1 : (KBw.bInts top).length ≤ 20) (h2 : (KBw.bInts sub).length ≤ 20) (hi : i < 5) :
    (wordsL top sub ps).flatten.length ≤ 500 := by
  have := flat_bound f.menu
  have hl := f.len
  simp only [List.flatten_cons, List.length_append, List.length_cons, List.length_nil]
  omega
theorem drop_menu {h₀ h : Heap} {L : Addr} {b x y a1 a2 a3 a4 a5 : Addr × Obj} {tl : Led} (N : News h₀ L h (b :: x :: y :: a1 :: a2 :: a3 :: a4 :: a5 :: tl)) : News h₀ L h [b, a1, a2, a3, a4, a5] := by
  intro p hp
  simp only [List.mem_cons, List.not_mem_nil, or_false] at hp
  rcases hp with rfl | rfl | rfl | rfl | rfl | rfl
  · exact N _ (.head _)
  · exact N _ (.tail _ (.tail _ (.tail _ (.head _))))
  · exact N _ (.tail _ (.tail _ (.tail _ (.tail _ (.head _)))))
  · exact N _ (.tail _ (.tail _ (.tail _ (.tail _ (.tail _ (.head _))))))
  · exact N _ (.tail _ (.tail _ (.tail _ (.tail _ (.tail _ (.tail _ (.head _)))))))
  · exact N _ (.tail _ (.tail _ (.tail _ (.tail _ (.tail _ (.tail _ (.tail _ (.head _))))))))
-- 78
theorem reg_p78 : True := by
  (k_with "eval Call" => (guard_hyp tag78 : True; (k_here; (with_reducible show wpAny _ _ (eval (Expr.Call (Expr.Name (Str.ofString "strict_kind") _) _ [] _) _) _ _ _); k_dflt (refine Call_ ?_))))
  trivial
/-- what the two helpers hand back: the words' texts and the pairs in order -/
noncomputable def HrdV (top sub : Str) (pl : List (Str × Str)) (v : Value) (n' : Led) : Prop :=
  ∃ T U ys tl t1 t2 ss, v = .ref T ∧ n' = (T, tupOf [.str top t1, .str sub t2, .ref U]) :: (U, tupOf ys) :: tl ∧ DatAll tl ys (ss.map (pairD pl)) ∧ ss.Perm (pl.map (·.1)) ∧ sortedS ss = true
theorem HrdV.out {top sub : Str} {pl : List (Str × Str)} {v : Value} {n' : Led} (h : HrdV top sub pl v n') :
  ∃ T U ys tl t1 t2 ss, v = .ref T ∧ n' = (T, tupOf [.str top t1, .str sub t2, .ref U]) :: (U, tupOf ys) :: tl ∧ DatAll tl ys (ss.map (pairD pl)) ∧ ss.Perm (pl.map (·.1)) ∧ sortedS ss = true := h
set_option maxHeartbeats 8000000 in
theorem heard_p (w : World) (b : Array UInt8) (t : Tok) (ks u0 top u1 u2 sub u3 r : List Int) (pks : List PK) (hk : KBw.bInts b = ks) (hsz : ks.length ≤ 1000000) (hks : ks = u0 ++ (top ++ (u1 ++ (47 :: (u2 ++ (sub ++ (u3 ++ r))))))) (g0 : Gp u0) (g1 : Gp u1) (g2 : Gp u2) (g3 : Gp u3)
    (ht : ∀ c ∈ top, tokB c = true) (hs : ∀ c ∈ sub, tokB c = true) (ht0 : top ≠ []) (hs0 : sub ≠ []) (hpr : Prs r (pks.map PK.pair)) (hok : ∀ k ∈ pks, k.Ok) (hlen : pks.length ≤ 50) :
    PC w 447 [.bytes b t] 30 400 (HrdV (lowStr top) (lowStr sub) (parF pks)) := by
  have tag78 : True := trivial
  intro mean mg mb dp un gd cn cs a ccd cl outer A₀ base h₀ L m hp0 gs0 dr0 tk0 os0 Q E B F X T hkk hd hu hret
  have hlen2 : pks.length ≤ 100 := by omega
  have hlen3 : (parF pks).length ≤ 50 := Nat.le_trans (parF_len pks) hlen
  (k_with "call ref" => (guard_hyp tag78 : True; (k_here; (with_reducible show wpAny _ _ (call (Value.ref 416) _) _ _ _); k_dflt (refine' MC.use (strict_kind _ _ _ _ _ _ _ _ _ _ _ _ _ hk hsz hks g0 g1 g2 g3 ht hs ht0 hs0 hpr hok hlen2) ?B ?F ?X ?N ?T ?hk ?hd ?hun ?_; (case B => k_asm); (case F => k_asm); (case X => k_asm); (case N => k_asm); (case T => k_asm); (case hk => first | exact rfl | assumption); (case hd => ktr_room); (case hun => ktr_units)); intro v9 n9 h9 tk9 hV9 F9 N9; (obtain ⟨K9, dK9, P9, oP9, kv9, _, _, _, _, _, e8, e9, lo9, d9, s9⟩ := KindV.out hV9); rw [e9] at N9; clear e9; subst e8; (try k_sweep); (try dsimp only); (try k_extra "kfold"))))
  (k_with "call ref" => (guard_hyp tag78 : True; (k_here; (with_reducible show wpAny _ _ (call (Value.ref 289) _) _ _ _); k_dflt (refine' MC.use (told _ _ _ _ _ _ _ _ _ _ _ _ _ _ _ ?p1 ?p2 ?p3 hlen3) ?B ?F ?X ?N ?T ?hk ?hd ?hun ?_; (case B => k_asm); (case F => k_asm); (case X => k_asm); (case N => k_asm); (case T => k_asm); (case p1 => assumption); (case p2 => assumption); (case p3 => assumption); (case hk => first | exact rfl | assumption); (case hd => ktr_room); (case hun => ktr_units)); intro v9 n9 h9 tk9 hV9 F9 N9; (obtain ⟨T9, U9, ys9, tl9, _, _, ss9, e8, e9, da9, pe9, so9⟩ := ToldV.out hV9); rw [e9] at N9; clear e9; subst e8; (try k_sweep); (try dsimp only); (try k_extra "kfold"))))
  k_extra "pc_enter"
  k_steps
  refine hret _ _ _ _ _ _ _ ⟨_, _, _, _, _, _, _, rfl, rfl, da9, pe9, so9⟩ (by assumption) (by assumption) (by assumption) (by assumption)
theorem heard_lay (w : World) (b : Array UInt8) (t : Tok) (x top sub : List Int) (tail : List (List Int)) (ps : List (Array UInt8 × Array UInt8)) (ks : List PK) (hk : KBw.bInts b = x) (hsz : x.length ≤ 1000000) (htl : tail = [] ∨ tail = [[59]])
    (hL : Lay (top :: [47] :: sub :: (flatW ps ++ tail)) x) (hm : MenuC ps ks) (ht : ∀ c ∈ top, tokB c = true) (hs : ∀ c ∈ sub, tokB c = true) (ht0 : top ≠ []) (hs0 : sub ≠ []) (hlen : ps.length ≤ 5) :
    PC w 447 [.bytes b t] 30 400 (HrdV (lowStr top) (lowStr sub) (parF ks)) := by
  obtain ⟨u0, u1, u2, u3, r, hx, g0, g1, g2, g3, hp⟩ := lay_kind htl hm hL
  exact heard_p w b t x u0 top u1 u2 sub u3 r ks hk hsz hx g0 g1 g2 g3 ht hs ht0 hs0 hp hm.ok (by rw [hm.len]; omega)
theorem heard_out (w : World) (b : Array UInt8) (t : Tok) (x top sub : List Int) (ps : List (Array UInt8 × Array UInt8)) (ks : List PK) (out : Nat) (news : Led) (hk : KBw.bInts b = x) (hsz : x.length ≤ 1000000)
    (ho : out = 0 ∨ out = 1 ∨ out = 2 ∨ ∃ k, k < ps.length ∧ (out = 4 * k + 4 ∨ out = 4 * k + 5 ∨ out = 4 * k + 6)) (hL : Lay ((top :: [47] :: sub :: flatW ps).set out []) x)
    (hm : MenuC ps ks) (ht : ∀ c ∈ top, tokB c = true) (hs : ∀ c ∈ sub, tokB c = true) (ht0 : top ≠ []) (hs0 : sub ≠ []) (htl : top.length ≤ 20) (hsl : sub.length ≤ 20) :
    HC w 447 [.bytes b t] news 30 400 (fun v n' => n' = news ∧ v = .none) := by
  obtain ⟨u0, l, hx, g0, hw, h40, hS⟩ := lay_kind_bad out ht hs ht0 hs0 (by omega) (by omega) hm ho hL
  exact heard_bad w b t x u0 l news hk hsz hx g0 hw h40 hS
-- 79
section
variable {prog : Program} {w : World} {A : Around} {E : Value → Shared → Prop} {s : Shared} {h₀ h : Heap} {L a b : Addr} {m : Str → Option Value} {news n₁ n₂ : Led} {xs ys : List Value} {ds es : List Dat}
theorem tup_ne (N : News h₀ L s.heap news) (ma : (a, tupOf xs) ∈ news) (Da : DatAll n₁ xs ds) (sa : ∀ p ∈ n₁, p ∈ news)
    (mb : (b, tupOf ys) ∈ news) (Db : DatAll n₂ ys ds) (sb : ∀ p ∈ n₂, p ∈ news)
    (ha : ∀ d ∈ ds, kqdOk 8 d = true) (hu : A.units + 64 < cLine) {Q : Value → Shared → Prop} (h : Q (.bool false) s) : wpAny (model prog w) A (compareOp .NotEq (.ref a) (.ref b)) Q E s := by
  obtain ⟨as, ra⟩ := kqd_all N 8 (Da.mono sa) ha
  obtain ⟨bs, rb⟩ := kqd_all N 8 (Db.mono sb) ha
  have la := kqd_lay 9 (.tuple ds) (by simpa [kqdOk] using ha)
  rw [kqdP] at la
  have e : PyData.eqv (.tuple (kqdPs ds)) (.tuple (kqdPs ds)) = true := by
    have q := kqd_eqv 9 (.tuple ds) (.tuple ds) 9 (by simpa [kqdOk] using ha) (by simpa [kqdOk] using ha)
    rw [kqdP] at q
    exact q.mpr rfl
  refine ne_dataH (reads_tuple_at (N.get ma) rfl rfl (by simpa using ra)) (reads_tuple_at (N.get mb) rfl rfl (by simpa using rb)) ?_ ?_ hu (by rw [e]; exact h)
  · unfold SeqAt.shaped; rw [la.1, Bool.true_and]; exact decide_eq_true (Nat.le_trans la.2 (by decide))
  · unfold SeqAt.shaped; rw [la.1, Bool.true_and]; exact decide_eq_true (Nat.le_trans la.2 (by decide))
end
theorem join_cps : ∀ (ps : List Str), (Txt.join (Str.ofString "") ps).cps.toList = ps.flatMap (fun p => p.cps.toList) := by
  have e0 : (Str.ofString "").cps = #[] := by kernel_rfl!
  have key : ∀ (ps : List Str) (acc : Array Nat), (ps.foldl (fun acc p => acc ++ (Str.ofString "").cps ++ p.cps) acc).toList = acc.toList ++ ps.flatMap (fun p => p.cps.toList) := by
    intro ps
    induction ps with
    | nil => intro acc; simp
    | cons p ps ih =>
      intro acc
      rw [List.foldl_cons, ih, e0, List.flatMap_cons]
      simp
  intro ps
  cases ps with
  | nil => rfl
  | cons p ps =>
    show (ps.foldl (fun acc p => acc ++ (Str.ofString "").cps ++ p.cps) p.cps).toList = _
    rw [key, List.flatMap_cons]
theorem one_flat (f : Int → Int) : ∀ (ks : List Int), ((ks.map f).map fun c => (⟨#[c.toNat]⟩ : Str)).flatMap (fun p => p.cps.toList) = ks.map fun c => (f c).toNat
  | [] => rfl
  | c :: ks => by rw [List.map_cons, List.map_cons, List.flatMap_cons, one_flat f ks]; rfl
theorem low_cps (ks : List Int) : (lowStr ks).cps.toList = ks.map fun c => (lowC c).toNat := by
  unfold lowStr
  rw [join_cps, one_flat]
theorem txt_cps (ks : List Int) : (txt ks).cps.toList = ks.map fun c => c.toNat := by
  have := one_flat id ks
  rw [List.map_id] at this
  unfold txt
  rw [join_cps]
  exact this
noncomputable def SOk (x : Str) : Prop := PyData.strOk x = true
theorem SOk.of {x : Str} (h : ∀ c ∈ x.cps.toList, c < 0x110000) : SOk x := by
  unfold SOk PyData.strOk
  rw [← Array.all_toList, List.all_eq_true]
  intro c hc
  exact decide_eq_true (h c hc)
theorem txt_ok {ws : List Int} (h : ∀ c ∈ ws, c < 128) : SOk (txt ws) := by
  refine SOk.of fun c hc => ?_
  rw [txt_cps] at hc
  obtain ⟨d, hd, rfl⟩ := List.mem_map.mp hc
  have := h d hd
  omega
theorem tok_lt {c : Int} (h : tokB c = true) : 32 < c ∧ c < 127 := by
  unfold tokB at h
  simp only [Bool.and_eq_true, decide_eq_true_eq] at h
  exact h.1
theorem low_ok {ks : List Int} (h : ∀ c ∈ ks, tokB c = true) : SOk (lowStr ks) := by
  refine SOk.of fun c hc => ?_
  rw [low_cps] at hc
  obtain ⟨d, hd, rfl⟩ := List.mem_map.mp hc
  have := tok_lt (h d hd)
  unfold lowC
  split <;> omega
noncomputable def POk (l : List (Str × Str)) : Prop := ∀ p ∈ l, SOk p.1 ∧ SOk p.2
noncomputable def ROk (l : PR) : Prop := ∀ p ∈ l, SOk p.1
theorem putS_ok {l : List (Str × Str)} {x z : Str} (h : POk l) (hx : SOk x) (hz : SOk z) : POk (putS l x z) := by
  unfold putS
  split
  · intro p hp
    obtain ⟨q, hq, rfl⟩ := List.mem_map.mp hp
    split
    · exact ⟨(h q hq).1, hz⟩
    · exact h q hq
  · intro p hp
    rcases List.mem_append.mp hp with hp | hp
    · exact h p hp
    · rw [List.mem_singleton.mp hp]; exact ⟨hx, hz⟩
theorem putR_ok {l : PR} {x : Str} {r : List IE} (h : ROk l) : ROk (putR l x r) := by
  unfold putR
  intro p hp
  obtain ⟨q, hq, rfl⟩ := List.mem_map.mp hp
  split <;> exact h q hq
theorem addR_ok {l : PR} {x : Str} {n : Int} {e : Bool × Array UInt8} (h : ROk l) (hx : SOk x) : ROk (addR l x n e) := by
  unfold addR
  split
  · intro p hp
    rcases List.mem_append.mp hp with hp | hp
    · exact h p hp
    · rw [List.mem_singleton.mp hp]; exact hx
  · split
    · exact putR_ok h
    · exact h
theorem key_ok {s : String} (h : (Str.ofString s).cps.toList.all (· < 128) = true) : SOk (Str.ofString s) :=
  SOk.of fun c hc => by
    have := List.all_eq_true.mp h c hc
    have := of_decide_eq_true this
    omega
theorem step_ok {s : PSt} {k : PK} (hP : POk s.P) (hR : ROk s.R) (hk : k.Ok) : POk (s.step k).P ∧ ROk (s.step k).R := by
  cases k with
  | pl x ws =>
    obtain ⟨hx, hw, _⟩ := hk
    show POk (if (lkp s.P x).isSome then s else _).P ∧ ROk (if (lkp s.P x).isSome then s else _).R
    split
    · exact ⟨hP, hR⟩
    · refine ⟨?_, hR⟩
      intro p hp
      rcases List.mem_append.mp hp with hp | hp
      · exact hP p hp
      · rw [List.mem_singleton.mp hp]
        refine ⟨?_, txt_ok hw⟩
        rcases hx with rfl | rfl | rfl | rfl <;> exact key_ok (by kernel_rfl!)
  | pt nm x n e bw =>
    refine ⟨hP, addR_ok hR ?_⟩
    rcases hk with ⟨_, rfl, _⟩ | ⟨_, rfl, _⟩ | ⟨_, rfl, _⟩ <;> exact key_ok (by kernel_rfl!)
theorem fold_ok : ∀ (ks : List PK) (s : PSt), (∀ k ∈ ks, k.Ok) → POk s.P → ROk s.R → POk (ks.foldl PSt.step s).P ∧ ROk (ks.foldl PSt.step s).R
  | [], _, _, hP, hR => ⟨hP, hR⟩
  | k :: ks, s, hk, hP, hR => by
    have h := step_ok hP hR (hk k (.head _))
    exact fold_ok ks _ (fun k' h' => hk k' (.tail _ h')) h.1 h.2
theorem jw_ok (r : List IE) : SOk (jw r) := by
  unfold jw
  split
  · split <;> exact txt_ok (by decide)
  · exact SOk.of (by decide)
theorem fin_ok : ∀ (R : PR) (P : List (Str × Str)), POk P → ROk R → POk (R.foldl fin2 P)
  | [], _, hP, _ => hP
  | q :: R, P, hP, hR => by
    refine fin_ok R _ ?_ fun p hp => hR p (.tail _ hp)
    unfold fin2
    split
    · exact putS_ok hP (hR q (.head _)) (jw_ok _)
    · exact hP
theorem parF_ok {ks : List PK} (h : ∀ k ∈ ks, k.Ok) : POk (parF ks) := by
  have h1 := fold_ok (ks.take ks.length) ⟨[], []⟩ (fun k hk => h k (List.mem_of_mem_take hk)) (fun _ h => nomatch h) (fun _ h => nomatch h)
  exact fin_ok _ _ h1.1 fun p hp => h1.2 p (List.mem_of_mem_take hp)
theorem valS_ok {pl : List (Str × Str)} (h : POk pl) (x : Str) : SOk (valS pl x) := by
  unfold valS lkp
  cases q : pl.find? fun kv => kv.1 = x with
  | none => exact SOk.of (fun _ h => nomatch h)
  | some kv => exact (h kv (List.mem_of_find?_eq_some q)).2
section
variable {prog : Program} {w : World} {A : Around} {E : Value → Shared → Prop} {s : Shared} {h₀ h : Heap} {L T T' U U' : Addr} {m : Str → Option Value} {news n₁ n₂ : Led} {ys ys' : List Value} {top sub : Str} {pl : List (Str × Str)} {t1 t2 t1' t2' : Tok} {ss ss' : List Str}
/-- two answers to the same words are equal -/
theorem told_ne (N : News h₀ L s.heap news) (ma : (T, tupOf [.str top t1, .str sub t2, .ref U]) ∈ news) (mu : (U, tupOf ys) ∈ news) (Da : DatAll n₁ ys (ss.map (pairD pl))) (sa : ∀ p ∈ n₁, p ∈ news) (pa : ss.Perm (pl.map (·.1))) (oa : sortedS ss = true)
    (mb : (T', tupOf [.str top t1', .str sub t2', .ref U']) ∈ news) (mu' : (U', tupOf ys') ∈ news) (Db : DatAll n₂ ys' (ss'.map (pairD pl))) (sb : ∀ p ∈ n₂, p ∈ news) (pb : ss'.Perm (pl.map (·.1))) (ob : sortedS ss' = true)
    (hp : POk pl) (ht : SOk top) (hs : SOk sub) (hu : A.units + 64 < cLine) {Q : Value → Shared → Prop} (h : Q (.bool false) s) : wpAny (model prog w) A (compareOp .NotEq (.ref T) (.ref T')) Q E s := by
  have e : ss' = ss := sorted_uniq (pb.trans pa.symm) ob oa
  subst e
  refine tup_ne (ds := [.str top, .str sub, .tuple (ss'.map (pairD pl))]) N ma (.cons (.str _ _) (.cons (.str _ _) (.cons (.tuple mu (Da.mono sa)) .nil))) (fun _ h => h) mb (.cons (.str _ _) (.cons (.str _ _) (.cons (.tuple mu' (Db.mono sb)) .nil))) (fun _ h => h) ?_ hu h
  intro d hd
  simp only [List.mem_cons, List.not_mem_nil, or_false] at hd
  rcases hd with rfl | rfl | rfl
  · exact ht
  · exact hs
  · show ((ss'.map (pairD pl)).all (kqdOk 7)) = true
    rw [List.all_eq_true]
    intro d hd
    obtain ⟨x, hx, rfl⟩ := List.mem_map.mp hd
    have hx' := pb.mem_iff.mp hx
    obtain ⟨q, hq, rfl⟩ := List.mem_map.mp hx'
    show ([Dat.str q.1, .str (valS pl q.1)].all (kqdOk 6)) = true
    have h1 : kqdOk 6 (.str q.1) = true := (hp q hq).1
    have h2 : kqdOk 6 (.str (valS pl q.1)) = true := valS_ok hp q.1
    rw [List.all_cons, List.all_cons, List.all_nil, h1, h2]
    rfl
end
-- 79b
theorem due_p {top sub : Array UInt8} {i : Nat} {ps : List (Array UInt8 × Array UInt8)} {ks : List PK} {its nits : List Value} {ns : List Int} {q : PotS} (f : V1F top sub i ps ks its nits ns q) (hi : i < 5) (w : World) {b : Array UInt8} (t : Tok) (hk : KBw.bInts b = (wordsL top sub ps).flatten)
    (ht : ∀ c ∈ KBw.bInts top, tokB c = true) (hs : ∀ c ∈ KBw.bInts sub, tokB c = true) (ht0 : KBw.bInts top ≠ []) (hs0 : KBw.bInts sub ≠ []) (h1 : (KBw.bInts top).length ≤ 20) (h2 : (KBw.bInts sub).length ≤ 20) :
    PC w 447 [.bytes b t] 30 400 (HrdV (lowStr (KBw.bInts top)) (lowStr (KBw.bInts sub)) (parF ks)) :=
  heard_lay w b t _ _ _ [] ps ks hk (Nat.le_trans (f.room h1 h2 hi) (by decide)) (.inl rfl) (by rw [List.append_nil]; exact Lay.tight) f.menu ht hs ht0 hs0 (by rw [f.len]; omega)
theorem wide_p {top sub : Array UInt8} {i : Nat} {ps : List (Array UInt8 × Array UInt8)} {ks : List PK} {its nits : List Value} {ns : List Int} {q : PotS} (f : V1F top sub i ps ks its nits ns q) (hi : i < 5) (w : World) {b : Array UInt8} (t : Tok) {tail : List (List Int)} (htl : tail = [] ∨ tail = [[59]]) (hL : Lay (wordsL top sub ps ++ tail) (KBw.bInts b)) (hz : (KBw.bInts b).length ≤ 1000000)
    (ht : ∀ c ∈ KBw.bInts top, tokB c = true) (hs : ∀ c ∈ KBw.bInts sub, tokB c = true) (ht0 : KBw.bInts top ≠ []) (hs0 : KBw.bInts sub ≠ []) :
    PC w 447 [.bytes b t] 30 400 (HrdV (lowStr (KBw.bInts top)) (lowStr (KBw.bInts sub)) (parF ks)) :=
  heard_lay w b t _ _ _ tail ps ks rfl hz htl hL f.menu ht hs ht0 hs0 (by rw [f.len]; omega)
-- 82
/-- what holds between the turns of the second loop (and of the third, with one word emptied) -/
structure V2F (ws : List (List Int)) (i : Nat) (b : Array UInt8) (q : PotS) (z : Int) : Prop where
  lay : Lay (ws.take i) (KBw.bInts b)
  len : (KBw.bInts b).length ≤ 16 + 56 * i
  pot : PotOk q (z + 3 * i)
theorem V2F.zero {ws : List (List Int)} {b : Array UInt8} {q : PotS} {z : Int} (g : Gp (KBw.bInts b)) (hz : (KBw.bInts b).length ≤ 16) (hq : PotOk q z) : V2F ws 0 b q z :=
  ⟨g, by omega, hq.mono (by omega)⟩
theorem V2F.next {ws : List (List Int)} {i : Nat} {b b' : Array UInt8} {q q' : PotS} {z : Int} {u g : List Int} (f : V2F ws i b q z) (hu : ws[i]? = some u) (hz : u.length ≤ 40) (hg : Gp g) (hgz : g.length ≤ 16) (hq : PotOk q' (z + 3 * i + 3)) (hb : KBw.bInts b' = KBw.bInts b ++ u ++ g) : V2F ws (i + 1) b' q' z := by
  refine ⟨?_, ?_, hq.mono (by omega)⟩
  · rw [hb, List.take_add_one, hu, List.append_assoc]
    exact f.lay.snoc hg
  · have := f.len
    rw [hb, List.length_append, List.length_append]
    omega
theorem V2F.all {ws : List (List Int)} {b : Array UInt8} {q : PotS} {z : Int} (f : V2F ws ws.length b q z) : Lay ws (KBw.bInts b) := by
  have := f.lay
  rwa [List.take_length] at this
noncomputable def V2L (ws : List (List Int)) (z : Int) (PO PL WA NA TA : Addr) (oT oW oN : Obj) (rest : Led) (x : Str) (i : Nat) (m : Str → Option Value) (nx : Led) : Prop :=
  ∃ b t q, V2F ws i b q z ∧ OvrAll m [(Str.ofString "pot", .ref PO), (Str.ofString "words", .ref WA), (Str.ofString "needed", .ref NA), (Str.ofString "due", .ref TA), (x, .bytes b t)] ∧
    nx = (TA, oT) :: (WA, oW) :: (NA, oN) :: (PO, potO PL q) :: (PL, celO q) :: rest
section
variable {prog : Program} {w : World} {A : Around} {E : Value → Shared → Prop} {s : Shared} {env : Env} {h₀ : Heap} {body : List Stmt} {Q : Flow → Shared → Prop}
theorem loop2 {x : Str} {px : Pos} {m₀ : Str → Option Value} {TA NA WA PO PL : Addr} {oT oN : Obj} {its : List Value} {kw : Nat} {rest : Led} {q : PotS} {ws : List (List Int)} {b : Array UInt8} {t : Tok} (hh : A.handled = none) (F : Fr h₀ env.locals s.heap m₀)
    (N : News h₀ env.locals s.heap ((TA, oT) :: (WA, listOf its.toArray kw) :: (NA, oN) :: (PO, potO PL q) :: (PL, celO q) :: rest)) (hw : BsAre its ws) (hws : ∀ u ∈ ws, u.length ≤ 40) (f0 : V2F ws 0 b q 33)
    (hov : OvrAll m₀ [(Str.ofString "pot", .ref PO), (Str.ofString "words", .ref WA), (Str.ofString "needed", .ref NA), (Str.ofString "due", .ref TA), (Str.ofString "wide", .bytes b t)])
    (turn : ∀ (I : Addr) (i : Nat) (u : List Int) (v : Value) (b : Array UInt8) (t : Tok) (q : PotS) (m₁ : Str → Option Value) (oI : Obj) (h₁ : Heap) (tk₁ : Nat), i < ws.length → ws[i]? = some u → u.length ≤ 40 → BytesV u v → V2F ws i b q 33 →
      (∀ p ∈ (TA, oT) :: (WA, listOf its.toArray kw) :: (NA, oN) :: (PO, potO PL q) :: (PL, celO q) :: rest, p.1 ≠ I) →
      Fr h₀ env.locals h₁ (fun k => if k = Str.ofString "pot" then some (Value.ref PO) else if k = Str.ofString "words" then some (Value.ref WA) else if k = Str.ofString "needed" then some (Value.ref NA) else if k = Str.ofString "due" then some (Value.ref TA) else if k = Str.ofString "wide" then some (Value.bytes b t) else m₁ k) →
      News h₀ env.locals h₁ ((I, oI) :: (TA, oT) :: (WA, listOf its.toArray kw) :: (NA, oN) :: (PO, potO PL q) :: (PL, celO q) :: rest) →
      wpAny (model prog w) A (assign (.Name x px) env v) (fun _ s₃ => wpAny (model prog w) A (execs body env) (TurnEnd h₀ env.locals I oI { s with heap := h₁, toks := tk₁ } (V2L ws 33 PO PL WA NA TA oT (listOf its.toArray kw) oN rest (Str.ofString "wide") (i + 1)) Q) E s₃) E { s with heap := h₁, toks := tk₁ })
    (done : ∀ (b : Array UInt8) (t : Tok) (q : PotS) (m₁ : Str → Option Value) (h : Heap) (tk : Nat), V2F ws ws.length b q 33 →
      Fr h₀ env.locals h (fun k => if k = Str.ofString "pot" then some (Value.ref PO) else if k = Str.ofString "words" then some (Value.ref WA) else if k = Str.ofString "needed" then some (Value.ref NA) else if k = Str.ofString "due" then some (Value.ref TA) else if k = Str.ofString "wide" then some (Value.bytes b t) else m₁ k) →
      News h₀ env.locals h ((TA, oT) :: (WA, listOf its.toArray kw) :: (NA, oN) :: (PO, potO PL q) :: (PL, celO q) :: rest) → Q .next { s with heap := h, toks := tk }) :
    wpAny (model prog w) A (pyIter (.ref WA)) (fun it s₂ => TurnsAt prog w A h₀ env (.Name x px) body Q E it s₂) E s := by
  refine list_turns (l := WA) (vs := its) hh F N (.tail _ (.head _)) (V2L ws 33 PO PL WA NA TA oT (listOf its.toArray kw) oN rest (Str.ofString "wide")) ⟨b, t, q, f0, hov, rfl⟩ ?_ ?_ ?_
  · rintro i m nx ⟨b, t, q, _, _, rfl⟩
    exact .tail _ (.head _)
  · rintro I i v m₁ nx oI h₁ tk₁ hv ⟨b, t, q, f, hov, rfl⟩ hoI F₁ N₁
    obtain ⟨u, hu, hb⟩ := hw.get hv
    have hm : u ∈ ws := List.mem_of_getElem? hu
    have hi : i < ws.length := (List.getElem?_eq_some_iff.mp hu).1
    exact turn I i u v b t q m₁ oI h₁ tk₁ hi hu (hws u hm) hb f hoI (fr_ovr F₁ _ hov) N₁
  · rintro m₁ nx h tk ⟨b, t, q, f, hov, rfl⟩ F' N'
    rw [hw.len] at f
    exact done b t q m₁ h tk f (fr_ovr F' _ hov) N'
end
theorem flat_each {ps : List (Array UInt8 × Array UInt8)} {ks : List PK} (hm : MenuC ps ks) (u : List Int) (hu : u ∈ flatW ps) : u.length ≤ 40 := by
  induction hm with
  | nil => cases hu
  | cons h _ ih =>
    obtain ⟨_, _, _, _, _, _, h6, h7, _⟩ := h
    rw [flatW_cons] at hu
    rcases List.mem_cons.mp hu with rfl | hu
    · decide
    rcases List.mem_cons.mp hu with rfl | hu
    · exact Nat.le_trans h6 (by decide)
    rcases List.mem_cons.mp hu with rfl | hu
    · decide
    rcases List.mem_cons.mp hu with rfl | hu
    · exact h7
    · exact ih hu
theorem words_each {top sub : Array UInt8} {ps : List (Array UInt8 × Array UInt8)} {ks : List PK} (hm : MenuC ps ks) (h1 : (KBw.bInts top).length ≤ 20) (h2 : (KBw.bInts sub).length ≤ 20) : ∀ u ∈ wordsL top sub ps, u.length ≤ 40 := by
  intro u hu
  simp only [List.mem_cons] at hu
  rcases hu with rfl | rfl | rfl | hu
  · omega
  · decide
  · omega
  · exact flat_each hm u hu
-- 83
theorem low_len (ks : List Int) : (lowStr ks).length = ks.length := by
  show (lowStr ks).cps.size = _
  rw [← Array.length_toList, low_cps, List.length_map]
theorem str_ext {x y : Str} (h : x.cps.toList = y.cps.toList) : x = y := by
  cases x; cases y
  congr 1
  exact Array.toList_inj.mp h
theorem app_cps (x y : Str) : (x ++ y).cps.toList = x.cps.toList ++ y.cps.toList := by
  show (x.cps ++ y.cps).toList = _
  rw [Array.toList_append]
theorem slash_cps : (Str.ofString "/").cps.toList = [47] := by kernel_rfl!
/-- the text the law makes of the first three words is what was heard -/
theorem due_text (top sub : List Int) : Txt.join (Str.ofString "") ((top ++ ([47] ++ sub)).map fun c : Int => (⟨#[(lowC c).toNat]⟩ : Str)) = lowStr top ++ Str.ofString "/" ++ lowStr sub := by
  apply str_ext
  have e : ((top ++ ([47] ++ sub)).map fun c : Int => (⟨#[(lowC c).toNat]⟩ : Str)) = ((top ++ ([47] ++ sub)).map lowC).map fun c : Int => (⟨#[c.toNat]⟩ : Str) := by rw [List.map_map]; rfl
  rw [e, join_cps, one_flat, app_cps, app_cps, low_cps, low_cps, slash_cps, List.map_append, List.map_append, List.append_assoc]
  rfl
section
variable {prog : Program} {w : World} {A : Around} {E : Value → Shared → Prop} {s : Shared}
theorem sum_str {x y : Str} {t u : Tok} {Q : Value → Shared → Prop} (hsz : x.length + y.length ≤ 1000) (h : ∀ t' k, Q (.str (x ++ y) t') { s with toks := k }) : wpAny (model prog w) A (binaryOp .Add (.str x t) (.str y u)) Q E s :=
  SB.add h (by rw [sizeLine_eq]; omega)
theorem len_slash : (Str.ofString "/").length = 1 := by kernel_rfl!
theorem len_app (x y : Str) : (x ++ y).length = x.length + y.length := by
  show (x.cps ++ y.cps).size = _
  rw [Array.size_append]; rfl
end
theorem slice_3 (its : Array Value) (h3 : 3 ≤ its.size) : slicePick its none (some 3) none = ((its.toList.take 3)).toArray := by
  have e : sliceBounds none (some 3) none its.size = (((0 : Nat) : Int), ((3 : Nat) : Int), 1) := by
    simp only [sliceBounds, Option.getD_none, show (1 : Int) > 0 by decide, if_true]
    rw [if_neg (show ¬ (3 : Int) < 0 by decide)]
    congr 1
    congr 1
    omega
  rw [kmk_pick_nat _ e]
  simp
theorem bs_3 {its : List Value} {a b c : List Int} {r : List (List Int)} (hb : BsAre its (a :: b :: c :: r)) : BsAre (slicePick its.toArray none (some 3) none).toList [a, b, c] := by
  have hl := hb.len
  rw [slice_3 _ (by rw [List.size_toArray, hl]; simp)]
  simpa using hb.take 3
theorem V1F.room3 {top sub : Array UInt8} {i : Nat} {ps : List (Array UInt8 × Array UInt8)} {ks : List PK} {its nits : List Value} {ns : List Int} {q : PotS} (_ : V1F top sub i ps ks its nits ns q) (h1 : (KBw.bInts top).length ≤ 20) (h2 : (KBw.bInts sub).length ≤ 20) :
    [KBw.bInts top, [47], KBw.bInts sub].flatten.length ≤ 16777216 := by
  simp only [List.flatten_cons, List.flatten_nil, List.length_append, List.length_cons, List.length_nil]
  omega
theorem three_flat (a b c : List Int) : [a, b, c].flatten = a ++ (b ++ c) := by simp
theorem V1F.room3' {top sub : Array UInt8} {i : Nat} {ps : List (Array UInt8 × Array UInt8)} {ks : List PK} {its nits : List Value} {ns : List Int} {q : PotS} (_ : V1F top sub i ps ks its nits ns q) (h1 : (KBw.bInts top).length ≤ 20) (h2 : (KBw.bInts sub).length ≤ 20) :
    [KBw.bInts top, [47], KBw.bInts sub].flatten.length ≤ 41 := by
  simp only [List.flatten_cons, List.flatten_nil, List.length_append, List.length_cons, List.length_nil]
  omega
-- 84
noncomputable def V3L (ws : List (List Int)) (z : Int) (PO PL WA : Addr) (oW : Obj) (rest : Led) (out : Int) (to : Tok) (y : Str) (i : Nat) (m : Str → Option Value) (nx : Led) : Prop :=
  ∃ b t q, V2F ws i b q z ∧ OvrAll m [(Str.ofString "pot", .ref PO), (Str.ofString "words", .ref WA), (Str.ofString "out", .int out to), (y, .bytes b t)] ∧ nx = (WA, oW) :: (PO, potO PL q) :: (PL, celO q) :: rest
section
variable {prog : Program} {w : World} {A : Around} {E : Value → Shared → Prop} {s : Shared} {env : Env} {h₀ : Heap} {body : List Stmt} {Q : Flow → Shared → Prop}
/-- the law's third loop -/
theorem loop3 {r : Addr} {bn : Int} {t1 u1 v1 : Tok} {x : Str} {px : Pos} {m₀ : Str → Option Value} {WA PO PL : Addr} {its : List Value} {kw : Nat} {rest : Led} {q : PotS} {out : Int} {to : Tok} {ws : List (List Int)} {b : Array UInt8} {t : Tok} (hh : A.handled = none) (F : Fr h₀ env.locals s.heap m₀)
    (N : News h₀ env.locals s.heap ((WA, listOf its.toArray kw) :: (PO, potO PL q) :: (PL, celO q) :: rest)) (hr : IsRange s.heap r 0 bn 1 t1 u1 v1) (hb : bn = ws.length) (hz : ws.length ≤ 100) (f0 : V2F ws 0 b q 400)
    (hov : OvrAll m₀ [(Str.ofString "pot", .ref PO), (Str.ofString "words", .ref WA), (Str.ofString "out", .int out to), (Str.ofString "lacking", .bytes b t)])
    (turn : ∀ (I : Addr) (i : Nat) (ti : Tok) (b : Array UInt8) (t : Tok) (q : PotS) (m₁ : Str → Option Value) (oI : Obj) (h₁ : Heap) (tk₁ : Nat), i < ws.length → V2F ws i b q 400 →
      (∀ p ∈ (WA, listOf its.toArray kw) :: (PO, potO PL q) :: (PL, celO q) :: rest, p.1 ≠ I) →
      Fr h₀ env.locals h₁ (fun k => if k = Str.ofString "pot" then some (Value.ref PO) else if k = Str.ofString "words" then some (Value.ref WA) else if k = Str.ofString "out" then some (Value.int out to) else if k = Str.ofString "lacking" then some (Value.bytes b t) else m₁ k) →
      News h₀ env.locals h₁ ((I, oI) :: (WA, listOf its.toArray kw) :: (PO, potO PL q) :: (PL, celO q) :: rest) →
      wpAny (model prog w) A (assign (.Name x px) env (.int (i : Nat) ti)) (fun _ s₃ => wpAny (model prog w) A (execs body env) (TurnEnd h₀ env.locals I oI { s with heap := h₁, toks := tk₁ } (V3L ws 400 PO PL WA (listOf its.toArray kw) rest out to (Str.ofString "lacking") (i + 1)) Q) E s₃) E { s with heap := h₁, toks := tk₁ })
    (done : ∀ (b : Array UInt8) (t : Tok) (q : PotS) (m₁ : Str → Option Value) (h : Heap) (tk : Nat), Lay ws (KBw.bInts b) → (KBw.bInts b).length ≤ 16 + 56 * ws.length →
      Fr h₀ env.locals h (fun k => if k = Str.ofString "pot" then some (Value.ref PO) else if k = Str.ofString "words" then some (Value.ref WA) else if k = Str.ofString "out" then some (Value.int out to) else if k = Str.ofString "lacking" then some (Value.bytes b t) else m₁ k) →
      News h₀ env.locals h ((WA, listOf its.toArray kw) :: (PO, potO PL q) :: (PL, celO q) :: rest) → Q .next { s with heap := h, toks := tk }) :
    wpAny (model prog w) A (pyIter (.ref r)) (fun it s₂ => TurnsAt prog w A h₀ env (.Name x px) body Q E it s₂) E s := by
  refine range_turns (n := ws.length) hh F N hr (by omega) (by omega) (V3L ws 400 PO PL WA (listOf its.toArray kw) rest out to (Str.ofString "lacking")) ⟨b, t, q, f0, hov, rfl⟩ ?_ ?_
  · rintro I i ti m₁ nx oI h₁ tk₁ hi ⟨b, t, q, f, hov, rfl⟩ hoI F₁ N₁
    exact turn I i ti b t q m₁ oI h₁ tk₁ hi f hoI (fr_ovr F₁ _ hov) N₁
  · rintro m₁ nx h tk ⟨b, t, q, f, hov, rfl⟩ F' N'
    exact done b t q m₁ h tk f.all f.len (fr_ovr F' _ hov) N'
end
/-- the word at spot, emptied at out -/
theorem set_at {ws : List (List Int)} {i : Nat} {out : Nat} {u : List Int} (h : ws[i]? = some u) : (ws.set out [])[i]? = some (if i = out then [] else u) := by
  by_cases e : i = out
  · subst e
    have hi : i < ws.length := (List.getElem?_eq_some_iff.mp h).1
    rw [List.getElem?_set_self hi, if_pos rfl]
  · rw [List.getElem?_set_ne (Ne.symm e), if_neg e, h]
-- 85
/-- the end of a turn of the law's first loop -/
theorem turn1_end {h₀ h' : Heap} {L I b1 b2 PO PL WA NA : Addr} {o1 o2 oI : Obj} {s₁ : Shared} {Q : Flow → Shared → Prop} {m' : Str → Option Value} {tk kw kn : Nat} {top sub : Array UInt8} {i : Nat} {ps : List (Array UInt8 × Array UInt8)} {ks : List PK} {its nits : List Value} {ns : List Int} {q q' : PotS} {nm wt : Array UInt8} {t1 t2 t3 t4 t5 t6 t7 : Tok}
    (f : V1F top sub i ps ks its nits ns q) (hm : MenuP nm wt) (hq : PotOk q' (10 + 5 * i + 1)) (F : Fr h₀ L h' m') (N : News h₀ L h' [(b2, o2), (b1, o1), (I, oI), (WA, listOf (its ++ [Value.bytes #[59] t1, Value.bytes nm t2, Value.bytes #[61] t3, Value.bytes wt t4]).toArray kw), (NA, listOf (nits ++ [Value.int ((its.length : Nat) + 1) t5, Value.int ((its.length : Nat) + 2) t6, Value.int ((its.length : Nat) + 3) t7]).toArray kn), (PO, potO PL q'), (PL, celO q')])
    (n1 : I ≠ WA) (n2 : I ≠ NA) (n3 : I ≠ PO) (n4 : I ≠ PL) (hov : OvrAll m' [(Str.ofString "pot", .ref PO), (Str.ofString "words", .ref WA), (Str.ofString "needed", .ref NA)]) :
    TurnEnd h₀ L I oI s₁ (V1L top sub PO PL WA NA (i + 1)) Q .next { s₁ with heap := h', toks := tk } := by
  obtain ⟨ks', f'⟩ := V1F.next (t1 := t1) (t2 := t2) (t3 := t3) (t4 := t4) (t5 := t5) (t6 := t6) (t7 := t7) f hm hq rfl rfl rfl
  refine ⟨h', tk, m', [(WA, listOf _ kw), (NA, listOf _ kn), (PO, potO PL q'), (PL, celO q')], rfl, F, fun p hp => N p (.tail _ (.tail _ hp)), ?_, ⟨_, ks', _, kw, _, _, kn, q', f', hov, rfl⟩⟩
  intro p hp
  simp only [List.mem_cons, List.not_mem_nil, or_false] at hp
  rcases hp with rfl | rfl | rfl | rfl
  · exact Ne.symm n1
  · exact Ne.symm n2
  · exact Ne.symm n3
  · exact Ne.symm n4
-- 86
section
variable {prog : Program} {w : World} {A : Around} {E : Value → Shared → Prop} {s : Shared} {h₀ h : Heap} {L : Addr} {m : Str → Option Value} {news : Led}
/-- the sum of two bytes -/
theorem add_b {x y : Array UInt8} {t u : Tok} {Q : Value → Shared → Prop} (hz : (KBw.bInts x).length + (KBw.bInts y).length ≤ 5000) (h : ∀ t' k, KBw.bInts (x ++ y) = KBw.bInts x ++ KBw.bInts y → Q (.bytes (x ++ y) t') { s with toks := k }) : wpAny (model prog w) A (binaryOp .Add (.bytes x t) (.bytes y u)) Q E s :=
  KBa.add_K rfl rfl (Nat.le_trans hz (by decide)) fun t' k e => h t' k e
theorem drop_two {x y : Addr × Obj} (N : News h₀ L h (x :: y :: news)) : News h₀ L h news := fun p hp => N p (.tail _ (.tail _ hp))
theorem drop_one {x : Addr × Obj} (N : News h₀ L h (x :: news)) : News h₀ L h news := fun p hp => N p (.tail _ hp)
/-- the answer to the wide words beside the due one, and forgotten -/
theorem told_ne_at {T T' U U' : Addr} {a b c d : Addr × Obj} {tl tl' : Led} {ys ys' : List Value} {ks : List PK} {top sub : List Int} {t1 t2 t1' t2' : Tok} {ss ss' : List Str}
    (N : News h₀ L s.heap ((T', tupOf [.str (lowStr top) t1', .str (lowStr sub) t2', .ref U']) :: (T, tupOf [.str (lowStr top) t1, .str (lowStr sub) t2, .ref U]) :: a :: b :: c :: d :: (U, tupOf ys) :: (tl ++ (U', tupOf ys') :: tl')))
    (Da : DatAll tl ys (ss.map (pairD (parF ks)))) (pa : ss.Perm ((parF ks).map (·.1))) (oa : sortedS ss = true) (Db : DatAll tl' ys' (ss'.map (pairD (parF ks)))) (pb : ss'.Perm ((parF ks).map (·.1))) (ob : sortedS ss' = true)
    (hk : ∀ k ∈ ks, k.Ok) (ht : ∀ c ∈ top, tokB c = true) (hs : ∀ c ∈ sub, tokB c = true) (hu : A.units + 64 < cLine) {Q : Value → Shared → Prop}
    (h : News h₀ L s.heap ((T, tupOf [.str (lowStr top) t1, .str (lowStr sub) t2, .ref U]) :: a :: b :: c :: d :: (U, tupOf ys) :: tl) → Q (.bool false) s) : wpAny (model prog w) A (compareOp .NotEq (.ref T') (.ref T)) Q E s := by
  refine told_ne (n₁ := tl') (n₂ := tl) N (.head _) ?_ Db ?_ pb ob (.tail _ (.head _)) ?_ Da ?_ pa oa (parF_ok hk) (low_ok ht) (low_ok hs) hu (h ?_)
  · exact .tail _ (.tail _ (.tail _ (.tail _ (.tail _ (.tail _ (.tail _ (List.mem_append_right _ (.head _))))))))
  · intro p hp
    exact .tail _ (.tail _ (.tail _ (.tail _ (.tail _ (.tail _ (.tail _ (List.mem_append_right _ (.tail _ hp))))))))
  · exact .tail _ (.tail _ (.tail _ (.tail _ (.tail _ (.tail _ (.head _))))))
  · intro p hp
    exact .tail _ (.tail _ (.tail _ (.tail _ (.tail _ (.tail _ (.tail _ (List.mem_append_left _ hp)))))))
  · intro p hp
    have := List.mem_append_left ((U', tupOf ys') :: tl') hp
    exact N p (.tail _ this)
/-- a word of the list -/
theorem item_words {value slice : Expr} {l : Addr} {its : List Value} {ws : List (List Int)} {n i : Nat} {u : Tok} {Q : Value → Shared → Prop} (N : News h₀ L s.heap news) (hm : (l, listOf its.toArray n) ∈ news) (hb : BsAre its ws) (hi : i < ws.length) (hz : ws.length ≤ 1000)
    (h : ∀ b t, ws[i]? = some (KBw.bInts b) → Q (.bytes b t) s)
    (hs : subscripted slice false (.ref l) (.int (i : Nat) u) = operate [.ref l, .int (i : Nat) u] (getItem (.ref l) (.int (i : Nat) u)) := by with_unfolding_all rfl) :
    wpAny (model prog w) A (subscriptTail value slice (.ref l) (.int (i : Nat) u)) Q E s := by
  have hl : s.heap.IsList l its.toArray := ⟨_, (N _ hm).1, rfl, n, rfl⟩
  have hk : i < its.length := by rw [hb.len]; exact hi
  have hx : its[i]? = some its[i] := List.getElem?_eq_getElem hk
  obtain ⟨x, hxu, hv⟩ := hb.get hx
  obtain ⟨b, t, e, rfl⟩ := BytesV.out hv
  refine tail_any hl.typeIs slot_list_getitem.lookup (wpAny_getItem_list hl (by omega) (by omega) (x := its[i]) (by simpa using hx) ?_) hs
  rw [e]
  exact h b t hxu
end
/-- an index of a word that must stand -/
noncomputable def NeedV (n : Nat) (v : Value) : Prop := ∃ x t, v = .int x t ∧ NeedOk n x
theorem NeedV.out {n : Nat} {v : Value} (h : NeedV n v) : ∃ x t, v = .int x t ∧ NeedOk n x := h
theorem need_menu {vs : List Value} {ns : List Int} {n : Nat} (h : IntsAre vs ns) (hn : ∀ x ∈ ns, NeedOk n x) (v : Value) (hv : v ∈ vs) : NeedV n v := by
  induction h with
  | nil => cases hv
  | cons x t _ ih =>
    rcases List.mem_cons.mp hv with rfl | hv
    · exact ⟨x, t, rfl, hn x (.head _)⟩
    · exact ih (fun y hy => hn y (.tail _ hy)) hv
theorem V1F.menuN {top sub : Array UInt8} {i : Nat} {ps : List (Array UInt8 × Array UInt8)} {ks : List PK} {its nits : List Value} {ns : List Int} {q : PotS} (f : V1F top sub i ps ks its nits ns q) : ∀ v ∈ nits.toArray.toList, NeedV i v := by
  rw [List.toList_toArray]
  exact need_menu f.isI f.need
theorem NeedOk.nat {n : Nat} {x : Int} (h : NeedOk n x) : ∃ out : Nat, x = (out : Int) ∧ out < 3 + 4 * n ∧ (out = 0 ∨ out = 1 ∨ out = 2 ∨ ∃ k, k < n ∧ (out = 4 * k + 4 ∨ out = 4 * k + 5 ∨ out = 4 * k + 6)) := by
  rcases h with rfl | rfl | rfl | ⟨k, hk, h⟩
  · exact ⟨0, rfl, by omega, .inl rfl⟩
  · exact ⟨1, rfl, by omega, .inr (.inl rfl)⟩
  · exact ⟨2, rfl, by omega, .inr (.inr (.inl rfl))⟩
  · have key : ∀ j : Nat, j ≤ 6 → 4 ≤ j → (j = 4 ∨ j = 5 ∨ j = 6) → x = 4 * k + j → ∃ out : Nat, x = (out : Int) ∧ out < 3 + 4 * n ∧ (out = 0 ∨ out = 1 ∨ out = 2 ∨ ∃ k, k < n ∧ (out = 4 * k + 4 ∨ out = 4 * k + 5 ∨ out = 4 * k + 6)) :=
      fun j h6 _ hj e => ⟨4 * k + j, e, by omega, .inr (.inr (.inr ⟨k, hk, or3 (fun e => by rw [e]) (fun e => by rw [e]) (fun e => by rw [e]) hj⟩))⟩
    rcases h with h | h | h
    · exact key 4 (by decide) (by decide) (.inl rfl) h
    · exact key 5 (by decide) (by decide) (.inr (.inl rfl)) h
    · exact key 6 (by decide) (by decide) (.inr (.inr rfl)) h
section
variable {top sub : Array UInt8} {i : Nat} {ps : List (Array UInt8 × Array UInt8)} {ks : List PK} {its nits : List Value} {ns : List Int} {q : PotS}
theorem V1F.wl (f : V1F top sub i ps ks its nits ns q) (hi : i < 5) : (wordsL top sub ps).length ≤ 19 := by
  rw [words_len, f.len]; omega
/-- the law's text and the answer's -/
theorem due_no (top sub : List Int) (h : (lowStr top ++ Str.ofString "/" ++ lowStr sub != Txt.join (Str.ofString "") ([top, [47], sub].flatten.map fun c : Int => (⟨#[(lowC c).toNat]⟩ : Str))) = true) : False := by
  rw [three_flat, due_text] at h
  rw [bne_self_eq_false] at h
  cases h
theorem wide_p0 (f : V1F top sub i ps ks its nits ns q) (hi : i < 5) (w : World) {b : Array UInt8} (t : Tok) (hL : Lay (wordsL top sub ps) (KBw.bInts b)) (hz : (KBw.bInts b).length ≤ 16 + 56 * (wordsL top sub ps).length)
    (ht : ∀ c ∈ KBw.bInts top, tokB c = true) (hs : ∀ c ∈ KBw.bInts sub, tokB c = true) (ht0 : KBw.bInts top ≠ []) (hs0 : KBw.bInts sub ≠ []) :
    PC w 447 [.bytes b t] 30 400 (HrdV (lowStr (KBw.bInts top)) (lowStr (KBw.bInts sub)) (parF ks)) := by
  have := f.wl hi
  exact wide_p f hi w t (tail := []) (.inl rfl) (by rw [List.append_nil]; exact hL) (by omega) ht hs ht0 hs0
theorem wide_p1 (f : V1F top sub i ps ks its nits ns q) (hi : i < 5) (w : World) {b g : Array UInt8} (t : Tok) (hL : Lay (wordsL top sub ps) (KBw.bInts b)) (hz : (KBw.bInts b).length ≤ 16 + 56 * (wordsL top sub ps).length) (hg : Gp (KBw.bInts g)) (hgz : (KBw.bInts g).length ≤ 16)
    (ht : ∀ c ∈ KBw.bInts top, tokB c = true) (hs : ∀ c ∈ KBw.bInts sub, tokB c = true) (ht0 : KBw.bInts top ≠ []) (hs0 : KBw.bInts sub ≠ []) :
    PC w 447 [.bytes (b ++ #[59] ++ g) t] 30 400 (HrdV (lowStr (KBw.bInts top)) (lowStr (KBw.bInts sub)) (parF ks)) := by
  have hw := f.wl hi
  have e : KBw.bInts (b ++ #[59] ++ g) = KBw.bInts b ++ ([59] ++ KBw.bInts g) := by
    rw [← List.append_assoc]
    exact KBw.ints_app (KBw.ints_app rfl rfl) rfl
  refine wide_p f hi w t (tail := [[59]]) (.inr rfl) (by rw [e]; exact hL.snoc hg) ?_ ht hs ht0 hs0
  rw [e]
  simp only [List.length_append, List.length_cons, List.length_nil]
  omega
/-- the words with one left out are refused -/
theorem lack_h (f : V1F top sub i ps ks its nits ns q) (hi : i < 5) (w : World) {b : Array UInt8} (t : Tok) (out : Nat) (news : Led) (ho : out = 0 ∨ out = 1 ∨ out = 2 ∨ ∃ k, k < i ∧ (out = 4 * k + 4 ∨ out = 4 * k + 5 ∨ out = 4 * k + 6))
    (hL : Lay ((wordsL top sub ps).set out []) (KBw.bInts b)) (hz : (KBw.bInts b).length ≤ 16 + 56 * ((wordsL top sub ps).set out []).length)
    (ht : ∀ c ∈ KBw.bInts top, tokB c = true) (hs : ∀ c ∈ KBw.bInts sub, tokB c = true) (ht0 : KBw.bInts top ≠ []) (hs0 : KBw.bInts sub ≠ []) (h1 : (KBw.bInts top).length ≤ 20) (h2 : (KBw.bInts sub).length ≤ 20) :
    HC w 447 [.bytes b t] news 30 400 (fun v n' => n' = news ∧ v = .none) := by
  have hw := f.wl hi
  rw [List.length_set] at hz
  have hp := f.len
  exact heard_out w b t _ _ _ ps ks out news rfl (by omega) (by rw [hp]; exact ho) hL f.menu ht hs ht0 hs0 h1 h2
/-- the end of a turn of the second loop -/
theorem turn2_end {h₀ h' : Heap} {L I PO PL WA NA TA : Addr} {oT oW oN oI : Obj} {rest : Led} {s₁ : Shared} {Q : Flow → Shared → Prop} {m' : Str → Option Value} {tk : Nat} {ws : List (List Int)} {z : Int} {i : Nat} {b u g : Array UInt8} {q q' : PotS} {y : Str} {t' : Tok}
    (f : V2F ws i b q z) (hu : ws[i]? = some (KBw.bInts u)) (hz : (KBw.bInts u).length ≤ 40) (hg : Gp (KBw.bInts g)) (hgz : (KBw.bInts g).length ≤ 16) (hq : PotOk q' (z + 3 * i + 3)) (F : Fr h₀ L h' m') (N : News h₀ L h' ((I, oI) :: (TA, oT) :: (WA, oW) :: (NA, oN) :: (PO, potO PL q') :: (PL, celO q') :: rest))
    (hoI : ∀ p ∈ (TA, oT) :: (WA, oW) :: (NA, oN) :: (PO, potO PL q) :: (PL, celO q) :: rest, p.1 ≠ I)
    (hov : OvrAll m' [(Str.ofString "pot", .ref PO), (Str.ofString "words", .ref WA), (Str.ofString "needed", .ref NA), (Str.ofString "due", .ref TA), (y, .bytes (b ++ u ++ g) t')]) :
    TurnEnd h₀ L I oI s₁ (V2L ws z PO PL WA NA TA oT oW oN rest y (i + 1)) Q .next { s₁ with heap := h', toks := tk } := by
  refine ⟨h', tk, m', (TA, oT) :: (WA, oW) :: (NA, oN) :: (PO, potO PL q') :: (PL, celO q') :: rest, rfl, F, N, ?_, ⟨b ++ u ++ g, t', q', f.next hu hz hg hgz hq (KBw.ints_app (KBw.ints_app rfl rfl) rfl), hov, rfl⟩⟩
  intro p hp
  simp only [List.mem_cons] at hp
  rcases hp with rfl | rfl | rfl | rfl | rfl | hp
  · exact hoI _ (.head _)
  · exact hoI _ (.tail _ (.head _))
  · exact hoI _ (.tail _ (.tail _ (.head _)))
  · exact hoI (PO, potO PL q) (.tail _ (.tail _ (.tail _ (.head _))))
  · exact hoI (PL, celO q) (.tail _ (.tail _ (.tail _ (.tail _ (.head _)))))
  · exact hoI p (.tail _ (.tail _ (.tail _ (.tail _ (.tail _ hp)))))
/-- the end of a turn of the third loop -/
theorem turn3_end {h₀ h' : Heap} {L I PO PL WA : Addr} {oW oI : Obj} {rest : Led} {s₁ : Shared} {Q : Flow → Shared → Prop} {m' : Str → Option Value} {tk : Nat} {ws : List (List Int)} {z out : Int} {to : Tok} {i : Nat} {b u g : Array UInt8} {q q' : PotS} {y : Str} {t' : Tok}
    (f : V2F ws i b q z) (hu : ws[i]? = some (KBw.bInts u)) (hz : (KBw.bInts u).length ≤ 40) (hg : Gp (KBw.bInts g)) (hgz : (KBw.bInts g).length ≤ 16) (hq : PotOk q' (z + 3 * i + 3)) (F : Fr h₀ L h' m') (N : News h₀ L h' ((I, oI) :: (WA, oW) :: (PO, potO PL q') :: (PL, celO q') :: rest))
    (hoI : ∀ p ∈ (WA, oW) :: (PO, potO PL q) :: (PL, celO q) :: rest, p.1 ≠ I)
    (hov : OvrAll m' [(Str.ofString "pot", .ref PO), (Str.ofString "words", .ref WA), (Str.ofString "out", .int out to), (y, .bytes (b ++ u ++ g) t')]) :
    TurnEnd h₀ L I oI s₁ (V3L ws z PO PL WA oW rest out to y (i + 1)) Q .next { s₁ with heap := h', toks := tk } := by
  refine ⟨h', tk, m', (WA, oW) :: (PO, potO PL q') :: (PL, celO q') :: rest, rfl, F, N, ?_, ⟨b ++ u ++ g, t', q', f.next hu hz hg hgz hq (KBw.ints_app (KBw.ints_app rfl rfl) rfl), hov, rfl⟩⟩
  intro p hp
  simp only [List.mem_cons] at hp
  rcases hp with rfl | rfl | rfl | hp
  · exact hoI _ (.head _)
  · exact hoI (PO, potO PL q) (.tail _ (.head _))
  · exact hoI (PL, celO q) (.tail _ (.tail _ (.head _)))
  · exact hoI p (.tail _ (.tail _ (.tail _ hp)))
end
/-- the words with one emptied, at a place -/
theorem out_at {ws : List (List Int)} {i out : Nat} {u : List Int} (h : ws[i]? = some u) (hne : i ≠ out) : (ws.set out [])[i]? = some u := by
  rw [set_at h, if_neg hne]
theorem out_nil {ws : List (List Int)} {i : Nat} (hi : i < ws.length) : (ws.set i [])[i]? = some [] := by
  rw [set_at (List.getElem?_eq_getElem hi), if_pos rfl]
theorem each_len {ws : List (List Int)} {i : Nat} {u : List Int} (hw : ∀ u ∈ ws, u.length ≤ 40) (h : ws[i]? = some u) : u.length ≤ 40 := hw u (List.mem_of_getElem? h)
-- 87
theorem reg_p87 : True := by
  (k_with "eval Call" => (k_here; (with_reducible show wpAny _ _ (eval (Expr.Call (Expr.Name (Str.ofString "_law_pot") _) _ [] _) _) _ _ _); k_dflt (refine Call_ ?_)))
  (k_with "eval Call" => (k_here; (with_reducible show wpAny _ _ (eval (Expr.Call (Expr.Name (Str.ofString "_law_draw") _) _ [] _) _) _ _ _); k_dflt (refine Call_ ?_)))
  (k_with "eval Call" => (k_here; (with_reducible show wpAny _ _ (eval (Expr.Call (Expr.Name (Str.ofString "_law_gap") _) _ [] _) _) _ _ _); k_dflt (refine Call_ ?_)))
  (k_with "eval Call" => (k_here; (with_reducible show wpAny _ _ (eval (Expr.Call (Expr.Name (Str.ofString "_law_pairs") _) _ [] _) _) _ _ _); k_dflt (refine Call_ ?_)))
  (k_with "eval Call" => (k_here; (with_reducible show wpAny _ _ (eval (Expr.Call (Expr.Name (Str.ofString "_law_heard") _) _ [] _) _) _ _ _); k_dflt (refine Call_ ?_)))
  (k_with "subscriptTail" => (k_here; (with_reducible show wpAny _ _ (subscriptTail _ _ (Value.ref _) (Value.int _ _)) _ _ _); k_dflt (first | (refine' item_menu TopV ?Nq209 ?mq209 ?aq209 ?bq209 ?zq209 ?pq209 ?_; (case Nq209 => k_asm); (case mq209 => k_mem); (case aq209 => assumption); (case bq209 => assumption); (case zq209 => exact Nat.le_of_ble_eq_true rfl); (case pq209 => first | exact top_menu _ _ _ | exact sub_menu _ _))); intro v9 hV9; (obtain ⟨b9, t9, e9, c9, n9, z9⟩ := TopV.out hV9); subst e9))
  (k_with "call ref" => (k_here; (with_reducible show wpAny _ _ (call (Value.ref 421) _) _ _ _); k_dflt (refine' law_pot _ _ _ _ _ _ _ _ _ _ _ _ _ _ _ _ _ _ _ _ _ _ _ _ _ ?Bq210 ?Fq210 ?Xq210 ?Nq210 ?Tq210 ?hkq210 ?hdq210 ?huq210 ?hlq210 ?hIq210 ?hzq210 ?_; (case Bq210 => k_asm); (case Fq210 => k_asm); (case Xq210 => k_asm); (case Nq210 => k_asm); (case Tq210 => k_asm); (case hkq210 => first | exact rfl | assumption); (case hdq210 => ktr_room); (case huq210 => ktr_units); (case hlq210 => assumption); (case hIq210 => assumption); (case hzq210 => omega)); intro PO PL q9 h9 tk9 hne o1 o2 hq9 F9 N9; (try k_sweep)))
  (k_with "subscriptTail" => (k_here; (with_reducible show wpAny _ _ (subscriptTail _ _ (Value.ref _) (Value.int _ _)) _ _ _); k_dflt (refine' item_menu (MenuV _) ?Nq211 ?mq211 ?aq211 ?bq211 ?zq211 ?pq211 ?_; (case Nq211 => k_asm); (case mq211 => k_mem); (case aq211 => assumption); (case pq211 => (rw [List.toList_toArray]; assumption)); (case bq211 => (rw [List.size_toArray]; omega)); (case zq211 => (rw [List.size_toArray]; omega))); intro v9 hV9; (obtain ⟨T9, nm9, wt9, t8, t9, e9, hm9, mp9⟩ := MenuV.out hV9); subst e9; (rename News _ _ _ _ => lN); (replace lN := news_cell lN (List.mem_cons_of_mem _ (List.mem_cons_of_mem _ (List.mem_cons_of_mem _ (List.mem_cons_of_mem _ (List.mem_cons_of_mem _ (List.mem_cons_of_mem _ hm9)))))))))
  (k_with "call ref" => (k_here; (with_reducible show wpAny _ _ (call (Value.ref 447) _) _ _ _); k_dflt (refine' MC.use ((due_p ?pfq212 ?piq212 _ _ ?p1q212 ?p2q212 ?p3q212 ?p4q212 ?p5q212 ?p6q212 ?p7q212).mcf _) ?Bq212 ?Fq212 ?Xq212 ?Nq212 ?Tq212 ?hkq212 ?hdq212 ?hunq212 ?_; (case Bq212 => k_asm); (case Fq212 => k_asm); (case Xq212 => k_asm); (case Nq212 => k_asm); (case Tq212 => k_asm); (case hkq212 => first | exact rfl | assumption); (case pfq212 => assumption); (case piq212 => assumption); (case p1q212 => assumption); (case p2q212 => assumption); (case p3q212 => assumption); (case p4q212 => assumption); (case p5q212 => assumption); (case p6q212 => assumption); (case p7q212 => assumption); (case hdq212 => ktr_room); (case hunq212 => ktr_units)); intro v9 n9 h9 tk9 hV9 F9 N9; (obtain ⟨n0, hP, e9, fr9⟩ := hV9); (obtain ⟨T9, U9, ys9, tl9, _, _, ss9, e8, e7, da9, pe9, so9⟩ := HrdV.out hP); subst e7; rw [e9] at N9; clear e9; subst e8; (replace N9 := news_back N9); (simp only [List.cons_append, List.nil_append] at N9); (try k_sweep); (try dsimp only); (try k_extra "kfold")))
  (k_with "binaryOp Add str str" => (k_here; (with_reducible show wpAny _ _ (binaryOp Operator.Add (Value.str _ _) (Value.str _ _)) _ _ _); with_reducible refine' sum_str ?zq213 ?_; (case zq213 => k_dflt (simp only [len_app, low_len, len_slash]; omega)); intro t9 k9))
  (k_with "eval ListComp" => (k_here; (with_reducible show wpAny _ _ (eval (Expr.ListComp (Expr.Call (Expr.Name (Str.ofString "chr") _) [Expr.IfExp _ _ _ _] _ _) _ _ _) _) _ _ _); k_dflt (refine ListComp_B (F₀ := by k_asm) (by with_unfolding_all rfl) (by decide) (by rfl) (by decide) (by rfl) ?_)))
  (k_with "call builtin:len" => (k_here; (with_reducible show wpAny _ _ (call (Value.builtin "len") [Value.ref _]) _ _ _); k_dflt (refine' len_led ?k1q215 ?k2q215 ?k3q215 ?_; (case k1q215 => k_asm); (case k2q215 => k_mem); (case k3q215 => omega); k_whole)))
  (k_with "call builtin:list.extend" => (k_here; (with_reducible show wpAny _ _ (call (Value.builtin "list.extend") [Value.ref _, Value.ref _]) _ _ _); (rename News _ _ _ _ => lN); (try (replace lN := drop_menu lN)); k_dflt (refine' extend_led ?k1q216 ?k2q216 ?k3q216 ?k4q216 ?k5q216 ?k6q216 ?_; (case k1q216 => k_asm); (case k2q216 => k_asm); (case k3q216 => k_mem); (case k4q216 => exact Nat.succ_ne_zero _); (case k5q216 => k_upd); (case k6q216 => (simp only [List.length_cons, List.length_nil]; omega)); k_whole); intro h' F' N'; (try k_sweep)))
  (k_with "binaryOp Add bytes bytes" => (k_here; (with_reducible show wpAny _ _ (binaryOp Operator.Add (Value.bytes _ _) (Value.bytes _ _)) _ _ _); with_reducible refine' add_b ?zq217 ?_; (case zq217 => k_dflt ((try simp only [blen_app, blen_59, blen_nil]); omega)); intro t9 k9 eb9))
  (k_with "call ref" => (k_here; (with_reducible show wpAny _ _ (call (Value.ref 447) _) _ _ _); k_dflt (refine' MC.use ((wide_p0 ?pfq218 ?piq218 _ _ ?p1q218 ?p2q218 ?p3q218 ?p4q218 ?p5q218 ?p6q218).mcf _) ?Bq218 ?Fq218 ?Xq218 ?Nq218 ?Tq218 ?hkq218 ?hdq218 ?hunq218 ?_; (case Bq218 => k_asm); (case Fq218 => k_asm); (case Xq218 => k_asm); (case Nq218 => k_asm); (case Tq218 => k_asm); (case hkq218 => first | exact rfl | assumption); (case pfq218 => assumption); (case piq218 => assumption); (case p1q218 => assumption); (case p2q218 => assumption); (case p3q218 => assumption); (case p4q218 => assumption); (case p5q218 => assumption); (case p6q218 => assumption); (case hdq218 => ktr_room); (case hunq218 => ktr_units)); intro v9 n9 h9 tk9 hV9 F9 N9; (obtain ⟨n0, hP, e9, fr9⟩ := hV9); (obtain ⟨T9, U9, ys9, tl9, _, _, ss9, e8, e7, da9, pe9, so9⟩ := HrdV.out hP); subst e7; rw [e9] at N9; clear e9; subst e8; (replace N9 := news_back N9); (simp only [List.cons_append, List.nil_append] at N9); (try k_sweep); (try dsimp only); (try k_extra "kfold")))
  (k_with "call ref" => (k_here; (with_reducible show wpAny _ _ (call (Value.ref 447) _) _ _ _); k_dflt (refine' MC.use ((wide_p1 ?pfq219 ?piq219 _ _ ?p1q219 ?p2q219 ?p3q219 ?p4q219 ?p5q219 ?p6q219 ?p7q219 ?p8q219).mcf _) ?Bq219 ?Fq219 ?Xq219 ?Nq219 ?Tq219 ?hkq219 ?hdq219 ?hunq219 ?_; (case Bq219 => k_asm); (case Fq219 => k_asm); (case Xq219 => k_asm); (case Nq219 => k_asm); (case Tq219 => k_asm); (case hkq219 => first | exact rfl | assumption); (case pfq219 => assumption); (case piq219 => assumption); (case p1q219 => assumption); (case p2q219 => assumption); (case p3q219 => assumption); (case p4q219 => assumption); (case p5q219 => assumption); (case p6q219 => assumption); (case p7q219 => assumption); (case p8q219 => assumption); (case hdq219 => ktr_room); (case hunq219 => ktr_units)); intro v9 n9 h9 tk9 hV9 F9 N9; (obtain ⟨n0, hP, e9, fr9⟩ := hV9); (obtain ⟨T9, U9, ys9, tl9, _, _, ss9, e8, e7, da9, pe9, so9⟩ := HrdV.out hP); subst e7; rw [e9] at N9; clear e9; subst e8; (replace N9 := news_back N9); (simp only [List.cons_append, List.nil_append] at N9); (try k_sweep); (try dsimp only); (try k_extra "kfold")))
  (k_with "call ref" => (k_here; (with_reducible show wpAny _ _ (call (Value.ref 447) _) _ _ _); k_dflt (refine' HC.use (lack_h ?pfq220 ?piq220 _ _ _ _ ?p0q220 ?p1q220 ?p2q220 ?p3q220 ?p4q220 ?p5q220 ?p6q220 ?p7q220 ?p8q220) ?Bq220 ?Fq220 ?Xq220 ?Nq220 ?Tq220 ?hkq220 ?hdq220 ?hunq220 ?_; (case Bq220 => k_asm); (case Fq220 => k_asm); (case Xq220 => k_asm); (case Nq220 => k_asm); (case Tq220 => k_asm); (case hkq220 => first | exact rfl | assumption); (case pfq220 => assumption); (case piq220 => assumption); (case p0q220 => assumption); (case p1q220 => assumption); (case p2q220 => assumption); (case p3q220 => assumption); (case p4q220 => assumption); (case p5q220 => assumption); (case p6q220 => assumption); (case p7q220 => assumption); (case p8q220 => assumption); (case hdq220 => ktr_room); (case hunq220 => ktr_units)); intro v9 n9 h9 tk9 hV9 F9 N9; (obtain ⟨e9, e8⟩ := hV9); rw [e9] at N9; clear e9; subst e8; (try k_sweep); (try dsimp only); (try k_extra "kfold")))
  (k_with "compareOp NotEq ref" => (k_here; (with_reducible show wpAny _ _ (compareOp CmpOp.NotEq (Value.ref _) (Value.ref _)) _ _ _); (rename News _ _ _ _ => lN); k_dflt (refine' told_ne_at lN ?Daq221 ?paq221 ?oaq221 ?Dbq221 ?pbq221 ?obq221 ?hkq221 ?htq221 ?hsq221 ?huq221 ?_; (case Daq221 => assumption); (case Dbq221 => assumption); (case paq221 => assumption); (case pbq221 => assumption); (case oaq221 => assumption); (case obq221 => assumption); (case hkq221 => assumption); (case htq221 => assumption); (case hsq221 => assumption); (case huq221 => ktr_units)); clear lN; intro N9; (try dsimp only at N9)))
  (k_with "subscriptTail" => (k_here; (with_reducible show wpAny _ _ (subscriptTail _ _ (Value.ref _) (Value.int _ _)) _ _ _); (rename V1F _ _ _ _ _ _ _ _ _ => f9); k_dflt (refine' item_menu (NeedV _) ?Nq222 ?mq222 ?aq222 ?bq222 ?zq222 ?pq222 ?_; (case Nq222 => k_asm); (case mq222 => k_mem); (case aq222 => assumption); (case pq222 => exact V1F.menuN (by assumption)); (case bq222 => (rw [List.size_toArray]; omega)); (case zq222 => (rw [List.size_toArray]; omega))); intro v9 hV9; (obtain ⟨x9, t9, e9, o9⟩ := NeedV.out hV9); subst e9; (obtain ⟨out9, e9, l9, ho9⟩ := NeedOk.nat o9); subst e9))
  (k_with "subscriptTail" => (k_here; (with_reducible show wpAny _ _ (subscriptTail _ _ (Value.ref _) (Value.int (Nat.cast _) _)) _ _ _); k_dflt (refine' item_words ?Nq223 ?mq223 ?bq223 ?iq223 ?zq223 ?_; (case Nq223 => k_asm); (case mq223 => k_mem); (case bq223 => assumption); (case iq223 => assumption); (case zq223 => omega)); intro b9 t9 hu9; (have hz9 := each_len (by with_reducible assumption) hu9)))
  (k_with "exec For Name Name cons nil" => (k_here; (rename Fr _ _ _ _ => lF'); (with_reducible refine' For_turns ?Fq224 ?_ ?hsq224 ?hEq224; (case Fq224 => k_dflt (exact lF')); (case hsq224 => k_dflt ((intro _; rfl))); (case hEq224 => k_dflt passes_own); k_whole)))
  trivial
noncomputable def TopV (v : Value) : Prop := ∃ b t, v = .bytes b t ∧ (∀ c ∈ KBw.bInts b, tokB c = true) ∧ KBw.bInts b ≠ [] ∧ (KBw.bInts b).length ≤ 20
theorem TopV.out {v : Value} (h : TopV v) : ∃ b t, v = .bytes b t ∧ (∀ c ∈ KBw.bInts b, tokB c = true) ∧ KBw.bInts b ≠ [] ∧ (KBw.bInts b).length ≤ 20 := h
theorem top_menu (t1 t2 t3 : Tok) : ∀ v ∈ (#[Value.bytes #[84, 101, 120, 116] t1, .bytes #[120, 45, 89] t2, .bytes #[97, 42, 98] t3] : Array Value).toList, TopV v := by
  intro v hv
  simp only [List.mem_cons, List.not_mem_nil, or_false] at hv
  rcases hv with rfl | rfl | rfl <;> exact ⟨_, _, rfl, by decide, by decide, by decide⟩
theorem sub_menu (t1 t2 : Tok) : ∀ v ∈ (#[Value.bytes #[80, 76, 65, 73, 78] t1, .bytes #[122, 46, 49] t2] : Array Value).toList, TopV v := by
  intro v hv
  simp only [List.mem_cons, List.not_mem_nil, or_false] at hv
  rcases hv with rfl | rfl <;> exact ⟨_, _, rfl, by decide, by decide, by decide⟩
theorem blen_app (x y : Array UInt8) : (KBw.bInts (x ++ y)).length = (KBw.bInts x).length + (KBw.bInts y).length := by rw [KBw.ints_app (b := x) (c := y) rfl rfl, List.length_append]
theorem blen_59 : (KBw.bInts #[59]).length = 1 := rfl
theorem blen_nil : (KBw.bInts #[]).length = 0 := rfl
theorem out_nil2 {ws : List (List Int)} {i out : Nat} (hi : i < ws.length) (h : (i : Int) = (out : Int)) : (ws.set out [])[i]? = some (KBw.bInts #[]) := by
  have : i = out := by omega
  subst this
  exact out_nil hi
theorem drop3 {h₀ h : Heap} {L : Addr} {a b c d e : Addr × Obj} {tl : Led} (N : News h₀ L h (a :: b :: c :: d :: e :: tl)) : News h₀ L h [b, d, e] := by
  intro p hp
  simp only [List.mem_cons, List.not_mem_nil, or_false] at hp
  rcases hp with rfl | rfl | rfl
  · exact N _ (.tail _ (.head _))
  · exact N _ (.tail _ (.tail _ (.tail _ (.head _))))
  · exact N _ (.tail _ (.tail _ (.tail _ (.tail _ (.head _)))))
theorem V1F.each {top sub : Array UInt8} {i : Nat} {ps : List (Array UInt8 × Array UInt8)} {ks : List PK} {its nits : List Value} {ns : List Int} {q : PotS} (f : V1F top sub i ps ks its nits ns q) (h1 : (KBw.bInts top).length ≤ 20) (h2 : (KBw.bInts sub).length ≤ 20) : ∀ u ∈ wordsL top sub ps, u.length ≤ 40 := words_each f.menu h1 h2
theorem V1F.len3 {top sub : Array UInt8} {i : Nat} {ps : List (Array UInt8 × Array UInt8)} {ks : List PK} {its nits : List Value} {ns : List Int} {q : PotS} (f : V1F top sub i ps ks its nits ns q) {o : Nat} (_ : NeedOk i (o : Int)) : (its.length : Int) = ((wordsL top sub ps).set o []).length := by
  rw [List.length_set, f.words.len]
set_option maxHeartbeats 8000000 in
theorem law_t : PySem.Challenge.rw_or0065_01.Holds := hd (by
  k_go0
  all_goals try k_fold
  k_with "exec For Name Call cons nil" => ((rename Fr _ _ _ _ => lF'); (with_reducible refine' For_turns ?F ?_ ?hs ?hE; (case F => k_dflt (exact lF')); (case hs => k_dflt ((intro _; rfl))); (case hE => k_dflt passes_own); k_whole))
  k_with "pyIter ref" => k_dflt (
      rename IsRange _ _ _ _ _ _ _ _ => lR
      rename Fr _ _ _ _ => lF
      rename News _ _ _ _ => lN
      rename V1F _ _ _ _ _ _ _ _ _ => f1
      rename PotOk _ (_ + 3 + 1 + 3) => lq
      rename (NeedOk _ (_ : Int)) => lo
      replace lN := drop3 lN
      with_unfolding_all refine' loop3 (ws := List.set (wordsL _ _ _) _ []) rfl ?l3F ?l3N ?l3r ?l3b ?l3z ?l3f ?l3h ?l3t ?l3d
      case l3b => exact f1.len3 lo
      case l3F => exact lF
      case l3N => exact lN
      case l3r => exact lR
      case l3h => exact ⟨rfl, rfl, rfl, rfl, trivial⟩
      case l3z => (rw [List.length_set]; omega)
      case l3f => exact V2F.zero (by assumption) (by assumption) (lq.mono (by omega))
      case l3t => (
         intro I i ti b t q m₁ oI h₁ tk₁ hi f hoI F₁ N₁
         clear lF lN lq lR
         have hq := f.pot
         have hfl := f.len
         have hbw := f1.words
         have hws := f1.each (by assumption) (by assumption)
         have hwl := f1.wl (by assumption)
         rw [List.length_set] at hi
         have nI1 := Ne.symm (hoI _ (.head _))
         have nI2 := Ne.symm (hoI _ (.tail _ (.head _)))
         have nI3 := Ne.symm (hoI _ (.tail _ (.tail _ (.head _))))
         repeat' (first | (k_unfold; (try dsimp only)) | walk1 | (dsimp only; walk1))
         all_goals (
           rename PotOk _ (400 + 3 * (i : Int) + 3) => hqn
           rename Fr _ _ _ _ => lF
           rename News _ _ _ _ => lN
           first | exact turn3_end f (out_nil2 hi (by assumption)) (by decide) (by assumption) (by assumption) hqn lF lN hoI ⟨rfl, rfl, rfl, rfl, trivial⟩ | exact turn3_end f (out_at (by assumption) (by omega)) (by assumption) (by assumption) (by assumption) hqn lF lN hoI ⟨rfl, rfl, rfl, rfl, trivial⟩))
      case l3d => (
         intro b t q m₁ h tk hL hz F₁ N₁
         clear lF lN lq lR
         repeat (first | (k_unfold; (try dsimp only)) | walk1 | (dsimp only; walk1))
         k_steps))
  k_with "pyIter ref" => k_dflt (
      rename Fr _ _ _ _ => lF
      rename News _ _ _ _ => lN
      rename V1F _ _ _ _ _ _ _ _ _ => f1
      rename PotOk _ (10 + 5 * _ + 3) => lq
      with_unfolding_all refine' loop2 rfl ?l2F ?l2N ?l2w ?l2s ?l2f ?l2h ?l2t ?l2d
      case l2F => exact lF
      case l2N => exact lN
      case l2w => exact f1.words
      case l2s => exact words_each f1.menu (by assumption) (by assumption)
      case l2h => exact ⟨rfl, rfl, rfl, rfl, rfl, trivial⟩
      case l2f => exact V2F.zero (by assumption) (by assumption) (lq.mono (by omega))
      case l2t => (
         intro I i u v b t q m₁ oI h₁ tk₁ hi hu hz hb f hoI F₁ N₁
         clear lF lN lq
         obtain ⟨bu, tu, rfl, rfl⟩ := BytesV.out hb
         have hq := f.pot
         have hfl := f.len
         have hwl := f1.wl (by assumption)
         have nI1 := Ne.symm (hoI _ (.head _))
         have nI2 := Ne.symm (hoI _ (.tail _ (.head _)))
         have nI3 := Ne.symm (hoI _ (.tail _ (.tail _ (.head _))))
         have nI4 := Ne.symm (hoI _ (.tail _ (.tail _ (.tail _ (.head _)))))
         have nI5 := Ne.symm (hoI _ (.tail _ (.tail _ (.tail _ (.tail _ (.head _))))))
         repeat (first | (k_unfold; (try dsimp only)) | walk1 | (dsimp only; walk1))
         rename PotOk _ (33 + 3 * (i : Int) + 3) => hqn
         rename Fr _ _ _ _ => lF
         rename News _ _ _ _ => lN
         exact turn2_end f hu hz (by assumption) (by assumption) hqn lF lN hoI ⟨rfl, rfl, rfl, rfl, rfl, trivial⟩)
      case l2d => (
         intro b t q m₁ h tk f F₁ N₁
         clear lF lN lq
         have hq := f.pot
         have hL := f.all
         have hfl := f.len
         have hwl := f1.wl (by assumption)
         have hko := f1.menu.ok
         have hnl := f1.nlen
         have hil := IntsAre.length f1.isI
         repeat (first | (k_unfold; (try dsimp only)) | walk1 | (dsimp only; walk1))))
  k_with "pyIter ref" => k_dflt (
      rename Fr _ _ _ _ => lF
      rename News _ _ _ _ => lN
      rename IsRange _ _ _ _ _ _ _ _ => lR
      rename PotOk _ (0 + 1 + 1 + 1) => lq
      with_unfolding_all refine loop1 rfl lF lN lR (by assumption) (by assumption) lq ⟨rfl, rfl, rfl, trivial⟩ ?_ ?_
      focus (
         intro I i t ps ks its kw nits ns kn q m₁ oI h₁ tk₁ hi f nI1 nI2 nI3 nI4 F₁ N₁
         clear lF lN lR lq
         have hq := f.pot
         have hwl := f.words.len
         have hil := IntsAre.length f.isI
         have hnl := f.nlen
         have hpl := f.len
         rw [words_len] at hwl
         repeat (first | (k_unfold; (try dsimp only)) | walk1 | (dsimp only; walk1))
         rename PotOk _ (10 + 5 * (i : Int) + 1) => hqn
         rename MenuP _ _ => mpn
         rename Fr _ _ _ _ => lF
         rename News _ _ _ _ => lN
         exact turn1_end f mpn hqn lF lN nI1 nI2 nI3 nI4 ⟨rfl, rfl, rfl, trivial⟩)
      focus (
         intro n ps ks its kw nits ns kn q m₁ h₁ tk₁ hi f F₁ N₁
         clear lF lN lR lq
         have hq := f.pot
         have hwl := f.words.len
         have hil := IntsAre.length f.isI
         have hjw : BsAre its.toArray.toList _ := f.words
         have hj3 := bs_3 f.words
         have hz3 := V1F.room3 f (by assumption) (by assumption)
         have hz4 : [KBw.bInts _, [47], KBw.bInts _].flatten.length ≤ 1048576 := Nat.le_trans (V1F.room3' f (by assumption) (by assumption)) (by decide)
         have hjz := Nat.le_trans (V1F.room f (by assumption) (by assumption) hi) (show 500 ≤ 16777216 by decide)
         have hnl := f.nlen
         have hpl := f.len
         rw [words_len] at hwl
         repeat (first | (k_unfold; (try dsimp only)) | walk1 | (dsimp only; walk1))
         refine BSrc.texts (fun c => ⟨#[(lowC c).toNat]⟩) rfl (by assumption) ?hs (by assumption) (by assumption) ?ct ?cf
         case hs => (rw [sizeLine_eq]; omega)
         case ct =>
           intro k t I oI C oC D m₂ ys h tk E' hm h0 h1 hC hx F N off ne
           (try simp only [LCg.Off3, and_true] at off)
           repeat' (first | (k_unfold; (try dsimp only)) | walk1 | (dsimp only; walk1))
           all_goals (exact LCg.CompEnd.intro F N _ (fun p hp => hp) off trivial ⟨rfl, _, by (congr 3; unfold lowC; first | rw [if_pos ⟨by assumption, by assumption⟩] | (rw [if_neg (by omega)]))⟩)
         case cf =>
           intro ys D h tk hi F N o1
           repeat (first | (k_unfold; (try dsimp only)) | walk1 | (dsimp only; walk1))
           rotate_left
           focus (
             clear o1 hj3 hz3 hz4
             rename News _ _ _ _ => lN
             replace lN := drop_two lN
             repeat (first | (k_unfold; (try dsimp only)) | walk1 | (dsimp only; walk1)))
           exact (due_no _ _ (by assumption)).elim))
  k_steps)
end Mine
theorem PySem.Challenge.cw_or0065_01_holds : PySem.Challenge.rw_or0065_01.Holds :=
  Mine.law_t
