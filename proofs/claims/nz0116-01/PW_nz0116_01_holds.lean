import PyProof.Rows.All
import Wide.All
import OpenK.AllK
import Wide.FinOn
import Lean
import PySem.Challenge.RW_nz0116_01
open PySem PySem.W PyProof.Rows PySem.Calls PySem.Spec
set_option Elab.async false
set_option maxRecDepth 100000
set_option maxHeartbeats 0
set_option linter.unusedVariables false
set_option compiler.extract_closed false
set_option genSizeOf false
set_option genInjectivity false
namespace Mine
def pad : Str := Str.ofString "a"
theorem pad_eq : pad = pad := rfl
end Mine
name_quick tw2711585505577850959 for Mine.pad by Mine.pad_eq
name_quick tw7232422423428716515 for Mine.pad by Mine.pad_eq
name_quick tw12835720964997663042 for Mine.pad by Mine.pad_eq
name_quick tw6004533443673955352 for Mine.pad by Mine.pad_eq
name_quick tw17517737089405305841 for Mine.pad by Mine.pad_eq
name_quick tw9674257727999782656 for Mine.pad by Mine.pad_eq
name_quick tw7009043117176579089 for Mine.pad by Mine.pad_eq
name_quick tw219737044198020058 for Mine.pad by Mine.pad_eq
name_quick tw9011979029575296479 for Mine.pad by Mine.pad_eq
name_quick tw7250012664060256230 for Mine.pad by Mine.pad_eq
name_quick tw43969757491396457 for Mine.pad by Mine.pad_eq
name_quick tw1291980286583624508 for Mine.pad by Mine.pad_eq
name_quick tw1258717718454355964 for Mine.pad by Mine.pad_eq
name_quick tw15560500314895047343 for Mine.pad by Mine.pad_eq
name_quick tw16145008321745377990 for Mine.pad by Mine.pad_eq
name_quick tw4636218855388986860 for Mine.pad by Mine.pad_eq
name_quick tw282004115355043989 for Mine.pad by Mine.pad_eq
name_quick tw13640514254501968386 for Mine.pad by Mine.pad_eq
name_quick tw3856783459128436802 for Mine.pad by Mine.pad_eq
name_quick tw17804436615005485693 for Mine.pad by Mine.pad_eq
name_quick tw3093977132361051618 for Mine.pad by Mine.pad_eq
name_quick tw10133424289631169331 for Mine.pad by Mine.pad_eq
name_quick tw7275051467321613617 for Mine.pad by Mine.pad_eq
name_quick tw2991015575491923470 for Mine.pad by Mine.pad_eq
name_quick tw17846936440860909165 for Mine.pad by Mine.pad_eq
name_quick tw10528696920762540405 for Mine.pad by Mine.pad_eq
name_quick tw8058711392134626093 for Mine.pad by Mine.pad_eq
name_quick tw12233582284571471492 for Mine.pad by Mine.pad_eq
name_quick tw17730448691065144110 for Mine.pad by Mine.pad_eq
name_quick tw6135381517318000843 for Mine.pad by Mine.pad_eq
name_quick tw7969666803414932050 for Mine.pad by Mine.pad_eq
name_quick tw1184552218554016812 for Mine.pad by Mine.pad_eq
name_quick tw9376109419431680627 for Mine.pad by Mine.pad_eq
name_quick tw3766158894648301139 for Mine.pad by Mine.pad_eq
name_quick tw868157144444988819 for Mine.pad by Mine.pad_eq
name_quick tw16413264400604254196 for Mine.pad by Mine.pad_eq
name_quick tw11306939235166856333 for Mine.pad by Mine.pad_eq
name_quick tw17804504610050584030 for Mine.pad by Mine.pad_eq
name_quick tw4011157648589011858 for Mine.pad by Mine.pad_eq
name_quick tw13180171748994924942 for Mine.pad by Mine.pad_eq
name_quick tw12268644228514654432 for Mine.pad by Mine.pad_eq
name_quick tw460243522976405022 for Mine.pad by Mine.pad_eq
name_quick tw9714774721060221955 for Mine.pad by Mine.pad_eq
name_quick tw4407734736301137906 for Mine.pad by Mine.pad_eq
name_quick tw4434333111790514575 for Mine.pad by Mine.pad_eq
name_quick tw5978237884098788730 for Mine.pad by Mine.pad_eq
name_quick tw704327219915372674 for Mine.pad by Mine.pad_eq
name_quick tw18350330562280901221 for Mine.pad by Mine.pad_eq
name_quick tw10010936943081839664 for Mine.pad by Mine.pad_eq
name_quick tw14896874001708588922 for Mine.pad by Mine.pad_eq
name_quick tw151948405760981731 for Mine.pad by Mine.pad_eq
name_quick tw9759809726879904816 for Mine.pad by Mine.pad_eq
name_quick tw5732905514179830355 for Mine.pad by Mine.pad_eq
name_quick tw7035115661146626270 for Mine.pad by Mine.pad_eq
name_quick tw11277716924127702174 for Mine.pad by Mine.pad_eq
name_quick tw13215998728584607739 for Mine.pad by Mine.pad_eq
name_quick tw16741492637210864865 for Mine.pad by Mine.pad_eq
name_quick tw11130039905162102590 for Mine.pad by Mine.pad_eq
name_quick tw2193789692954389824 for Mine.pad by Mine.pad_eq
name_quick tw10073347824450446311 for Mine.pad by Mine.pad_eq
name_quick tw15007238320947547705 for Mine.pad by Mine.pad_eq
name_quick tw15168306246750427876 for Mine.pad by Mine.pad_eq
name_quick tw951843321253372498 for Mine.pad by Mine.pad_eq
name_quick tw14386061602966655976 for Mine.pad by Mine.pad_eq
name_quick tw3891137856419664920 for Mine.pad by Mine.pad_eq
name_quick tw13789449189825218787 for Mine.pad by Mine.pad_eq
name_quick tw16643379632663270332 for Mine.pad by Mine.pad_eq
name_quick tw16966814322356759819 for Mine.pad by Mine.pad_eq
name_quick tw4658958612460137192 for Mine.pad by Mine.pad_eq
name_quick tw8708707556590381134 for Mine.pad by Mine.pad_eq
name_quick tw17964007177503468958 for Mine.pad by Mine.pad_eq
name_quick tw7299951869573292228 for Mine.pad by Mine.pad_eq
name_quick tw14537914154153760125 for Mine.pad by Mine.pad_eq
name_quick tw5882768191206486792 for Mine.pad by Mine.pad_eq
name_quick tw4275521005467322725 for Mine.pad by Mine.pad_eq
name_quick tw14108194823987119177 for Mine.pad by Mine.pad_eq
name_quick tw3577408171920636059 for Mine.pad by Mine.pad_eq
name_quick tw912392155897948271 for Mine.pad by Mine.pad_eq
name_quick tw17164873540382356111 for Mine.pad by Mine.pad_eq
name_quick tw18260038339965228139 for Mine.pad by Mine.pad_eq
name_quick tw16180582048198870337 for Mine.pad by Mine.pad_eq
name_quick tw14126943448341045398 for Mine.pad by Mine.pad_eq
name_quick tw6589095468515690095 for Mine.pad by Mine.pad_eq
name_quick tw11270796479367742343 for Mine.pad by Mine.pad_eq
name_quick tw3820604794100220378 for Mine.pad by Mine.pad_eq
name_quick tw10948738476641704880 for Mine.pad by Mine.pad_eq
name_quick tw3933192700727318845 for Mine.pad by Mine.pad_eq
name_quick tw8032284361305108907 for Mine.pad by Mine.pad_eq
name_quick tw15278061642289888581 for Mine.pad by Mine.pad_eq
name_quick tw3698559305507148144 for Mine.pad by Mine.pad_eq
name_quick tw17274371674624000324 for Mine.pad by Mine.pad_eq
name_quick tw5357591511691535388 for Mine.pad by Mine.pad_eq
name_quick tw4527066259768149269 for Mine.pad by Mine.pad_eq
name_quick tw8224813933742928703 for Mine.pad by Mine.pad_eq
name_quick tw14333388528381170442 for Mine.pad by Mine.pad_eq
name_quick tw11853533878840232495 for Mine.pad by Mine.pad_eq
name_quick tw3362959441861295915 for Mine.pad by Mine.pad_eq
name_quick tw8579058602437062094 for Mine.pad by Mine.pad_eq
name_quick tw12393455550290869266 for Mine.pad by Mine.pad_eq
name_quick tw17111948838632640456 for Mine.pad by Mine.pad_eq
name_quick tw10522923174409881819 for Mine.pad by Mine.pad_eq
name_quick tw4319705520415482375 for Mine.pad by Mine.pad_eq
name_quick tw16817318245366136608 for Mine.pad by Mine.pad_eq
name_quick tw16548257151911338427 for Mine.pad by Mine.pad_eq
name_quick tw17552769576498331613 for Mine.pad by Mine.pad_eq
name_quick tw1735497430108182060 for Mine.pad by Mine.pad_eq
name_quick tw6711915476519705758 for Mine.pad by Mine.pad_eq
name_quick tw4978915544186085027 for Mine.pad by Mine.pad_eq
name_quick tw15900120412870309639 for Mine.pad by Mine.pad_eq
name_quick tw10007627690174824804 for Mine.pad by Mine.pad_eq
name_quick tw1749818173716722547 for Mine.pad by Mine.pad_eq
name_quick tw5823794197072137003 for Mine.pad by Mine.pad_eq
name_quick tw16531745337717519161 for Mine.pad by Mine.pad_eq
name_quick tw14884601019740666482 for Mine.pad by Mine.pad_eq
name_quick tw7496433998918960881 for Mine.pad by Mine.pad_eq
name_quick tw13912434898499826684 for Mine.pad by Mine.pad_eq
name_quick tw13016732220969518872 for Mine.pad by Mine.pad_eq
name_quick tw1503297043503765363 for Mine.pad by Mine.pad_eq
name_quick tw12659028871203227004 for Mine.pad by Mine.pad_eq
name_quick tw9931943479562821362 for Mine.pad by Mine.pad_eq
name_quick tw2905824091091238844 for Mine.pad by Mine.pad_eq
name_quick tw136631920214876835 for Mine.pad by Mine.pad_eq
name_quick tw14676129246514791375 for Mine.pad by Mine.pad_eq
name_quick tw5721027456603625697 for Mine.pad by Mine.pad_eq
name_quick tw12290603225136948437 for Mine.pad by Mine.pad_eq
name_quick tw6122645084068987007 for Mine.pad by Mine.pad_eq
name_quick tw1537898542681612871 for Mine.pad by Mine.pad_eq
name_quick tw14714103240675001986 for Mine.pad by Mine.pad_eq
name_quick tw2422670821966735624 for Mine.pad by Mine.pad_eq
name_quick tw8719427161674164953 for Mine.pad by Mine.pad_eq
name_quick tw7581816359482902497 for Mine.pad by Mine.pad_eq
name_quick tw9676229304581654039 for Mine.pad by Mine.pad_eq
name_quick tw7397068168572129948 for Mine.pad by Mine.pad_eq
name_quick tw11333186260410459676 for Mine.pad by Mine.pad_eq
name_quick tw15423634916342008072 for Mine.pad by Mine.pad_eq
name_quick tw9501820088010722379 for Mine.pad by Mine.pad_eq
name_quick tw3282434896037501709 for Mine.pad by Mine.pad_eq
name_quick tw2627984346626558326 for Mine.pad by Mine.pad_eq
name_quick tw16752143609539240740 for Mine.pad by Mine.pad_eq
name_quick tw183835017167291270 for Mine.pad by Mine.pad_eq
name_quick tw4075660801711882420 for Mine.pad by Mine.pad_eq
name_quick tw15823609455315575823 for Mine.pad by Mine.pad_eq
name_quick tw12898947447245864913 for Mine.pad by Mine.pad_eq
name_quick tw6426273055680023932 for Mine.pad by Mine.pad_eq
name_quick tw2460228577881660442 for Mine.pad by Mine.pad_eq
name_quick tw5189142188285759775 for Mine.pad by Mine.pad_eq
name_quick tw16350708796919097252 for Mine.pad by Mine.pad_eq
name_quick tw724751600484774222 for Mine.pad by Mine.pad_eq
name_quick tw2283851925072248500 for Mine.pad by Mine.pad_eq
name_quick tw17954471519018878134 for Mine.pad by Mine.pad_eq
name_quick tw4302124980754421698 for Mine.pad by Mine.pad_eq
name_quick tw11588390666370768167 for Mine.pad by Mine.pad_eq
name_quick tw9458956999447867950 for Mine.pad by Mine.pad_eq
name_quick tw12734952128020822468 for Mine.pad by Mine.pad_eq
name_quick tw667198328695590252 for Mine.pad by Mine.pad_eq
name_quick tw7094674258960923220 for Mine.pad by Mine.pad_eq
name_quick tw8796240567053077481 for Mine.pad by Mine.pad_eq
name_quick tw10919533547850550483 for Mine.pad by Mine.pad_eq
name_quick tw1574873078441994576 for Mine.pad by Mine.pad_eq
name_quick tw8450942572126056277 for Mine.pad by Mine.pad_eq
name_quick tw17000155066101142889 for Mine.pad by Mine.pad_eq
name_quick tw2354101950205528012 for Mine.pad by Mine.pad_eq
name_quick tw2334299552400917057 for Mine.pad by Mine.pad_eq
name_quick tw16439824349840649037 for Mine.pad by Mine.pad_eq
name_quick tw16593013826814733010 for Mine.pad by Mine.pad_eq
name_quick tw16374537267813192141 for Mine.pad by Mine.pad_eq
name_quick tw11568815363187515441 for Mine.pad by Mine.pad_eq
name_quick tw10887116778572429059 for Mine.pad by Mine.pad_eq
name_quick tw1419416864934026935 for Mine.pad by Mine.pad_eq
name_quick tw10323183001455561277 for Mine.pad by Mine.pad_eq
name_quick tw3424931102881643321 for Mine.pad by Mine.pad_eq
name_quick tw9136488742655976645 for Mine.pad by Mine.pad_eq
name_quick tw15919542637913265678 for Mine.pad by Mine.pad_eq
name_quick tw15980859228951719591 for Mine.pad by Mine.pad_eq
name_quick tw17532440430192770315 for Mine.pad by Mine.pad_eq
name_quick tw4084157530781037267 for Mine.pad by Mine.pad_eq
name_quick tw2670528217467546775 for Mine.pad by Mine.pad_eq
name_quick tw2478078296215019888 for Mine.pad by Mine.pad_eq
name_quick tw11964429278604863157 for Mine.pad by Mine.pad_eq
name_quick tw2611137233208623240 for Mine.pad by Mine.pad_eq
name_quick tw8206430501311747189 for Mine.pad by Mine.pad_eq
name_quick tw3105397867545767578 for Mine.pad by Mine.pad_eq
name_quick tw1402947280878808549 for Mine.pad by Mine.pad_eq
name_quick tw16296994325663420285 for Mine.pad by Mine.pad_eq
name_quick tw3976722010076183465 for Mine.pad by Mine.pad_eq
name_quick tw1258299570235058372 for Mine.pad by Mine.pad_eq
name_quick tw6722154040420286063 for Mine.pad by Mine.pad_eq
name_quick tw17988542015724977305 for Mine.pad by Mine.pad_eq
name_quick tw16846860572762119324 for Mine.pad by Mine.pad_eq
name_quick tw17672482021469178181 for Mine.pad by Mine.pad_eq
name_quick tw5396446701170858492 for Mine.pad by Mine.pad_eq
name_quick tw3972328310683599613 for Mine.pad by Mine.pad_eq
name_quick tw6679490504615227074 for Mine.pad by Mine.pad_eq
name_quick tw14168537005229113720 for Mine.pad by Mine.pad_eq
name_quick tw7392212959928792091 for Mine.pad by Mine.pad_eq
name_quick tw5697894365363955025 for Mine.pad by Mine.pad_eq
name_quick tw8693227569615203950 for Mine.pad by Mine.pad_eq
name_quick tw14821650378409806113 for Mine.pad by Mine.pad_eq
name_quick tw3264259588550801142 for Mine.pad by Mine.pad_eq
name_quick tw11462045893675790159 for Mine.pad by Mine.pad_eq
name_quick tw18263319221461684349 for Mine.pad by Mine.pad_eq
name_quick tw6380047634161181297 for Mine.pad by Mine.pad_eq
name_quick tw14073706353221006472 for Mine.pad by Mine.pad_eq
name_quick tw13678640442995254988 for Mine.pad by Mine.pad_eq
name_quick tw11543547407058413889 for Mine.pad by Mine.pad_eq
name_quick tw1886563365779066154 for Mine.pad by Mine.pad_eq
name_quick tw1702518465993881591 for Mine.pad by Mine.pad_eq
name_quick tw4549333791460862111 for Mine.pad by Mine.pad_eq
name_quick tw9237595780494058184 for Mine.pad by Mine.pad_eq
name_quick tw6363645014702824404 for Mine.pad by Mine.pad_eq
name_quick tw8075568018651887793 for Mine.pad by Mine.pad_eq
name_quick tw14433975572909055671 for Mine.pad by Mine.pad_eq
name_quick tw5268983451555188008 for Mine.pad by Mine.pad_eq
name_quick tw3094477031063562474 for Mine.pad by Mine.pad_eq
name_quick tw17100903815162463580 for Mine.pad by Mine.pad_eq
name_quick tw15066959818950650227 for Mine.pad by Mine.pad_eq
name_quick tw4090926877573551719 for Mine.pad by Mine.pad_eq
name_quick tw12813236842856870187 for Mine.pad by Mine.pad_eq
name_quick tw13335737130258781183 for Mine.pad by Mine.pad_eq
name_quick tw1156252341971683116 for Mine.pad by Mine.pad_eq
name_quick tw12832477231654346042 for Mine.pad by Mine.pad_eq
name_quick tw9151444980202551346 for Mine.pad by Mine.pad_eq
name_quick tw313226197891681235 for Mine.pad by Mine.pad_eq
name_quick tw16018607276475445134 for Mine.pad by Mine.pad_eq
name_quick tw15034313371233782410 for Mine.pad by Mine.pad_eq
name_quick tw3152983702415266003 for Mine.pad by Mine.pad_eq
name_quick tw10942035263794033107 for Mine.pad by Mine.pad_eq
name_quick tw2862820112641550484 for Mine.pad by Mine.pad_eq
name_quick tw13254397897704925713 for Mine.pad by Mine.pad_eq
name_quick tw7269565832213808900 for Mine.pad by Mine.pad_eq
name_quick tw13776390136698705113 for Mine.pad by Mine.pad_eq
name_quick tw11625766737575182897 for Mine.pad by Mine.pad_eq
name_quick tw6550987210724342151 for Mine.pad by Mine.pad_eq
name_quick tw11186114360453789277 for Mine.pad by Mine.pad_eq
name_quick tw900395245841561262 for Mine.pad by Mine.pad_eq
name_quick tw6434265647005701932 for Mine.pad by Mine.pad_eq
name_quick tw11445135464325071761 for Mine.pad by Mine.pad_eq
name_quick tw11788150170368784547 for Mine.pad by Mine.pad_eq
name_quick tw4921902886906138986 for Mine.pad by Mine.pad_eq
name_quick tw7098571738820278039 for Mine.pad by Mine.pad_eq
name_quick tw12945451867199242903 for Mine.pad by Mine.pad_eq
name_quick tw8098380416015320538 for Mine.pad by Mine.pad_eq
name_quick tw11790162104776037713 for Mine.pad by Mine.pad_eq
name_quick tw7401281599722004195 for Mine.pad by Mine.pad_eq
name_quick tw11310463157757771331 for Mine.pad by Mine.pad_eq
name_quick tw15195428891847259777 for Mine.pad by Mine.pad_eq
name_quick tw16697116713213952808 for Mine.pad by Mine.pad_eq
name_quick tw878741703135273975 for Mine.pad by Mine.pad_eq
name_quick tw5770868932273138760 for Mine.pad by Mine.pad_eq
name_quick tw1962928258387122110 for Mine.pad by Mine.pad_eq
name_quick tw16241802466949684156 for Mine.pad by Mine.pad_eq
name_quick tw9315938663221665524 for Mine.pad by Mine.pad_eq
name_quick tw10996506086634736982 for Mine.pad by Mine.pad_eq
name_quick tw4827868188977986955 for Mine.pad by Mine.pad_eq
name_quick tw6059929106960060952 for Mine.pad by Mine.pad_eq
name_quick tw1333364371103165705 for Mine.pad by Mine.pad_eq
name_quick tw12237943961548833269 for Mine.pad by Mine.pad_eq
name_quick tw15663404670287596823 for Mine.pad by Mine.pad_eq
name_quick tw8603108125212654177 for Mine.pad by Mine.pad_eq
name_quick tw11994158751524154303 for Mine.pad by Mine.pad_eq
name_quick tw17300597898927385350 for Mine.pad by Mine.pad_eq
name_quick tw4039474712603431140 for Mine.pad by Mine.pad_eq
name_quick tw13615603153576403970 for Mine.pad by Mine.pad_eq
name_quick tw1218959903707654005 for Mine.pad by Mine.pad_eq
name_quick tw11863081143760314161 for Mine.pad by Mine.pad_eq
name_quick tw11838138170533393997 for Mine.pad by Mine.pad_eq
name_quick tw10205541121877940668 for Mine.pad by Mine.pad_eq
name_quick tw7299303143086499733 for Mine.pad by Mine.pad_eq
name_quick tw7365555872484859036 for Mine.pad by Mine.pad_eq
name_quick tw17828083071136270317 for Mine.pad by Mine.pad_eq
name_quick tw8017206721242287953 for Mine.pad by Mine.pad_eq
name_quick tw12461216416123423688 for Mine.pad by Mine.pad_eq
name_quick tw6434138532213402376 for Mine.pad by Mine.pad_eq
name_quick tw14553827428707814869 for Mine.pad by Mine.pad_eq
name_quick tw1620339239838986703 for Mine.pad by Mine.pad_eq
name_quick tw3039592710220408265 for Mine.pad by Mine.pad_eq
name_quick tw2660918139993853925 for Mine.pad by Mine.pad_eq
name_quick tw558745408833754511 for Mine.pad by Mine.pad_eq
name_quick tw7581352650102555174 for Mine.pad by Mine.pad_eq
name_quick tw17532718790514356516 for Mine.pad by Mine.pad_eq
name_quick tw10833955939284561965 for Mine.pad by Mine.pad_eq
name_quick tw15323854079317868165 for Mine.pad by Mine.pad_eq
name_quick tw13141144453892091621 for Mine.pad by Mine.pad_eq
name_quick tw9948023125614773506 for Mine.pad by Mine.pad_eq
name_quick tw4933834842325187142 for Mine.pad by Mine.pad_eq
name_quick tw10938465397075749097 for Mine.pad by Mine.pad_eq
name_quick tw721709456127091705 for Mine.pad by Mine.pad_eq
name_quick tw3118938333895590913 for Mine.pad by Mine.pad_eq
name_quick tw17730428716208468724 for Mine.pad by Mine.pad_eq
name_quick tw1414301608579184545 for Mine.pad by Mine.pad_eq
name_quick tw2244074263212557396 for Mine.pad by Mine.pad_eq
name_quick tw14223099787259518943 for Mine.pad by Mine.pad_eq
name_quick tw17018628822417861297 for Mine.pad by Mine.pad_eq
name_quick tw15475462885187679331 for Mine.pad by Mine.pad_eq
name_quick tw3636048126100218174 for Mine.pad by Mine.pad_eq
name_quick tw5706481520468235054 for Mine.pad by Mine.pad_eq
name_quick tw8595292554425487202 for Mine.pad by Mine.pad_eq
name_quick tw11985326045990495214 for Mine.pad by Mine.pad_eq
name_quick tw12177639751122801600 for Mine.pad by Mine.pad_eq
name_quick tw5925582254088234700 for Mine.pad by Mine.pad_eq
name_quick tw11796506867022685745 for Mine.pad by Mine.pad_eq
name_quick tw6929956602132211858 for Mine.pad by Mine.pad_eq
name_quick tw16979880578912567463 for Mine.pad by Mine.pad_eq
name_quick tw13236226663087606529 for Mine.pad by Mine.pad_eq
name_quick tw7783732958741208154 for Mine.pad by Mine.pad_eq
name_quick tw12392613427281201732 for Mine.pad by Mine.pad_eq
name_quick tw392140993173905013 for Mine.pad by Mine.pad_eq
name_quick tw7504490480230193789 for Mine.pad by Mine.pad_eq
name_quick tw18056578402003937789 for Mine.pad by Mine.pad_eq
name_quick tw10029231156530900338 for Mine.pad by Mine.pad_eq
name_quick tw15363015567059481735 for Mine.pad by Mine.pad_eq
name_quick tw18416463498863911781 for Mine.pad by Mine.pad_eq
name_quick tw11636919720809706868 for Mine.pad by Mine.pad_eq
name_quick tw12371321757623732685 for Mine.pad by Mine.pad_eq
name_quick tw8047484207015712433 for Mine.pad by Mine.pad_eq
name_quick tw16214148842636244229 for Mine.pad by Mine.pad_eq
name_quick tw4071324889030633612 for Mine.pad by Mine.pad_eq
name_quick tw12172078356533094185 for Mine.pad by Mine.pad_eq
name_quick tw3131671291697673992 for Mine.pad by Mine.pad_eq
name_quick tw662354867322794072 for Mine.pad by Mine.pad_eq
name_quick tw15112985482279097393 for Mine.pad by Mine.pad_eq
name_quick tw12635297910168745909 for Mine.pad by Mine.pad_eq
name_quick tw18340240734955500558 for Mine.pad by Mine.pad_eq
name_quick tw13002492023102617099 for Mine.pad by Mine.pad_eq
name_quick tw13559156169165276386 for Mine.pad by Mine.pad_eq
name_quick tw12850107946570832962 for Mine.pad by Mine.pad_eq
name_quick tw14213472795030965493 for Mine.pad by Mine.pad_eq
name_quick tw4558998842232669794 for Mine.pad by Mine.pad_eq
name_quick tw7892128664451923741 for Mine.pad by Mine.pad_eq
name_quick tw2664551874359636763 for Mine.pad by Mine.pad_eq
name_quick tw347637069881736656 for Mine.pad by Mine.pad_eq
name_quick tw1638017585896720355 for Mine.pad by Mine.pad_eq
name_quick tw8400853705098224536 for Mine.pad by Mine.pad_eq
name_quick tw18220123701641295943 for Mine.pad by Mine.pad_eq
name_quick tw9951705424602377420 for Mine.pad by Mine.pad_eq
name_quick tw4552823106982906706 for Mine.pad by Mine.pad_eq
name_quick tw2039238271031011813 for Mine.pad by Mine.pad_eq
name_quick tw13759679279233594173 for Mine.pad by Mine.pad_eq
name_quick tw6448080314894763839 for Mine.pad by Mine.pad_eq
name_quick tw2447775223705975068 for Mine.pad by Mine.pad_eq
name_quick tw15542503528162795033 for Mine.pad by Mine.pad_eq
name_quick tw12329403913580668285 for Mine.pad by Mine.pad_eq
name_quick tw13145125596335152023 for Mine.pad by Mine.pad_eq
name_quick tw11707433790658880453 for Mine.pad by Mine.pad_eq
name_quick tw9908251947323293946 for Mine.pad by Mine.pad_eq
name_quick tw5032809538720368765 for Mine.pad by Mine.pad_eq
name_quick tw18345786424863182364 for Mine.pad by Mine.pad_eq
name_quick tw505943868828395459 for Mine.pad by Mine.pad_eq
name_quick tw9407582987413476825 for Mine.pad by Mine.pad_eq
name_quick tw6792406925840432001 for Mine.pad by Mine.pad_eq
name_quick tw7276740287692124622 for Mine.pad by Mine.pad_eq
name_quick tw16860790470070532269 for Mine.pad by Mine.pad_eq
name_quick tw10314498396905981064 for Mine.pad by Mine.pad_eq
name_quick tw9626621113073979434 for Mine.pad by Mine.pad_eq
name_quick tw1092655722715705105 for Mine.pad by Mine.pad_eq
name_quick tw15766043655864335149 for Mine.pad by Mine.pad_eq
name_quick tw14224011070414065920 for Mine.pad by Mine.pad_eq
name_quick tw14210447440969649564 for Mine.pad by Mine.pad_eq
name_quick tw5701610774189311196 for Mine.pad by Mine.pad_eq
name_quick tw11317593695737139937 for Mine.pad by Mine.pad_eq
name_quick tw16349216596472256690 for Mine.pad by Mine.pad_eq
name_quick tw11420187438672877268 for Mine.pad by Mine.pad_eq
name_quick tw5111356299099525756 for Mine.pad by Mine.pad_eq
name_quick tw14112274594779413971 for Mine.pad by Mine.pad_eq
name_quick tw11939915149646268982 for Mine.pad by Mine.pad_eq
name_quick tw8642067239939848140 for Mine.pad by Mine.pad_eq
name_quick tw5518745428033880147 for Mine.pad by Mine.pad_eq
name_quick tw4748654258956052638 for Mine.pad by Mine.pad_eq
name_quick tw7745614565497352828 for Mine.pad by Mine.pad_eq
name_quick tw17537794083376710389 for Mine.pad by Mine.pad_eq
name_quick tw6683783046931543321 for Mine.pad by Mine.pad_eq
name_quick tw4797165386629745026 for Mine.pad by Mine.pad_eq
name_quick tw12022618010286034681 for Mine.pad by Mine.pad_eq
name_quick tw17434858337260393937 for Mine.pad by Mine.pad_eq
name_quick tw14979626087600564940 for Mine.pad by Mine.pad_eq
name_quick tw470574548607681690 for Mine.pad by Mine.pad_eq
name_quick tw2408619945344806742 for Mine.pad by Mine.pad_eq
name_quick tw11452132507678324671 for Mine.pad by Mine.pad_eq
name_quick tw3560238982266916124 for Mine.pad by Mine.pad_eq
name_quick tw8424611434330503625 for Mine.pad by Mine.pad_eq
name_quick tw13900631225919944168 for Mine.pad by Mine.pad_eq
name_quick tw14023627001141898710 for Mine.pad by Mine.pad_eq
name_quick tw9862997608875712007 for Mine.pad by Mine.pad_eq
name_quick tw8376441433122354887 for Mine.pad by Mine.pad_eq
name_quick tw4980102563643897964 for Mine.pad by Mine.pad_eq
name_quick tw15894407043143930727 for Mine.pad by Mine.pad_eq
name_quick tw4224760802259116069 for Mine.pad by Mine.pad_eq
name_quick tw11729385059970357855 for Mine.pad by Mine.pad_eq
name_quick tw13036272033356848781 for Mine.pad by Mine.pad_eq
name_quick tw13981391230805400906 for Mine.pad by Mine.pad_eq
name_quick tw10227693086864044499 for Mine.pad by Mine.pad_eq
name_quick tw14326252917377295143 for Mine.pad by Mine.pad_eq
name_quick tw6654550962395885724 for Mine.pad by Mine.pad_eq
name_quick tw6245536207120538393 for Mine.pad by Mine.pad_eq
name_quick tw16414604833108395602 for Mine.pad by Mine.pad_eq
name_quick tw15450981722951097364 for Mine.pad by Mine.pad_eq
name_quick tw7788680626742099145 for Mine.pad by Mine.pad_eq
name_quick tw5200128776193632040 for Mine.pad by Mine.pad_eq
name_quick tw12450158673883907302 for Mine.pad by Mine.pad_eq
name_quick tw1377046205977697930 for Mine.pad by Mine.pad_eq
name_quick tw9564595351457756722 for Mine.pad by Mine.pad_eq
name_quick tw7323676302269181137 for Mine.pad by Mine.pad_eq
name_quick tw9305782018832362445 for Mine.pad by Mine.pad_eq
name_quick tw387338674003428930 for Mine.pad by Mine.pad_eq
name_quick tw17000458434675057986 for Mine.pad by Mine.pad_eq
name_quick tw5135500740108067664 for Mine.pad by Mine.pad_eq
name_quick tw2719445374943340272 for Mine.pad by Mine.pad_eq
name_quick tw3880421473898291048 for Mine.pad by Mine.pad_eq
name_quick tw15480198773659482676 for Mine.pad by Mine.pad_eq
name_quick tw16049961110935095269 for Mine.pad by Mine.pad_eq
name_quick tw7650934615059315214 for Mine.pad by Mine.pad_eq
name_quick tw9529234661008812162 for Mine.pad by Mine.pad_eq
name_quick tw18211773271919218964 for Mine.pad by Mine.pad_eq
name_quick tw7092637314695279628 for Mine.pad by Mine.pad_eq
name_quick tw12827158375178065980 for Mine.pad by Mine.pad_eq
name_quick tw10470071008263537045 for Mine.pad by Mine.pad_eq
name_quick tw117213463901210413 for Mine.pad by Mine.pad_eq
name_quick tw17863021456227041891 for Mine.pad by Mine.pad_eq
name_quick tw15742981410569661332 for Mine.pad by Mine.pad_eq
name_quick tw10317580896714288900 for Mine.pad by Mine.pad_eq
name_quick tw5902227825499142635 for Mine.pad by Mine.pad_eq
name_quick tw8989982439271903415 for Mine.pad by Mine.pad_eq
name_quick tw3764465048917985505 for Mine.pad by Mine.pad_eq
name_quick tw17279654841073493023 for Mine.pad by Mine.pad_eq
name_quick tw9800571698397750058 for Mine.pad by Mine.pad_eq
name_quick tw11566699232636054958 for Mine.pad by Mine.pad_eq
name_quick tw10424941004445345732 for Mine.pad by Mine.pad_eq
name_quick tw16176465441171805009 for Mine.pad by Mine.pad_eq
namespace Mine
open_top hd for PySem.Challenge.rw_nz0116_01
end Mine
namespace Mine
section
universe u v
theorem mk0_2 {p1 p2 : Prop} (h1 : p1) (h2 : p2) : p1 ∧ p2 := ⟨h1, h2⟩
theorem mk0_3 {p1 p2 p3 : Prop} (h1 : p1) (h2 : p2) (h3 : p3) : p1 ∧ p2 ∧ p3 := ⟨h1, mk0_2 h2 h3⟩
theorem mk0_4 {p1 p2 p3 p4 : Prop} (h1 : p1) (h2 : p2) (h3 : p3) (h4 : p4) : p1 ∧ p2 ∧ p3 ∧ p4 := ⟨h1, mk0_3 h2 h3 h4⟩
theorem mk1_2 {α1 : Sort _} {p1 p2 : α1 → Prop} (a1 : α1) (h1 : p1 a1) (h2 : p2 a1) : ∃ a1, p1 a1 ∧ p2 a1 := ⟨a1, mk0_2 h1 h2⟩
theorem mk1_3 {α1 : Sort _} {p1 p2 p3 : α1 → Prop} (a1 : α1) (h1 : p1 a1) (h2 : p2 a1) (h3 : p3 a1) : ∃ a1, p1 a1 ∧ p2 a1 ∧ p3 a1 := ⟨a1, mk0_3 h1 h2 h3⟩
theorem mk0_5 {p1 p2 p3 p4 p5 : Prop} (h1 : p1) (h2 : p2) (h3 : p3) (h4 : p4) (h5 : p5) : p1 ∧ p2 ∧ p3 ∧ p4 ∧ p5 := ⟨h1, mk0_4 h2 h3 h4 h5⟩
theorem mk1_5 {α1 : Sort _} {p1 p2 p3 p4 p5 : α1 → Prop} (a1 : α1) (h1 : p1 a1) (h2 : p2 a1) (h3 : p3 a1) (h4 : p4 a1) (h5 : p5 a1) : ∃ a1, p1 a1 ∧ p2 a1 ∧ p3 a1 ∧ p4 a1 ∧ p5 a1 := ⟨a1, mk0_5 h1 h2 h3 h4 h5⟩
theorem mk1_1 {α1 : Sort _} {p1 : α1 → Prop} (a1 : α1) (h1 : p1 a1) : ∃ a1, p1 a1 := ⟨a1, h1⟩
theorem mk2_1 {α1 α2 : Sort _} {p1 : α1 → α2 → Prop} (a1 : α1) (a2 : α2) (h1 : p1 a1 a2) : ∃ a1, ∃ a2, p1 a1 a2 := ⟨a1, mk1_1 a2 h1⟩
theorem mk2_2 {α1 α2 : Sort _} {p1 p2 : α1 → α2 → Prop} (a1 : α1) (a2 : α2) (h1 : p1 a1 a2) (h2 : p2 a1 a2) : ∃ a1, ∃ a2, p1 a1 a2 ∧ p2 a1 a2 := ⟨a1, mk1_2 a2 h1 h2⟩
theorem mk2_3 {α1 α2 : Sort _} {p1 p2 p3 : α1 → α2 → Prop} (a1 : α1) (a2 : α2) (h1 : p1 a1 a2) (h2 : p2 a1 a2) (h3 : p3 a1 a2) : ∃ a1, ∃ a2, p1 a1 a2 ∧ p2 a1 a2 ∧ p3 a1 a2 := ⟨a1, mk1_3 a2 h1 h2 h3⟩
theorem mk1_4 {α1 : Sort _} {p1 p2 p3 p4 : α1 → Prop} (a1 : α1) (h1 : p1 a1) (h2 : p2 a1) (h3 : p3 a1) (h4 : p4 a1) : ∃ a1, p1 a1 ∧ p2 a1 ∧ p3 a1 ∧ p4 a1 := ⟨a1, mk0_4 h1 h2 h3 h4⟩
theorem mk2_4 {α1 α2 : Sort _} {p1 p2 p3 p4 : α1 → α2 → Prop} (a1 : α1) (a2 : α2) (h1 : p1 a1 a2) (h2 : p2 a1 a2) (h3 : p3 a1 a2) (h4 : p4 a1 a2) : ∃ a1, ∃ a2, p1 a1 a2 ∧ p2 a1 a2 ∧ p3 a1 a2 ∧ p4 a1 a2 := ⟨a1, mk1_4 a2 h1 h2 h3 h4⟩
theorem mk3_1 {α1 α2 α3 : Sort _} {p1 : α1 → α2 → α3 → Prop} (a1 : α1) (a2 : α2) (a3 : α3) (h1 : p1 a1 a2 a3) : ∃ a1, ∃ a2, ∃ a3, p1 a1 a2 a3 := ⟨a1, mk2_1 a2 a3 h1⟩
theorem mk3_2 {α1 α2 α3 : Sort _} {p1 p2 : α1 → α2 → α3 → Prop} (a1 : α1) (a2 : α2) (a3 : α3) (h1 : p1 a1 a2 a3) (h2 : p2 a1 a2 a3) : ∃ a1, ∃ a2, ∃ a3, p1 a1 a2 a3 ∧ p2 a1 a2 a3 := ⟨a1, mk2_2 a2 a3 h1 h2⟩
theorem mk3_3 {α1 α2 α3 : Sort _} {p1 p2 p3 : α1 → α2 → α3 → Prop} (a1 : α1) (a2 : α2) (a3 : α3) (h1 : p1 a1 a2 a3) (h2 : p2 a1 a2 a3) (h3 : p3 a1 a2 a3) : ∃ a1, ∃ a2, ∃ a3, p1 a1 a2 a3 ∧ p2 a1 a2 a3 ∧ p3 a1 a2 a3 := ⟨a1, mk2_3 a2 a3 h1 h2 h3⟩
theorem mk4_1 {α1 α2 α3 α4 : Sort _} {p1 : α1 → α2 → α3 → α4 → Prop} (a1 : α1) (a2 : α2) (a3 : α3) (a4 : α4) (h1 : p1 a1 a2 a3 a4) : ∃ a1, ∃ a2, ∃ a3, ∃ a4, p1 a1 a2 a3 a4 := ⟨a1, mk3_1 a2 a3 a4 h1⟩
theorem mk4_2 {α1 α2 α3 α4 : Sort _} {p1 p2 : α1 → α2 → α3 → α4 → Prop} (a1 : α1) (a2 : α2) (a3 : α3) (a4 : α4) (h1 : p1 a1 a2 a3 a4) (h2 : p2 a1 a2 a3 a4) : ∃ a1, ∃ a2, ∃ a3, ∃ a4, p1 a1 a2 a3 a4 ∧ p2 a1 a2 a3 a4 := ⟨a1, mk3_2 a2 a3 a4 h1 h2⟩
theorem mk3_4 {α1 α2 α3 : Sort _} {p1 p2 p3 p4 : α1 → α2 → α3 → Prop} (a1 : α1) (a2 : α2) (a3 : α3) (h1 : p1 a1 a2 a3) (h2 : p2 a1 a2 a3) (h3 : p3 a1 a2 a3) (h4 : p4 a1 a2 a3) : ∃ a1, ∃ a2, ∃ a3, p1 a1 a2 a3 ∧ p2 a1 a2 a3 ∧ p3 a1 a2 a3 ∧ p4 a1 a2 a3 := ⟨a1, mk2_4 a2 a3 h1 h2 h3 h4⟩
theorem mk4_4 {α1 α2 α3 α4 : Sort _} {p1 p2 p3 p4 : α1 → α2 → α3 → α4 → Prop} (a1 : α1) (a2 : α2) (a3 : α3) (a4 : α4) (h1 : p1 a1 a2 a3 a4) (h2 : p2 a1 a2 a3 a4) (h3 : p3 a1 a2 a3 a4) (h4 : p4 a1 a2 a3 a4) : ∃ a1, ∃ a2, ∃ a3, ∃ a4, p1 a1 a2 a3 a4 ∧ p2 a1 a2 a3 a4 ∧ p3 a1 a2 a3 a4 ∧ p4 a1 a2 a3 a4 := ⟨a1, mk3_4 a2 a3 a4 h1 h2 h3 h4⟩
theorem mk2_5 {α1 α2 : Sort _} {p1 p2 p3 p4 p5 : α1 → α2 → Prop} (a1 : α1) (a2 : α2) (h1 : p1 a1 a2) (h2 : p2 a1 a2) (h3 : p3 a1 a2) (h4 : p4 a1 a2) (h5 : p5 a1 a2) : ∃ a1, ∃ a2, p1 a1 a2 ∧ p2 a1 a2 ∧ p3 a1 a2 ∧ p4 a1 a2 ∧ p5 a1 a2 := ⟨a1, mk1_5 a2 h1 h2 h3 h4 h5⟩
theorem mk3_5 {α1 α2 α3 : Sort _} {p1 p2 p3 p4 p5 : α1 → α2 → α3 → Prop} (a1 : α1) (a2 : α2) (a3 : α3) (h1 : p1 a1 a2 a3) (h2 : p2 a1 a2 a3) (h3 : p3 a1 a2 a3) (h4 : p4 a1 a2 a3) (h5 : p5 a1 a2 a3) : ∃ a1, ∃ a2, ∃ a3, p1 a1 a2 a3 ∧ p2 a1 a2 a3 ∧ p3 a1 a2 a3 ∧ p4 a1 a2 a3 ∧ p5 a1 a2 a3 := ⟨a1, mk2_5 a2 a3 h1 h2 h3 h4 h5⟩
theorem mk4_5 {α1 α2 α3 α4 : Sort _} {p1 p2 p3 p4 p5 : α1 → α2 → α3 → α4 → Prop} (a1 : α1) (a2 : α2) (a3 : α3) (a4 : α4) (h1 : p1 a1 a2 a3 a4) (h2 : p2 a1 a2 a3 a4) (h3 : p3 a1 a2 a3 a4) (h4 : p4 a1 a2 a3 a4) (h5 : p5 a1 a2 a3 a4) : ∃ a1, ∃ a2, ∃ a3, ∃ a4, p1 a1 a2 a3 a4 ∧ p2 a1 a2 a3 a4 ∧ p3 a1 a2 a3 a4 ∧ p4 a1 a2 a3 a4 ∧ p5 a1 a2 a3 a4 := ⟨a1, mk3_5 a2 a3 a4 h1 h2 h3 h4 h5⟩
theorem mk5_1 {α1 α2 α3 α4 α5 : Sort _} {p1 : α1 → α2 → α3 → α4 → α5 → Prop} (a1 : α1) (a2 : α2) (a3 : α3) (a4 : α4) (a5 : α5) (h1 : p1 a1 a2 a3 a4 a5) : ∃ a1, ∃ a2, ∃ a3, ∃ a4, ∃ a5, p1 a1 a2 a3 a4 a5 := ⟨a1, mk4_1 a2 a3 a4 a5 h1⟩
theorem mk6_1 {α1 α2 α3 α4 α5 α6 : Sort _} {p1 : α1 → α2 → α3 → α4 → α5 → α6 → Prop} (a1 : α1) (a2 : α2) (a3 : α3) (a4 : α4) (a5 : α5) (a6 : α6) (h1 : p1 a1 a2 a3 a4 a5 a6) : ∃ a1, ∃ a2, ∃ a3, ∃ a4, ∃ a5, ∃ a6, p1 a1 a2 a3 a4 a5 a6 := ⟨a1, mk5_1 a2 a3 a4 a5 a6 h1⟩
theorem mk5_4 {α1 α2 α3 α4 α5 : Sort _} {p1 p2 p3 p4 : α1 → α2 → α3 → α4 → α5 → Prop} (a1 : α1) (a2 : α2) (a3 : α3) (a4 : α4) (a5 : α5) (h1 : p1 a1 a2 a3 a4 a5) (h2 : p2 a1 a2 a3 a4 a5) (h3 : p3 a1 a2 a3 a4 a5) (h4 : p4 a1 a2 a3 a4 a5) : ∃ a1, ∃ a2, ∃ a3, ∃ a4, ∃ a5, p1 a1 a2 a3 a4 a5 ∧ p2 a1 a2 a3 a4 a5 ∧ p3 a1 a2 a3 a4 a5 ∧ p4 a1 a2 a3 a4 a5 := ⟨a1, mk4_4 a2 a3 a4 a5 h1 h2 h3 h4⟩
theorem mk6_4 {α1 α2 α3 α4 α5 α6 : Sort _} {p1 p2 p3 p4 : α1 → α2 → α3 → α4 → α5 → α6 → Prop} (a1 : α1) (a2 : α2) (a3 : α3) (a4 : α4) (a5 : α5) (a6 : α6) (h1 : p1 a1 a2 a3 a4 a5 a6) (h2 : p2 a1 a2 a3 a4 a5 a6) (h3 : p3 a1 a2 a3 a4 a5 a6) (h4 : p4 a1 a2 a3 a4 a5 a6) : ∃ a1, ∃ a2, ∃ a3, ∃ a4, ∃ a5, ∃ a6, p1 a1 a2 a3 a4 a5 a6 ∧ p2 a1 a2 a3 a4 a5 a6 ∧ p3 a1 a2 a3 a4 a5 a6 ∧ p4 a1 a2 a3 a4 a5 a6 := ⟨a1, mk5_4 a2 a3 a4 a5 a6 h1 h2 h3 h4⟩
theorem mk7_1 {α1 α2 α3 α4 α5 α6 α7 : Sort _} {p1 : α1 → α2 → α3 → α4 → α5 → α6 → α7 → Prop} (a1 : α1) (a2 : α2) (a3 : α3) (a4 : α4) (a5 : α5) (a6 : α6) (a7 : α7) (h1 : p1 a1 a2 a3 a4 a5 a6 a7) : ∃ a1, ∃ a2, ∃ a3, ∃ a4, ∃ a5, ∃ a6, ∃ a7, p1 a1 a2 a3 a4 a5 a6 a7 := ⟨a1, mk6_1 a2 a3 a4 a5 a6 a7 h1⟩
theorem ob0_2 {p1 p2 : Prop} {G : Prop} (h : p1 ∧ p2) (f : p1 → p2 → G) : G := f h.1 h.2
theorem ob0_3 {p1 p2 p3 : Prop} {G : Prop} (h : p1 ∧ p2 ∧ p3) (f : p1 → p2 → p3 → G) : G := ob0_2 h.2 (f h.1)
theorem ob0_4 {p1 p2 p3 p4 : Prop} {G : Prop} (h : p1 ∧ p2 ∧ p3 ∧ p4) (f : p1 → p2 → p3 → p4 → G) : G := ob0_3 h.2 (f h.1)
theorem ob0_5 {p1 p2 p3 p4 p5 : Prop} {G : Prop} (h : p1 ∧ p2 ∧ p3 ∧ p4 ∧ p5) (f : p1 → p2 → p3 → p4 → p5 → G) : G := ob0_4 h.2 (f h.1)
theorem ob0_6 {p1 p2 p3 p4 p5 p6 : Prop} {G : Prop} (h : p1 ∧ p2 ∧ p3 ∧ p4 ∧ p5 ∧ p6) (f : p1 → p2 → p3 → p4 → p5 → p6 → G) : G := ob0_5 h.2 (f h.1)
theorem ob0_7 {p1 p2 p3 p4 p5 p6 p7 : Prop} {G : Prop} (h : p1 ∧ p2 ∧ p3 ∧ p4 ∧ p5 ∧ p6 ∧ p7) (f : p1 → p2 → p3 → p4 → p5 → p6 → p7 → G) : G := ob0_6 h.2 (f h.1)
theorem ob0_8 {p1 p2 p3 p4 p5 p6 p7 p8 : Prop} {G : Prop} (h : p1 ∧ p2 ∧ p3 ∧ p4 ∧ p5 ∧ p6 ∧ p7 ∧ p8) (f : p1 → p2 → p3 → p4 → p5 → p6 → p7 → p8 → G) : G := ob0_7 h.2 (f h.1)
theorem ob0_9 {p1 p2 p3 p4 p5 p6 p7 p8 p9 : Prop} {G : Prop} (h : p1 ∧ p2 ∧ p3 ∧ p4 ∧ p5 ∧ p6 ∧ p7 ∧ p8 ∧ p9) (f : p1 → p2 → p3 → p4 → p5 → p6 → p7 → p8 → p9 → G) : G := ob0_8 h.2 (f h.1)
theorem ob0_10 {p1 p2 p3 p4 p5 p6 p7 p8 p9 p10 : Prop} {G : Prop} (h : p1 ∧ p2 ∧ p3 ∧ p4 ∧ p5 ∧ p6 ∧ p7 ∧ p8 ∧ p9 ∧ p10) (f : p1 → p2 → p3 → p4 → p5 → p6 → p7 → p8 → p9 → p10 → G) : G := ob0_9 h.2 (f h.1)
theorem ob0_11 {p1 p2 p3 p4 p5 p6 p7 p8 p9 p10 p11 : Prop} {G : Prop} (h : p1 ∧ p2 ∧ p3 ∧ p4 ∧ p5 ∧ p6 ∧ p7 ∧ p8 ∧ p9 ∧ p10 ∧ p11) (f : p1 → p2 → p3 → p4 → p5 → p6 → p7 → p8 → p9 → p10 → p11 → G) : G := ob0_10 h.2 (f h.1)
theorem ob1_1 {α1 : Sort _} {p1 : α1 → Prop} {G : Prop} (h : ∃ a1, p1 a1) (f : ∀ a1, p1 a1 → G) : G := h.elim fun a1 h => f a1 h
theorem ob1_2 {α1 : Sort _} {p1 p2 : α1 → Prop} {G : Prop} (h : ∃ a1, p1 a1 ∧ p2 a1) (f : ∀ a1, p1 a1 → p2 a1 → G) : G := h.elim fun a1 h => ob0_2 h (f a1)
theorem ob1_3 {α1 : Sort _} {p1 p2 p3 : α1 → Prop} {G : Prop} (h : ∃ a1, p1 a1 ∧ p2 a1 ∧ p3 a1) (f : ∀ a1, p1 a1 → p2 a1 → p3 a1 → G) : G := h.elim fun a1 h => ob0_3 h (f a1)
theorem ob1_4 {α1 : Sort _} {p1 p2 p3 p4 : α1 → Prop} {G : Prop} (h : ∃ a1, p1 a1 ∧ p2 a1 ∧ p3 a1 ∧ p4 a1) (f : ∀ a1, p1 a1 → p2 a1 → p3 a1 → p4 a1 → G) : G := h.elim fun a1 h => ob0_4 h (f a1)
theorem ob1_5 {α1 : Sort _} {p1 p2 p3 p4 p5 : α1 → Prop} {G : Prop} (h : ∃ a1, p1 a1 ∧ p2 a1 ∧ p3 a1 ∧ p4 a1 ∧ p5 a1) (f : ∀ a1, p1 a1 → p2 a1 → p3 a1 → p4 a1 → p5 a1 → G) : G := h.elim fun a1 h => ob0_5 h (f a1)
theorem ob1_8 {α1 : Sort _} {p1 p2 p3 p4 p5 p6 p7 p8 : α1 → Prop} {G : Prop} (h : ∃ a1, p1 a1 ∧ p2 a1 ∧ p3 a1 ∧ p4 a1 ∧ p5 a1 ∧ p6 a1 ∧ p7 a1 ∧ p8 a1) (f : ∀ a1, p1 a1 → p2 a1 → p3 a1 → p4 a1 → p5 a1 → p6 a1 → p7 a1 → p8 a1 → G) : G := h.elim fun a1 h => ob0_8 h (f a1)
theorem ob2_1 {α1 α2 : Sort _} {p1 : α1 → α2 → Prop} {G : Prop} (h : ∃ a1, ∃ a2, p1 a1 a2) (f : ∀ a1 a2, p1 a1 a2 → G) : G := h.elim fun a1 h => ob1_1 h (f a1)
theorem ob2_2 {α1 α2 : Sort _} {p1 p2 : α1 → α2 → Prop} {G : Prop} (h : ∃ a1, ∃ a2, p1 a1 a2 ∧ p2 a1 a2) (f : ∀ a1 a2, p1 a1 a2 → p2 a1 a2 → G) : G := h.elim fun a1 h => ob1_2 h (f a1)
theorem ob2_3 {α1 α2 : Sort _} {p1 p2 p3 : α1 → α2 → Prop} {G : Prop} (h : ∃ a1, ∃ a2, p1 a1 a2 ∧ p2 a1 a2 ∧ p3 a1 a2) (f : ∀ a1 a2, p1 a1 a2 → p2 a1 a2 → p3 a1 a2 → G) : G := h.elim fun a1 h => ob1_3 h (f a1)
theorem ob2_4 {α1 α2 : Sort _} {p1 p2 p3 p4 : α1 → α2 → Prop} {G : Prop} (h : ∃ a1, ∃ a2, p1 a1 a2 ∧ p2 a1 a2 ∧ p3 a1 a2 ∧ p4 a1 a2) (f : ∀ a1 a2, p1 a1 a2 → p2 a1 a2 → p3 a1 a2 → p4 a1 a2 → G) : G := h.elim fun a1 h => ob1_4 h (f a1)
theorem ob1_7 {α1 : Sort _} {p1 p2 p3 p4 p5 p6 p7 : α1 → Prop} {G : Prop} (h : ∃ a1, p1 a1 ∧ p2 a1 ∧ p3 a1 ∧ p4 a1 ∧ p5 a1 ∧ p6 a1 ∧ p7 a1) (f : ∀ a1, p1 a1 → p2 a1 → p3 a1 → p4 a1 → p5 a1 → p6 a1 → p7 a1 → G) : G := h.elim fun a1 h => ob0_7 h (f a1)
theorem ob2_7 {α1 α2 : Sort _} {p1 p2 p3 p4 p5 p6 p7 : α1 → α2 → Prop} {G : Prop} (h : ∃ a1, ∃ a2, p1 a1 a2 ∧ p2 a1 a2 ∧ p3 a1 a2 ∧ p4 a1 a2 ∧ p5 a1 a2 ∧ p6 a1 a2 ∧ p7 a1 a2) (f : ∀ a1 a2, p1 a1 a2 → p2 a1 a2 → p3 a1 a2 → p4 a1 a2 → p5 a1 a2 → p6 a1 a2 → p7 a1 a2 → G) : G := h.elim fun a1 h => ob1_7 h (f a1)
theorem ob3_1 {α1 α2 α3 : Sort _} {p1 : α1 → α2 → α3 → Prop} {G : Prop} (h : ∃ a1, ∃ a2, ∃ a3, p1 a1 a2 a3) (f : ∀ a1 a2 a3, p1 a1 a2 a3 → G) : G := h.elim fun a1 h => ob2_1 h (f a1)
theorem ob3_2 {α1 α2 α3 : Sort _} {p1 p2 : α1 → α2 → α3 → Prop} {G : Prop} (h : ∃ a1, ∃ a2, ∃ a3, p1 a1 a2 a3 ∧ p2 a1 a2 a3) (f : ∀ a1 a2 a3, p1 a1 a2 a3 → p2 a1 a2 a3 → G) : G := h.elim fun a1 h => ob2_2 h (f a1)
theorem ob3_3 {α1 α2 α3 : Sort _} {p1 p2 p3 : α1 → α2 → α3 → Prop} {G : Prop} (h : ∃ a1, ∃ a2, ∃ a3, p1 a1 a2 a3 ∧ p2 a1 a2 a3 ∧ p3 a1 a2 a3) (f : ∀ a1 a2 a3, p1 a1 a2 a3 → p2 a1 a2 a3 → p3 a1 a2 a3 → G) : G := h.elim fun a1 h => ob2_3 h (f a1)
theorem ob3_4 {α1 α2 α3 : Sort _} {p1 p2 p3 p4 : α1 → α2 → α3 → Prop} {G : Prop} (h : ∃ a1, ∃ a2, ∃ a3, p1 a1 a2 a3 ∧ p2 a1 a2 a3 ∧ p3 a1 a2 a3 ∧ p4 a1 a2 a3) (f : ∀ a1 a2 a3, p1 a1 a2 a3 → p2 a1 a2 a3 → p3 a1 a2 a3 → p4 a1 a2 a3 → G) : G := h.elim fun a1 h => ob2_4 h (f a1)
theorem ob1_6 {α1 : Sort _} {p1 p2 p3 p4 p5 p6 : α1 → Prop} {G : Prop} (h : ∃ a1, p1 a1 ∧ p2 a1 ∧ p3 a1 ∧ p4 a1 ∧ p5 a1 ∧ p6 a1) (f : ∀ a1, p1 a1 → p2 a1 → p3 a1 → p4 a1 → p5 a1 → p6 a1 → G) : G := h.elim fun a1 h => ob0_6 h (f a1)
theorem ob2_6 {α1 α2 : Sort _} {p1 p2 p3 p4 p5 p6 : α1 → α2 → Prop} {G : Prop} (h : ∃ a1, ∃ a2, p1 a1 a2 ∧ p2 a1 a2 ∧ p3 a1 a2 ∧ p4 a1 a2 ∧ p5 a1 a2 ∧ p6 a1 a2) (f : ∀ a1 a2, p1 a1 a2 → p2 a1 a2 → p3 a1 a2 → p4 a1 a2 → p5 a1 a2 → p6 a1 a2 → G) : G := h.elim fun a1 h => ob1_6 h (f a1)
theorem ob3_6 {α1 α2 α3 : Sort _} {p1 p2 p3 p4 p5 p6 : α1 → α2 → α3 → Prop} {G : Prop} (h : ∃ a1, ∃ a2, ∃ a3, p1 a1 a2 a3 ∧ p2 a1 a2 a3 ∧ p3 a1 a2 a3 ∧ p4 a1 a2 a3 ∧ p5 a1 a2 a3 ∧ p6 a1 a2 a3) (f : ∀ a1 a2 a3, p1 a1 a2 a3 → p2 a1 a2 a3 → p3 a1 a2 a3 → p4 a1 a2 a3 → p5 a1 a2 a3 → p6 a1 a2 a3 → G) : G := h.elim fun a1 h => ob2_6 h (f a1)
theorem ob4_1 {α1 α2 α3 α4 : Sort _} {p1 : α1 → α2 → α3 → α4 → Prop} {G : Prop} (h : ∃ a1, ∃ a2, ∃ a3, ∃ a4, p1 a1 a2 a3 a4) (f : ∀ a1 a2 a3 a4, p1 a1 a2 a3 a4 → G) : G := h.elim fun a1 h => ob3_1 h (f a1)
theorem ob4_2 {α1 α2 α3 α4 : Sort _} {p1 p2 : α1 → α2 → α3 → α4 → Prop} {G : Prop} (h : ∃ a1, ∃ a2, ∃ a3, ∃ a4, p1 a1 a2 a3 a4 ∧ p2 a1 a2 a3 a4) (f : ∀ a1 a2 a3 a4, p1 a1 a2 a3 a4 → p2 a1 a2 a3 a4 → G) : G := h.elim fun a1 h => ob3_2 h (f a1)
theorem ob4_3 {α1 α2 α3 α4 : Sort _} {p1 p2 p3 : α1 → α2 → α3 → α4 → Prop} {G : Prop} (h : ∃ a1, ∃ a2, ∃ a3, ∃ a4, p1 a1 a2 a3 a4 ∧ p2 a1 a2 a3 a4 ∧ p3 a1 a2 a3 a4) (f : ∀ a1 a2 a3 a4, p1 a1 a2 a3 a4 → p2 a1 a2 a3 a4 → p3 a1 a2 a3 a4 → G) : G := h.elim fun a1 h => ob3_3 h (f a1)
theorem ob4_4 {α1 α2 α3 α4 : Sort _} {p1 p2 p3 p4 : α1 → α2 → α3 → α4 → Prop} {G : Prop} (h : ∃ a1, ∃ a2, ∃ a3, ∃ a4, p1 a1 a2 a3 a4 ∧ p2 a1 a2 a3 a4 ∧ p3 a1 a2 a3 a4 ∧ p4 a1 a2 a3 a4) (f : ∀ a1 a2 a3 a4, p1 a1 a2 a3 a4 → p2 a1 a2 a3 a4 → p3 a1 a2 a3 a4 → p4 a1 a2 a3 a4 → G) : G := h.elim fun a1 h => ob3_4 h (f a1)
theorem ob2_5 {α1 α2 : Sort _} {p1 p2 p3 p4 p5 : α1 → α2 → Prop} {G : Prop} (h : ∃ a1, ∃ a2, p1 a1 a2 ∧ p2 a1 a2 ∧ p3 a1 a2 ∧ p4 a1 a2 ∧ p5 a1 a2) (f : ∀ a1 a2, p1 a1 a2 → p2 a1 a2 → p3 a1 a2 → p4 a1 a2 → p5 a1 a2 → G) : G := h.elim fun a1 h => ob1_5 h (f a1)
theorem ob3_5 {α1 α2 α3 : Sort _} {p1 p2 p3 p4 p5 : α1 → α2 → α3 → Prop} {G : Prop} (h : ∃ a1, ∃ a2, ∃ a3, p1 a1 a2 a3 ∧ p2 a1 a2 a3 ∧ p3 a1 a2 a3 ∧ p4 a1 a2 a3 ∧ p5 a1 a2 a3) (f : ∀ a1 a2 a3, p1 a1 a2 a3 → p2 a1 a2 a3 → p3 a1 a2 a3 → p4 a1 a2 a3 → p5 a1 a2 a3 → G) : G := h.elim fun a1 h => ob2_5 h (f a1)
theorem ob4_5 {α1 α2 α3 α4 : Sort _} {p1 p2 p3 p4 p5 : α1 → α2 → α3 → α4 → Prop} {G : Prop} (h : ∃ a1, ∃ a2, ∃ a3, ∃ a4, p1 a1 a2 a3 a4 ∧ p2 a1 a2 a3 a4 ∧ p3 a1 a2 a3 a4 ∧ p4 a1 a2 a3 a4 ∧ p5 a1 a2 a3 a4) (f : ∀ a1 a2 a3 a4, p1 a1 a2 a3 a4 → p2 a1 a2 a3 a4 → p3 a1 a2 a3 a4 → p4 a1 a2 a3 a4 → p5 a1 a2 a3 a4 → G) : G := h.elim fun a1 h => ob3_5 h (f a1)
theorem ob5_1 {α1 α2 α3 α4 α5 : Sort _} {p1 : α1 → α2 → α3 → α4 → α5 → Prop} {G : Prop} (h : ∃ a1, ∃ a2, ∃ a3, ∃ a4, ∃ a5, p1 a1 a2 a3 a4 a5) (f : ∀ a1 a2 a3 a4 a5, p1 a1 a2 a3 a4 a5 → G) : G := h.elim fun a1 h => ob4_1 h (f a1)
theorem ob5_4 {α1 α2 α3 α4 α5 : Sort _} {p1 p2 p3 p4 : α1 → α2 → α3 → α4 → α5 → Prop} {G : Prop} (h : ∃ a1, ∃ a2, ∃ a3, ∃ a4, ∃ a5, p1 a1 a2 a3 a4 a5 ∧ p2 a1 a2 a3 a4 a5 ∧ p3 a1 a2 a3 a4 a5 ∧ p4 a1 a2 a3 a4 a5) (f : ∀ a1 a2 a3 a4 a5, p1 a1 a2 a3 a4 a5 → p2 a1 a2 a3 a4 a5 → p3 a1 a2 a3 a4 a5 → p4 a1 a2 a3 a4 a5 → G) : G := h.elim fun a1 h => ob4_4 h (f a1)
theorem ob5_5 {α1 α2 α3 α4 α5 : Sort _} {p1 p2 p3 p4 p5 : α1 → α2 → α3 → α4 → α5 → Prop} {G : Prop} (h : ∃ a1, ∃ a2, ∃ a3, ∃ a4, ∃ a5, p1 a1 a2 a3 a4 a5 ∧ p2 a1 a2 a3 a4 a5 ∧ p3 a1 a2 a3 a4 a5 ∧ p4 a1 a2 a3 a4 a5 ∧ p5 a1 a2 a3 a4 a5) (f : ∀ a1 a2 a3 a4 a5, p1 a1 a2 a3 a4 a5 → p2 a1 a2 a3 a4 a5 → p3 a1 a2 a3 a4 a5 → p4 a1 a2 a3 a4 a5 → p5 a1 a2 a3 a4 a5 → G) : G := h.elim fun a1 h => ob4_5 h (f a1)
theorem ob6_1 {α1 α2 α3 α4 α5 α6 : Sort _} {p1 : α1 → α2 → α3 → α4 → α5 → α6 → Prop} {G : Prop} (h : ∃ a1, ∃ a2, ∃ a3, ∃ a4, ∃ a5, ∃ a6, p1 a1 a2 a3 a4 a5 a6) (f : ∀ a1 a2 a3 a4 a5 a6, p1 a1 a2 a3 a4 a5 a6 → G) : G := h.elim fun a1 h => ob5_1 h (f a1)
theorem ob5_3 {α1 α2 α3 α4 α5 : Sort _} {p1 p2 p3 : α1 → α2 → α3 → α4 → α5 → Prop} {G : Prop} (h : ∃ a1, ∃ a2, ∃ a3, ∃ a4, ∃ a5, p1 a1 a2 a3 a4 a5 ∧ p2 a1 a2 a3 a4 a5 ∧ p3 a1 a2 a3 a4 a5) (f : ∀ a1 a2 a3 a4 a5, p1 a1 a2 a3 a4 a5 → p2 a1 a2 a3 a4 a5 → p3 a1 a2 a3 a4 a5 → G) : G := h.elim fun a1 h => ob4_3 h (f a1)
theorem ob6_3 {α1 α2 α3 α4 α5 α6 : Sort _} {p1 p2 p3 : α1 → α2 → α3 → α4 → α5 → α6 → Prop} {G : Prop} (h : ∃ a1, ∃ a2, ∃ a3, ∃ a4, ∃ a5, ∃ a6, p1 a1 a2 a3 a4 a5 a6 ∧ p2 a1 a2 a3 a4 a5 a6 ∧ p3 a1 a2 a3 a4 a5 a6) (f : ∀ a1 a2 a3 a4 a5 a6, p1 a1 a2 a3 a4 a5 a6 → p2 a1 a2 a3 a4 a5 a6 → p3 a1 a2 a3 a4 a5 a6 → G) : G := h.elim fun a1 h => ob5_3 h (f a1)
theorem ob6_4 {α1 α2 α3 α4 α5 α6 : Sort _} {p1 p2 p3 p4 : α1 → α2 → α3 → α4 → α5 → α6 → Prop} {G : Prop} (h : ∃ a1, ∃ a2, ∃ a3, ∃ a4, ∃ a5, ∃ a6, p1 a1 a2 a3 a4 a5 a6 ∧ p2 a1 a2 a3 a4 a5 a6 ∧ p3 a1 a2 a3 a4 a5 a6 ∧ p4 a1 a2 a3 a4 a5 a6) (f : ∀ a1 a2 a3 a4 a5 a6, p1 a1 a2 a3 a4 a5 a6 → p2 a1 a2 a3 a4 a5 a6 → p3 a1 a2 a3 a4 a5 a6 → p4 a1 a2 a3 a4 a5 a6 → G) : G := h.elim fun a1 h => ob5_4 h (f a1)
theorem ob7_1 {α1 α2 α3 α4 α5 α6 α7 : Sort _} {p1 : α1 → α2 → α3 → α4 → α5 → α6 → α7 → Prop} {G : Prop} (h : ∃ a1, ∃ a2, ∃ a3, ∃ a4, ∃ a5, ∃ a6, ∃ a7, p1 a1 a2 a3 a4 a5 a6 a7) (f : ∀ a1 a2 a3 a4 a5 a6 a7, p1 a1 a2 a3 a4 a5 a6 a7 → G) : G := h.elim fun a1 h => ob6_1 h (f a1)
theorem ob5_2 {α1 α2 α3 α4 α5 : Sort _} {p1 p2 : α1 → α2 → α3 → α4 → α5 → Prop} {G : Prop} (h : ∃ a1, ∃ a2, ∃ a3, ∃ a4, ∃ a5, p1 a1 a2 a3 a4 a5 ∧ p2 a1 a2 a3 a4 a5) (f : ∀ a1 a2 a3 a4 a5, p1 a1 a2 a3 a4 a5 → p2 a1 a2 a3 a4 a5 → G) : G := h.elim fun a1 h => ob4_2 h (f a1)
theorem ob6_2 {α1 α2 α3 α4 α5 α6 : Sort _} {p1 p2 : α1 → α2 → α3 → α4 → α5 → α6 → Prop} {G : Prop} (h : ∃ a1, ∃ a2, ∃ a3, ∃ a4, ∃ a5, ∃ a6, p1 a1 a2 a3 a4 a5 a6 ∧ p2 a1 a2 a3 a4 a5 a6) (f : ∀ a1 a2 a3 a4 a5 a6, p1 a1 a2 a3 a4 a5 a6 → p2 a1 a2 a3 a4 a5 a6 → G) : G := h.elim fun a1 h => ob5_2 h (f a1)
theorem ob7_2 {α1 α2 α3 α4 α5 α6 α7 : Sort _} {p1 p2 : α1 → α2 → α3 → α4 → α5 → α6 → α7 → Prop} {G : Prop} (h : ∃ a1, ∃ a2, ∃ a3, ∃ a4, ∃ a5, ∃ a6, ∃ a7, p1 a1 a2 a3 a4 a5 a6 a7 ∧ p2 a1 a2 a3 a4 a5 a6 a7) (f : ∀ a1 a2 a3 a4 a5 a6 a7, p1 a1 a2 a3 a4 a5 a6 a7 → p2 a1 a2 a3 a4 a5 a6 a7 → G) : G := h.elim fun a1 h => ob6_2 h (f a1)
theorem ob8_1 {α1 α2 α3 α4 α5 α6 α7 α8 : Sort _} {p1 : α1 → α2 → α3 → α4 → α5 → α6 → α7 → α8 → Prop} {G : Prop} (h : ∃ a1, ∃ a2, ∃ a3, ∃ a4, ∃ a5, ∃ a6, ∃ a7, ∃ a8, p1 a1 a2 a3 a4 a5 a6 a7 a8) (f : ∀ a1 a2 a3 a4 a5 a6 a7 a8, p1 a1 a2 a3 a4 a5 a6 a7 a8 → G) : G := h.elim fun a1 h => ob7_1 h (f a1)
theorem ob9_1 {α1 α2 α3 α4 α5 α6 α7 α8 α9 : Sort _} {p1 : α1 → α2 → α3 → α4 → α5 → α6 → α7 → α8 → α9 → Prop} {G : Prop} (h : ∃ a1, ∃ a2, ∃ a3, ∃ a4, ∃ a5, ∃ a6, ∃ a7, ∃ a8, ∃ a9, p1 a1 a2 a3 a4 a5 a6 a7 a8 a9) (f : ∀ a1 a2 a3 a4 a5 a6 a7 a8 a9, p1 a1 a2 a3 a4 a5 a6 a7 a8 a9 → G) : G := h.elim fun a1 h => ob8_1 h (f a1)
end
end Mine
namespace Mine
def Stop (p : Prop) : Prop := p
theorem stop_here {p : Prop} (h : Stop p) : p := h
theorem nos {α : Type} {a : α} {G : Prop} (e : none = some a) : G := (Option.some_ne_none a e.symm).elim
theorem nos' {α : Type} {a : α} {G : Prop} (e : some a = none) : G := (Option.some_ne_none a e).elim
theorem nob {G : Prop} (e : false = true) : G := (Bool.false_ne_true e).elim
theorem nob' {G : Prop} (e : true = false) : G := (Bool.false_ne_true e.symm).elim
theorem nil_all {α : Type} {p : α → Prop} : ∀ q ∈ ([] : List α), p q := fun _ hq => (List.not_mem_nil hq).elim
theorem bd_le {a n k : Nat} (x : a ≤ n) (y : Nat.ble n k = true) : a ≤ k := Nat.le_trans x (Nat.le_of_ble_eq_true y)
theorem bd_lt {a n k : Nat} (x : a ≤ n) (y : Nat.ble (n + 1) k = true) : a < k := Nat.lt_of_le_of_lt x (Nat.le_of_ble_eq_true y)

local macro_rules | `(tactic| omega) => `(tactic| lia)
local macro_rules | `(tactic| walk_at "E bd") => `(tactic| (first | (refine' Nat.add_le_add ?xx ?yy; (case xx | yy => walk_at "E bd")) | assumption | (refine' Nat.le_of_eq ?xx; assumption) | exact Nat.le_refl _ | fail "no bound"))
local macro_rules | `(tactic| omega) => `(tactic| (first | (refine' bd_le ?xx ?yy; (case xx => walk_at "E bd"); (case yy => exact rfl)) | (refine' bd_lt ?xx ?yy; (case xx => walk_at "E bd"); (case yy => exact rfl)) | fail "no bound"))
local macro_rules | `(tactic| walk_at "MY enter") => `(tactic| ((case k1 => first | assumption | exact Below.stays (by assumption)); (case k2 | k3 => assumption); (try (case k4 => first | assumption | (intro q hq; cases hq))); (case k6 | k7 => k_is); (try (case k8 => decide)); (case k9 => exact BindsTo.of_eq rfl); (case kB => first | exact locs rfl | exact rfl); (try (case c5 => decide)); (try (case kD => decide +kernel)); (case c2 | c3 | c4 => exact rfl)))
local macro_rules | `(tactic| walk_at "pyIter str") => `(tactic| refine stop_here ?_)
theorem fillit_S : PySem.Challenge.rw_nz0116_01 = PySem.Challenge.rw_nz0116_01 ∧ Mine.hd.heap_39 = Mine.hd.heap_39 := by
  k_fill
  exact ⟨rfl, rfl⟩
section
theorem top_B0 : True := by w_top off; exact True.intro
abbrev PR : Program := PySem.Challenge.rw_nz0116_01.row.prog
abbrev Led := List (Addr × Obj)
abbrev Al (d u : Nat) : Around := { handled := none, depth := d, frames := none, guards := none, units := u }

theorem in_weak {Γ : PySem.Ctx} {A B : Around} (hh : A.handled = B.handled) (hd : A.depth ≤ B.depth) (hf : ∀ l, B.frames = some l → A.frames = some l) (hg : ∀ l, B.guards = some l → A.guards = some l) (hu : A.units ≤ B.units) (h : Γ.In A) : Γ.In B :=
  ⟨h.1.trans hh, Nat.le_trans h.2.1 hd, fun l hl => h.2.2.1 l (hf l hl), fun g hl => h.2.2.2.1 g (hg g hl), Nat.le_trans h.2.2.2.2 hu⟩
theorem wp_weak {α : Type} {M : Model} {A B : Around} {t : Sem α} {Q : α → Shared → Prop} {E : Value → Shared → Prop} {s : Shared} (h : wpAny M B t Q E s)
    (hh : A.handled = B.handled) (hd : A.depth ≤ B.depth) (hf : ∀ l, B.frames = some l → A.frames = some l) (hg : ∀ l, B.guards = some l → A.guards = some l) (hu : A.units ≤ B.units) : wpAny M A t Q E s :=
  fun Γ p hΓ => h Γ p (in_weak hh hd hf hg hu hΓ)
theorem wp_al {α : Type} {M : Model} {A : Around} {d u : Nat} {t : Sem α} {Q : α → Shared → Prop} {E : Value → Shared → Prop} {s : Shared} (h : wpAny M (Al d u) t Q E s)
    (hh : A.handled = none) (hd : A.depth ≤ d) (hu : A.units ≤ u) : wpAny M A t Q E s :=
  wp_weak h hh hd (fun _ e => nomatch e) (fun _ e => nomatch e) hu

section
variable {w : World} {A : Around} {E : Value → Shared → Prop} {s : Shared} {h₀ : Heap} {K : Frag} {news : Led} {p : Program} {loose : List Str} {mean : ExcName → Option Value} {mg mb : Str → Option Value}
  {name qual : Str} {params : Arguments} {body : List Stmt} {scope : Scope} {dV kV doc pm cdv ct oc : Value} {an od : Option Addr} {osl : Array (Option Value)} {f : Addr} {pos : List Value} {kw : List (Str × Value)} {binds rb : List (Str × Value)} {Q : Value → Shared → Prop}

theorem ground (kh : ∀ b o, h₀.get? b = some o → s.heap.get? b = some o) (hn : ∀ q ∈ news, s.heap.get? q.1 = some q.2 ∧ h₀.get? q.1 = none) :
    ∀ b o, h₀.get? b = some o → (hideAll s.heap (news.map (·.1))).get? b = some o := fun b o e => hideAll_get _ (kh b o e) fun q => by
  (refine ob1_2 (List.mem_map.mp q) fun q' hq e_1 => ?_; subst e_1)
  rw [(hn q' hq).2] at e; exact nos e

theorem enter_plain (kh : ∀ b o, h₀.get? b = some o → s.heap.get? b = some o) (X : K.In h₀) (T : Top p loose mean mg mb h₀)
    (hn : ∀ q ∈ news, s.heap.get? q.1 = some q.2 ∧ h₀.get? q.1 = none)
    (ho : K.lookup f = some ⟨oc, od, .func (fnOf name qual params body scope dV kV doc pm an cdv ct), osl⟩) (hcd : codeIn K cdv qual = true) (hroom : A.depth < recursionLimit)
    (hbind : BindsTo s (fnOf name qual params body scope dV kV doc pm an cdv ct) ⟨pos, kw⟩ binds) (hloc : ∀ y ∈ binds, scope.names.lookup y.1 = some .local)
    (h : ∀ g L' h₁, (∀ b o, h₀.get? b = some o → g.get? b = some o) → (∀ b o, s.heap.get? b = some o → (∀ q ∈ news, q.1 ≠ b) → g.get? b = some o) → (∀ b o, g.get? b = some o → s.heap.get? b = some o) →
      Fr g L' h₁ (fun y => rb.lookup y) → News g L' h₁ news → K.In g → Top p loose mean mg mb g → L' = s.heap.objs.size → (∀ q ∈ news, q.1 < L') →
      wpAny (model PR w) (A.deeper (envOf qual scope L' f cdv)) (execs body (envOf qual scope L' f cdv))
        (fun fl s' => Q (match fl with | .ret v => v | _ => .none) s') (fun _ _ => False) { s with heap := h₁, toks := s.toks + binds.length })
    (hrb : binds.reverse = rb := by rfl) (hcell : ∀ x ∈ scope.names, x.2 ≠ .cell := by decide) (hco : scope.isCoroutine = false := by rfl) (hgen : scope.isGenerator = false := by rfl) (hk : scope.kind = .function := by rfl) :
    wpAny (model PR w) A (call (.ref f) pos kw) Q E s := by
  subst hrb
  refine wpAny_call ?_
  refine codeAny_call_def (fd := fnOf name qual params body scope dV kV doc pm an cdv ct) (body := body) (binds := binds) hroom ((X.keeps kh) _ _ ho) rfl (T.nolimit.keeps kh) (codeRec_of (X.keeps kh) hcd) rfl hbind hcell hloc (fun h₁ hns hk₁ => ?_) hco hgen hk
  have st := ground kh hn
  refine wpAny_mono (h _ s.heap.objs.size h₁ st (fun b o e q => hideAll_get _ e fun m => ?_) (fun b o e => of_hideAll _ e) ⟨hns, fun b o e => hk₁ b o (of_hideAll _ e), Nat.le_of_eq (hideAll_size _ _)⟩
    (fun q hq => ⟨hk₁ _ _ (hn q hq).1, Nat.ne_of_lt (Heap.lt_size (hn q hq).1), hideAll_none _ (List.mem_map_of_mem hq)⟩) (X.keeps st) (T.keeps st) rfl (fun q hq => Heap.lt_size (hn q hq).1)) (fun fl s' hl => hl) fun _ _ y => y.elim
  (refine ob1_2 (List.mem_map.mp m) fun q' hq e' => ?_)
  exact q q' hq e'
end

theorem keep_of {s g h' : Heap} {L : Addr} {m : Str → Option Value} {news news' : Led} {P : Addr → Prop} (hn : ∀ q ∈ news, s.get? q.1 = some q.2)
    (kg : ∀ b o, s.get? b = some o → (∀ q ∈ news, q.1 ≠ b) → g.get? b = some o) (F : Fr g L h' m) (N : News g L h' news') (hm : ∀ q ∈ news, P q.1 ∨ q ∈ news') :
    ∀ b o, ¬ P b → s.get? b = some o → h'.get? b = some o := by
  intro b o hb e
  by_cases hq : ∀ q ∈ news, q.1 ≠ b
  · exact F.keep b o (kg b o e hq)
  · have : ∃ q, q ∈ news ∧ q.1 = b := by
      apply Classical.byContradiction
      intro hc
      exact hq fun q hq1 hq2 => hc ⟨q, hq1, hq2⟩
    (refine ob1_2 this fun q hq1 e_2 => ?_; try clear this; subst e_2)
    rcases hm q hq1 with h | h
    · exact absurd h hb
    · rw [hn q hq1] at e
      obtain rfl := Option.some.inj e
      exact (N q h).1
theorem news1 {P : Addr × Obj → Prop} {a : Addr × Obj} (ha : P a) : ∀ q ∈ [a], P q := fun q hq => by
  rcases List.mem_cons.mp hq with rfl | hq
  · exact ha
  · cases hq
theorem newsC {P : Addr × Obj → Prop} {a : Addr × Obj} {l : Led} (ha : P a) (hl : ∀ q ∈ l, P q) : ∀ q ∈ a :: l, P q := fun q hq => by
  rcases List.mem_cons.mp hq with rfl | hq
  · exact ha
  · exact hl q hq
theorem fillit : PySem.Challenge.rw_nz0116_01 = PySem.Challenge.rw_nz0116_01 ∧ Mine.hd.heap_39 = Mine.hd.heap_39 := by
  k_fill
  exact ⟨rfl, rfl⟩
end
section
theorem top_B1 : True := by w_top off; exact True.intro
local macro_rules | `(tactic| walk_at "MY steps") => `(tactic| repeat' (first | (walk1; (try dsimp only)) | fail "no step"))
local macro_rules | `(tactic| walk_at "call builtin:len") => `(tactic| ((with_reducible show wpAny _ _ (call (Value.builtin "len") [Value.ref _]) _ _ _); refine' led_len ?k1 ?k2 ?k3 ?_; (case k1 => k_asm); (case k2 => k_mem); (case k3 => first | assumption | omega); k_whole; intro tL' tkL'))
abbrev penO (c : Addr) (spot great seed : Int) (t1 t2 t3 : Tok) (n : Nat) : Obj := listOf [.ref c, .int spot t1, .int great t2, .int seed t3].toArray n

theorem draw_spec {w : World} {h₀ : Heap} {s : Shared} {Q E : Value → Shared → Prop}
    {p : Program} {loose : List Str} {mean : ExcName → Option Value} {mg mb : Str → Option Value}
    (kh : ∀ b o, h₀.get? b = some o → s.heap.get? b = some o) (X : (Mine.hd.heap_39 w.params).In h₀) (T : Top p loose mean mg mb h₀)
    {P c : Addr} {spot great seed many : Int} {t1 t2 t3 tm : Tok} {n : Nat} {vs : List Value} {ns : List Int} {nc : Nat}
    (hP : s.heap.get? P = some (penO c spot great seed t1 t2 t3 n)) (hP0 : h₀.get? P = none) (hc : s.heap.get? c = some (listOf vs.toArray nc)) (hc0 : h₀.get? c = none) (hcP : c ≠ P) (hi : IntsAre vs ns)
    (h1 : 0 ≤ spot) (h2 : spot ≤ 10000) (h3 : 0 ≤ great) (h4 : 0 ≤ seed) (h5 : seed < 1009) (h6 : 1 ≤ many) (h7 : many ≤ 1000) (h8 : vs.length ≤ 63) (h9 : vs.length = ns.length)
    (ret : ∀ d td spot' great' t1 t2 n' h' tk', 0 ≤ d → d < many → 0 ≤ great' → spot ≤ spot' → spot' ≤ spot + 1 → (∀ b o, b ≠ P → s.heap.get? b = some o → h'.get? b = some o) →
      h'.get? P = some (penO c spot' great' seed t1 t2 t3 n') → Q (.int d td) { s with heap := h', toks := tk' }) :
    wpAny (model PR w) (Al 900 900) (call (.ref 382) [.ref P, .int many tm]) Q E s := by
  have hn : ∀ q ∈ [(P, penO c spot great seed t1 t2 t3 n), (c, listOf vs.toArray nc)], s.heap.get? q.1 = some q.2 ∧ h₀.get? q.1 = none := newsC ⟨hP, hP0⟩ (news1 ⟨hc, hc0⟩)
  k_dflt (refine' enter_plain (binds := [(Str.ofString "pen", .ref P), (Str.ofString "many", .int many tm)]) (rb := [(Str.ofString "many", .int many tm), (Str.ofString "pen", .ref P)]) ?k1 ?k2 ?k3 ?k4 ?k6 ?k7 ?k8 ?k9 ?kB ?_ rfl ?c5 ?c2 ?c3 ?c4; walk_at "MY enter")
  intro g' L' h' kg kg2 kg3 F' N' X' T' hL hlt
  k_lt hlt
  show wpAny _ _ _ _ _ _
  k_fold
  clear kh X T
  walk_at "MY steps"
  all_goals (rename (Fr _ _ _ _) => FE; rename (News _ _ _ _) => NE; refine ret _ _ _ _ _ _ _ _ _ ?_ ?_ ?_ ?_ ?_ (keep_of (fun q hq => (hn q hq).1) kg2 FE NE (newsC (.inl rfl) (news1 (.inr (by k_mem))))) (NE.get (List.Mem.head _)))
  all_goals first | omega | exact Int.fmod_nonneg_of_pos _ (by omega) | exact Int.fmod_lt_of_pos _ (by omega) | exact Int.fdiv_nonneg (by omega) (by omega) | skip
  all_goals
    refine Int.fdiv_nonneg ?_ (by omega)
    rename (¬ (_ : Int) < _) => hbig
    have e10 : (10 : Int) ^ Int.toNat 18 = 1000000000000000000 := by decide
    rw [e10] at hbig ⊢
    omega
end
section
theorem top_X1 : True := by w_top off; exact True.intro
abbrev fBm : List Value := [.ref 48, .type "Exception", .type "BaseException", .type "object"]
inductive FaultCls (h : Heap) : Prop
  | mk (nm q : Str) (N : Addr) (bs : List Value) (hdct : Bool) (sn : List Str) (sub : List Value) (ab : Bool) (col : Option Bool) (dd : Option Addr) (k0 k1 k2 k3 k5 : Option Value) (e : h.get? 61 = some (excClassObj nm q 61 N bs fBm hdct sn sub ab col dd k0 k1 k2 k3 k5 "Exception.__new__")) : FaultCls h
theorem fault_cls {w : World} {h : Heap} (X : (Mine.hd.heap_39 w.params).In h) : FaultCls h :=
  ⟨_, _, _, _, _, _, _, _, _, _, _, _, _, _, _, X 61 _ (by k_is)⟩

section
variable {w : World} {A : Around} {E : Value → Shared → Prop} {h : Heap} {g : Array GenState} {d : Drawn} {t : Nat} {os : OsState} {R : Result → Shared → Prop}
variable {nm q : Str} {N : Addr} {bs : List Value} {hdct : Bool} {sn : List Str} {sub : List Value} {ab : Bool} {col : Option Bool} {dd : Option Addr} {k0 k1 k2 k3 k5 : Option Value}

theorem fault_new {rest : List Value} (hC : h.get? 61 = some (excClassObj nm q 61 N bs fBm hdct sn sub ab col dd k0 k1 k2 k3 k5 "Exception.__new__"))
    (hq : R (.ok (.ret (.ref (h.objs.size + 1)))) ⟨(h.push { cls := .type "tuple", data := .seq rest.toArray }).push
      { cls := .ref 61, data := .fields #[.ref h.objs.size, .none, .none, .none, .bool false, .none] }, g, d, t, os⟩) (hrest : rest.length ≤ sizeLine) :
    codeAny (model PR w) A (.builtin "Exception.__new__" ⟨.ref 61 :: rest, []⟩) R ⟨h, g, d, t, os⟩ := by
  have F := PySem.F.excBase_Exception
  have hends := F.ends
  have hcB : (Value.ref 61 :: fBm).contains (.type "Exception") = true := by decide
  have hcA : (Value.ref 61 :: fBm).contains (.type "AttributeError") = false := by decide
  have hcN : (Value.ref 61 :: fBm).contains (.type "NameError") = false := by decide
  refine codeAny_builtinAt F.entry ?_
  unfold Builtin.«BaseException.__new__»
  refine _root_.PySem.wpAt_bind ?_
  show _root_.PySem.wpAt _ _ _ (stack >>= _) _ _ _
  refine _root_.PySem.wpAt_bind (_root_.PySem.wpAt_stack fun p below => _root_.PySem.wpAt_of_wpAny ?_)
  wp_walk
  refine _root_.PySem.wpAt_of_wpAny ?_
  rw [F.owner]
  repeat (first | with_reducible refine wpAny_madeHere_exc F.canon hC ?_ | with_reducible refine wpAny_loadPart_at hC ?_ | (with_reducible refine wpAny_isSubtype_exc hC ?_; first | rw [hcB] | rw [hcA] | rw [hcN]) | wp_step)
  show R _ _
  rw [Heap.size_push]
  exact hq

abbrev tupO (vs : List Value) : Obj := { cls := .type "tuple", data := .seq vs.toArray }
abbrev excO (t : Addr) : Obj := { cls := .ref 61, data := .fields #[.ref t, .none, .none, .none, .bool false, .none] }

theorem fault_make {rest : List Value} (X : (Mine.hd.heap_39 w.params).In h) (hrest : rest.length ≤ sizeLine)
    (hq : codeAny (model PR w) (A.under (.builtin "type.__call__" ⟨.ref 61 :: rest, []⟩)) (.call (.ref 38) ⟨.ref (h.objs.size + 1) :: rest, []⟩) (InitBack (h.objs.size + 1) R)
      ⟨(h.push (tupO rest)).push (excO h.objs.size), g, d, t, os⟩) :
    codeAny (model PR w) A (.call (.ref 61) ⟨rest, []⟩) R ⟨h, g, d, t, os⟩ := by
  obtain ⟨nm, q, N, bs, hdct, sn, sub, ab, col, dd, k0, k1, k2, k3, k5, hC⟩ := fault_cls X
  have call : Looks (model PR w) h (specialOf (.ref 61) "__call__") (some (.builtin "type.__call__")) := looks_specialIn X (by k_is)
  have typ : Looks (model PR w) h (isInstance (.ref 61) (.type "type")) true := looks_instIn X (by k_is)
  have hm : Looks (model PR w) h (mroOf (.ref 61)) (.ref 61 :: fBm) := ((Looks.ld (part := none) hC).andThen .now).andThen .now
  have hi : Looks (model PR w) h (typeLookup (.ref 61) "__init__") (some (.ref 38)) := looks_findIn X (by k_is)
  have hb : ∀ self, Looks (model PR w) h (bindSpecial (.ref 38) self) (.ref 38, [self]) := fun self => bind_fn X self (by k_is)
  have self : Looks (model PR w) h (isSubtype (.ref 61) (.ref 61)) true := looks_mroIn X (by k_is)
  refine codeAny_of_tree ?_
  show wpAny _ _ (callAny (.ref 61) _) _ _ _
  refine nd_load hC ?_
  show wpAny _ _ (callAny.viaDunder (.ref 61) _) _ _ _
  unfold callAny.viaDunder
  refine wpAny_bind (call.at ?_)
  dsimp only
  rw [tc_bind]
  refine wpAny_bind (wpAny_pure (wpAny_bind (wpAny_pure ?_)))
  refine wpAny_pure (a := Fin.again (.call (.builtin "type.__call__") ⟨.ref 61 :: rest, []⟩)) (And.intro rfl ?_)
  refine codeAny_call_builtin_at (Code.quiet_builtin _ (by decide +kernel)) entry_typeCall (check_slot tc_kind tc_split typ (tc_args _ _ _) ?_)
  have F := PySem.F.excBase_Exception
  unfold Builtin.«type.__call__»
  have made : Looks (model PR w) h (Bind.madeBy (.ref 61)) (some "Exception.__new__") := by
    intro A Q E s k q
    exact wpAny_madeBy_exc (k _ _ hC) q
  have noType : (Value.ref 61 == Value.type "type") = false := by decide
  repeat (first | simp only [List.isEmpty_cons, Bool.false_eq_true, if_false] | with_reducible refine wpAny_call ?_ | lk)
  refine codeAny_call_builtin_code (Code.quiet_builtin _ F.quiet) (wpAny_check_new_subU (Fn := F) (hBn := by decide) (T := OwnTail.base) hC ?_)
  refine fault_new hC ?_ hrest
  have k : ∀ b o, h.get? b = some o → ((h.push (tupO rest)).push (excO h.objs.size)).get? b = some o := fun b o e => Heap.get?_push_of_some _ (Heap.get?_push_of_some _ e)
  have hx : ((h.push (tupO rest)).push (excO h.objs.size)).get? (h.objs.size + 1) = some (excO h.objs.size) := by heap_get
  have t1 : Looks (model PR w) ((h.push (tupO rest)).push (excO h.objs.size)) (typeOf (.ref (h.objs.size + 1))) (.ref 61) := (Looks.ld hx).andThen .now
  have s1 := self.keeps k
  have i1 := hi.keeps k
  have b1 := (hb (.ref (h.objs.size + 1))).keeps k
  unfold isInstance callSpecial? specialOf
  repeat (first | with_reducible refine wpAny_call ?_ | lk)
  refine codeAny_mono hq fun r s' z => ?_
  rcases r with e | (v | _ | _ | _) <;> first | exact z | exact z.elim | skip
  obtain ⟨rfl, z⟩ := z
  exact wpAny_pure (wpAny_pure z)
end
end
section
theorem top_X2 : True := by w_top off; exact True.intro
open PySem.Builtin PySem.Builtin.ObjectAttr
section
variable {w : World} {A : Around} {E : Value → Shared → Prop} {h : Heap} {g : Array GenState} {d : Drawn} {t : Nat} {os : OsState} {mA : Str → Option Value} {x : Addr} {name : Str} {v : Value}

theorem exc_store {Q : Unit → Shared → Prop} {ns : List Str} (X : (Mine.hd.heap_39 w.params).In h) (hf : findIn (Mine.hd.heap_39 w.params) (.ref 61) name = some none) (I : h.Inst x 61 mA)
    (hq : ∀ h' tk', h'.Inst x 61 (fun y => if y = name then some v else mA y) →
      (∀ b o, b ≠ x → (∀ o₀ dx, h.get? x = some o₀ → o₀.dict = some dx → b ≠ dx) → h.get? b = some o → h'.get? b = some o) →
      (∀ o₀, h.get? x = some o₀ → ∃ dx, h'.get? x = some { o₀ with dict := some dx } ∧ dx ≠ x ∧ (o₀.dict = some dx ∨ (o₀.dict = none ∧ h.get? dx = none)) ∧ h'.Ns1 dx (fun y => if y = name then some v else mA y)) → Q () ⟨h', g, d, tk', os⟩) (hw : PySem.Within mA ns) (hsz : ns.length ≤ 100) :
    wpAny (model PR w) A (setAttr (.ref x) name v) Q E ⟨h, g, d, t, os⟩ := by
  (refine ob1_4 I fun o hx hc hnc hd => ?_; try clear I)
  have I' : InstAt h x o 61 (match o.dict with | some dx => h.get? dx | none => none) := by
    refine ⟨hx, hc, ?_, ?_⟩
    · unfold notCls
      split
      · rename_i e; exact absurd e (hnc _)
      · rfl
    · rcases hd with ⟨e, _⟩ | ⟨dx, e, _, od, es, ep, e2, _⟩
      · rw [e]; trivial
      · rw [e]; simp only; rw [e2]; exact e2
  have hm : Looks (model PR w) h (mroOf (.ref 61)) (.ref 61 :: fBm) := by
    obtain ⟨nm, q, N, bs, hdct, sn, sub, ab, col, dd, k0, k1, k2, k3, k5, hC⟩ := fault_cls X
    exact ((Looks.ld (part := none) hC).andThen .now).andThen .now
  have sub : Looks (model PR w) h (isInstance (.ref x) (.type "object")) true := I'.type.andThen (looks_mroIn X (by k_is))
  have SF := PySem.F.store_Exception
  refine set_plain (s := ⟨h, g, d, t, os⟩) X I' (by k_is) ?_
  refine codeAny_call_builtin SF.slot.plain SF.entry (@check_slot (model PR w) _ _ _ "object.__setattr__" "object" "__setattr__" (.ref x) [.str name t, v] [] _ SF.kind SF.split sub (SF.args (.ref x) (.str name t) v) ?_)
  rw [osa_eq, refuse_eq]
  refine wpAny_bind (wpAny_bind (I'.type.here (wpAny_bind (hm.here ?_))))
  rw [refuseLoop_ref, refuseLoop_ref, SF.passes (.ref x)]
  refine wpAny_pure (wpAny_bind (I'.type.here (wpAny_bind ((looks_findIn X hf).here (wpAny_bind (m := storeTaker? none) (wpAny_pure ?_))))))
  show wpAny _ _ (storeInOwnDict (.ref x) (.ref 61) (.str name t) name v false) _ _ _
  unfold storeInOwnDict
  refine wpAny_bind (m := ownStreamTells (.ref x) (.ref 61)) (wpAny_pure ?_)
  rw [if_neg (by decide)]
  dsimp only
  refine wpAny_bind ?_
  show wpAny _ _ (instanceDict x true) _ _ _
  unfold instanceDict
  refine wpAny_bind (wpAny_loadPart hx ?_)
  obtain ⟨nm, q, N, bs, hdct, sn, sub', ab, col, dd, k0, k1, k2, k3, k5, hC⟩ := fault_cls X
  rw [hc]
  have hcd : ∃ cd, clsIn (Mine.hd.heap_39 w.params) 61 = some cd ∧ cd.hasDict = true := ⟨_, by k_is, rfl⟩
  (refine ob1_2 hcd fun cd hcd1 hcd2 => ?_; try clear hcd)
  refine wpAny_bind ((looks_clsIn X hcd1).here ?_)
  rw [hcd2]
  simp only [Bool.not_true, Bool.false_eq_true, if_false]
  rcases hd with ⟨hdn, hmA⟩ | ⟨dx, hdx, hne, hns⟩
  · rw [hdn, show (false || !typeHasDict (Value.ref 61)) = false from rfl]
    have hx₁ : (h.push { cls := .type "dict", data := .dict #[] }).get? x = some o := Heap.get?_push_of_some _ hx
    have hxs : x ≠ h.objs.size := Nat.ne_of_lt (Heap.lt_size hx)
    show wpAny _ _ (alloc { cls := Value.type "dict", data := Data.dict #[] } >>= fun d => update x (fun o => { cls := o.cls, dict := some d, data := o.data, slots := o.slots }) >>= fun _ => dictMade (Value.ref 61) x d) _ _ _
    refine wpAny_bind (wpAny_alloc' (wpAny_bind (wpAny_update' hx₁ (wpAny_pure ?_))))
    have hgd : ((h.push { cls := .type "dict", data := .dict #[] }).update x fun o => { cls := o.cls, dict := some h.objs.size, data := o.data, slots := o.slots }).get? h.objs.size
        = some { cls := .type "dict", data := .dict #[] } :=
      (Heap.get?_update_ne _ _ _ _ hxs.symm).trans (Heap.get?_push_at rfl rfl)
    have hnd : ((h.push { cls := .type "dict", data := .dict #[] }).update x fun o => { cls := o.cls, dict := some h.objs.size, data := o.data, slots := o.slots }).Ns h.objs.size (fun _ => none) :=
      ⟨_, #[], _, hgd, rfl, fun e he => absurd he (by simp), fun _ => rfl⟩
    show wpAny _ _ (storeInDict h.objs.size (.str name t) name v) _ _ _
    unfold storeInDict newKeyGuard
    refine wpAny_bind (wpAny_pure (wpAny_bind (wpAny_nsSet1 (Heap.Ns1.of_empty hnd) fun h' hn' hs => ?_)))
    (refine ob3_3 (hn'.count (Within.cons name v Within.nil)) fun oD esD epD hoD hdD hcD => ?_)
    refine wpAny_bind (wpAny_lookBehind hoD (by rw [hdD]; exact pastItsLine_dict (Nat.le_trans hcD (by rw [List.length_cons, List.length_nil, sizeLine_eq]; omega))) ?_)
    refine wpAny_pure ?_
    have hx' : h'.get? x = some { cls := o.cls, dict := some h.objs.size, data := o.data, slots := o.slots } := by
      refine (hs.2 x hxs).trans (Heap.get?_update_self _ hx₁ ?_)
      have hfr := (Heap.get?_some_iff.mp hx).2
      obtain ⟨oc, od, odt, osl⟩ := o
      cases odt <;> first | rfl | exact hfr
    have hnsd : h'.Ns1 h.objs.size (fun y => if y = name then some v else mA y) := by
      (refine ob3_1 hn' fun o' es ep q_4 => ob0_5 q_4 fun e1 e2 e3 eu e4 => ?_; try clear hn')
      exact mk3_1 o' es ep ⟨e1, e2, e3, eu, fun y => by rw [e4 y]; by_cases hy : y = name <;> simp [hy, hmA]⟩
    refine hq h' _ ⟨_, hx', hc, hnc, .inr ⟨h.objs.size, rfl, hxs.symm, hnsd⟩⟩ (fun b ob hbx _ hb => ?_) (fun o₀ h₀ => by obtain rfl : o = o₀ := Option.some.inj (hx.symm.trans h₀); exact ⟨_, hx', hxs.symm, .inr ⟨hdn, Heap.get?_none_of_le (Nat.le_refl _)⟩, hnsd⟩)
    exact (hs.2 b (Nat.ne_of_lt (Heap.lt_size hb))).trans ((Heap.get?_update_ne _ _ _ _ hbx).trans (Heap.get?_push_of_some _ hb))
  · rw [hdx]
    refine wpAny_pure (a := some dx) ?_
    show wpAny _ _ (storeInDict dx (.str name t) name v) _ _ _
    unfold storeInDict newKeyGuard
    refine wpAny_bind (wpAny_pure (wpAny_bind (wpAny_nsSet1 hns fun h' hn' hs => ?_)))
    (refine ob3_3 (hn'.count (Within.cons name v hw)) fun oD esD epD hoD hdD hcD => ?_)
    refine wpAny_bind (wpAny_lookBehind hoD (by rw [hdD]; exact pastItsLine_dict (Nat.le_trans hcD (by rw [List.length_cons, sizeLine_eq]; omega))) ?_)
    refine wpAny_pure ?_
    refine hq h' _ ⟨o, (hs.2 x hne.symm).trans hx, hc, hnc, .inr ⟨dx, hdx, hne, hn'⟩⟩ (fun b ob _ hbd hb => ?_) (fun o₀ h₀ => by obtain rfl : o = o₀ := Option.some.inj (hx.symm.trans h₀); exact ⟨dx, by rw [(hs.2 x hne.symm).trans hx]; obtain ⟨c, dd', dt, sl⟩ := o; simp only at hdx; rw [hdx], hne, .inl hdx, hn'⟩)
    exact (hs.2 b (hbd o dx hx hdx)).trans hb
end
end
section
theorem top_X3 : True := by w_top off; exact True.intro
theorem slot_wd_get : Slot "wrapper_descriptor" "__get__" "wrapper_descriptor.__get__" := .of (owner := "wrapper_descriptor") (n := "__get__") (by rw [typeLookup_type, builtinLookup_eq_fast]; kernel_rfl) (by decide +kernel) (by decide +kernel) (by decide +kernel)
  (by first | exact .inl (by decide +kernel) | exact .inr (by decide +kernel)) (by rw [isSubtype_type]; kernel_rfl)
theorem entry_wd_get : entryFor table "wrapper_descriptor.__get__" = some Builtin.«wrapper_descriptor.__get__» := entryFor_of_tree (by kernel_rfl)
theorem args_wd_get (a b c : Value) : argsOk "wrapper_descriptor.__get__" ⟨[a, b, c], []⟩ := by unfold argsOk; kernel_rfl
theorem type_exc_init {s : Shared} : s.TypeIs (.builtin "Exception.__init__") "wrapper_descriptor" := by
  first | rfl | exact rfl | decide +kernel
abbrev mwO (x : Addr) : Obj := { cls := .type "method-wrapper", data := .fields #[.builtin "Exception.__init__", .ref x] }
open PySem.Builtin
section
variable {w : World} {A : Around} {E : Value → Shared → Prop} {h : Heap} {g : Array GenState} {d : Drawn} {t : Nat} {os : OsState} {x so : Addr}
theorem wd_get {Q : PySem.Fin → Shared → Prop} {ox : Obj} (X : (Mine.hd.heap_39 w.params).In h) (hx : h.get? x = some ox) (hc : ox.cls = .ref 61)
    (hq : Q (.done (.ret (.ref h.objs.size))) ⟨h.push (mwO x), g, d, t, os⟩) :
    wpAny (model PR w) A (Builtin.«wrapper_descriptor.__get__» ⟨[.builtin "Exception.__init__", .ref x, .ref 61], []⟩) Q E ⟨h, g, d, t, os⟩ := by
  unfold Builtin.«wrapper_descriptor.__get__»
  have sub : Looks (model PR w) h (isSubtype (.ref 61) (.type "Exception")) true := looks_mroIn X (by k_is)
  have hs : ".".intercalate (("Exception.__init__".cutAt '.').dropLast) = "Exception" := by decide +kernel
  repeat wp_step
  rw [hc, hs]
  refine Looks.at sub ?_
  repeat wp_step
  exact hq
theorem super_ga {tk : Tok} {ox : Obj} {Q : PySem.Fin → Shared → Prop} (X : (Mine.hd.heap_39 w.params).In h) (hx : h.get? x = some ox) (hc : ox.cls = .ref 61) (hx61 : x ≠ 61)
    (hso : h.get? so = some (ks_superObj 48 x 61)) (hq : Q (.done (.ret (.ref h.objs.size))) ⟨h.push (mwO x), g, d, t, os⟩) :
    wpAny (model PR w) A (Builtin.«super.__getattribute__» ⟨[.ref so, .str "__init__" tk], []⟩) Q E ⟨h, g, d, t, os⟩ := by
  have hm : Looks (model PR w) h (mroOf (.ref 61)) (.ref 61 :: fBm) := by
    obtain ⟨nm, q, N, bs, hdct, sn, sub, ab, col, dd, k0, k1, k2, k3, k5, hC⟩ := fault_cls X
    exact ((Looks.ld (part := none) hC).andThen .now).andThen .now
  have hno : Looks (model PR w) h (opaqueClassAbove (.ref 61)) none := looks_opaque X (by k_is)
  have hl : ((Value.ref 61 :: fBm).dropWhile (· != .ref 48)).drop 1 = [.type "Exception", .type "BaseException", .type "object"] := by decide
  have hf : alongIn (Mine.hd.heap_39 w.params) "__init__" [.type "Exception", .type "BaseException", .type "object"] = some (some (.builtin "Exception.__init__")) := by kernel_rfl
  have ho : ownIn (Mine.hd.heap_39 w.params) "__init__" (.type "Exception") = some (some (.builtin "Exception.__init__")) := by kernel_rfl
  have hlk := slot_wd_get.lookup
  have hne : (Value.ref x == Value.ref 61) = false := by simp [hx61]
  have hTf := type_exc_init (s := ⟨h, g, d, t, os⟩)
  have hdt : (ks_superObj 48 x 61).data = .fields #[.ref 48, .ref x, .ref 61] := rfl
  have f0 : (#[.ref 48, .ref x, .ref 61] : Array Value)[0]? = some (.ref 48) := rfl
  have f1 : (#[.ref 48, .ref x, .ref 61] : Array Value)[1]? = some (.ref x) := rfl
  have f2 : (#[.ref 48, .ref x, .ref 61] : Array Value)[2]? = some (.ref 61) := rfl
  have hn : (Str.ofString "__init__" == ("__class__" : Str)) = false := by decide
  unfold Builtin.«super.__getattribute__»
  iterate 30 (first
    | (with_reducible refine wpAny_field hso hdt f0 ?_) | (with_reducible refine wpAny_field hso hdt f1 ?_) | (with_reducible refine wpAny_field hso hdt f2 ?_)
    | (with_reducible refine ks_wpAny_notOpaque hno ?_)
    | (with_reducible refine Looks.at hm ?_; rw [hl])
    | (with_reducible refine ⟨_, rfl, ?_⟩)
    | (simp only [hn, hne, hc, Bool.or_false, Bool.false_eq_true, if_false])
    | wp_step
    | dsimp only)
  refine wpAny_bind (Looks.at (looks_ownIn X ho) ?_)
  dsimp only
  refine wpAny_bind (wpAny_typeOf hTf (wpAny_bind (wpAny_of_eq hlk ?_)))
  dsimp only
  refine wpAny_bind (wpAny_holding (wpAny_call_entry slot_wd_get hTf entry_wd_get (wd_get X hx hc ?_) (args_wd_get _ _ _)))
  refine mk1_2 _ rfl ?_
  repeat wp_step
  exact hq
theorem super_method {pl : Sem Bool} {ox : Obj} {Q : Value × List Value → Shared → Prop} (X : (Mine.hd.heap_39 w.params).In h) (hx : h.get? x = some ox) (hc : ox.cls = .ref 61) (hx61 : x ≠ 61)
    (hso : h.get? so = some (ks_superObj 48 x 61)) (hq : Q (.ref h.objs.size, []) ⟨h.push (mwO x), g, d, t + 1, os⟩) :
    wpAny (model PR w) A (getMethod (.ref so) "__init__" pl) Q E ⟨h, g, d, t, os⟩ := by
  have hlk := PySem.F.ks_slot_super_ga.lookup
  have hcan := PySem.F.ks_canon_super_ga
  have hT : ∀ t', (⟨h, g, d, t', os⟩ : Shared).TypeIs (.ref so) "super" := fun _ => ⟨_, hso, rfl⟩
  unfold getMethod
  refine wpAny_bind (wpAny_specialOf (hT _) hlk ?_)
  show wpAny _ _ (if (Manifest.canonical "super.__getattribute__" != "object.__getattribute__") = true then _ else _) _ _ _
  rw [if_pos hcan]
  unfold getAttr getAttrBy
  refine wpAny_bind (wpAny_bind (wpAny_mkText (wpAny_holding (wpAny_bind (wpAny_typeOf (hT _) (wpAny_bind (wpAny_of_eq hlk ?_)))))))
  show wpAny _ _ (getAttrByItsOwn (.ref so) (.str "__init__" t) (.type "super") (.builtin "super.__getattribute__") true false) _ _ _
  unfold getAttrByItsOwn hookBefore callGetattribute boundAndCalled
  refine wpAny_bind (wpAny_of_eq (show (if onTheHeap (.type "super") then typeLookup (.type "super") "__getattr__" else pure none) = pure none from rfl) ?_)
  refine wpAny_bind (wpAny_attempt (wpAny_holding ?_))
  show wpAny _ _ (bindSpecial (.builtin "super.__getattribute__") (.ref so) >>= _) _ _ _
  refine wpAny_bind (wpAny_of_eq (PySem.F.ks_slot_super_ga.bind _) ?_)
  refine wpAny_mono (Q := fun v s' => v = .ref h.objs.size ∧ s' = ⟨h.push (mwO x), g, d, t + 1, os⟩) (E := fun _ _ => False)
    (wpAny_call_entry PySem.F.ks_slot_super_ga (hT _) PySem.F.ks_entry_super_ga (super_ga X hx hc hx61 hso ⟨_, rfl, rfl, rfl⟩) (PySem.F.ks_gaArgs_super _ _)) (fun v s' hv => ?_) fun _ _ z => z.elim
  (refine ob0_2 hv fun e_5 e_6 => ?_; try clear hv; subst e_5; subst e_6)
  exact wpAny_pure (wpAny_pure hq)
end
end
section
theorem top_X4 : True := by w_top off; exact True.intro
local macro_rules | `(tactic| walk_at "MY steps") => `(tactic| repeat' (first | (walk1; (try dsimp only)) | fail "no step"))
theorem mw_check {w : World} {M : Model} {A : Around} {E : Value → Shared → Prop} {h : Heap} {g : Array GenState} {d : Drawn} {t : Nat} {os : OsState} {Q : Unit → Shared → Prop} {x : Addr} {ox : Obj} (v : Value) (X : (Mine.hd.heap_39 w.params).In h) (hx : h.get? x = some ox) (hc : ox.cls = .ref 61) (hq : Q () ⟨h, g, d, t, os⟩) :
    wpAny M A (checkBoundCall "Exception.__init__" ⟨[.ref x, v], []⟩) Q E ⟨h, g, d, t, os⟩ := by
  have F := PySem.F.excBase_Exception
  obtain ⟨nm, q, N, bs, hdct, sn, sub, ab, col, dd, k0, k1, k2, k3, k5, hC⟩ := fault_cls X
  simp only [checkBoundCall, F.initKind, F.initRow]
  repeat (first | (with_reducible refine wpAny_loadPart_at hx ?_; rw [hc]) | with_reducible refine wpAny_loadPart_at hC ?_ | wp_step)
  exact hq
section
variable {w : World} {A : Around} {E : Value → Shared → Prop} {h : Heap} {g : Array GenState} {d : Drawn} {t : Nat} {os : OsState} {x mw t0 : Addr} {v : Value}
theorem mw_call {Q : Value → Shared → Prop} (X : (Mine.hd.heap_39 w.params).In h) (hmw : h.get? mw = some (mwO x)) (hx : h.get? x = some (excO t0))
    (hq : Q .none ⟨(h.push (tupO [v])).update x (Obj.mapFields (·.setIfInBounds 0 (.ref h.objs.size))), g, d, t, os⟩) :
    wpAny (model PR w) A (call (.ref mw) [v]) Q E ⟨h, g, d, t, os⟩ := by
  have F := PySem.F.excBase_Exception
  refine wpAny_call (codeAny_of_tree ?_)
  show wpAny _ _ (callAny (.ref mw) _) _ _ _
  unfold callAny
  refine wpAny_bind (wpAny_load hmw ?_)
  dsimp only
  rw [if_pos (by decide)]
  show wpAny _ _ (checkBoundCall "Exception.__init__" ⟨[.ref x, v], []⟩ >>= fun _ => again (.builtin "Exception.__init__" ⟨[.ref x, v], []⟩)) _ _ _
  refine wpAny_bind (mw_check v X hx rfl (wpAny_pure ⟨Code.quiet_builtin _ (by decide +kernel), ?_⟩))
  refine codeAny_builtin F.initEntry ?_
  unfold Builtin.«BaseException.__init__»
  wp_walk
  exact hq
end
section
variable {w : World} {A : Around} {s : Shared} {h₀ : Heap} {e t0 : Addr} {msg : Value} {k : Int} {tk : Tok} {p : Program} {loose : List Str} {mean : ExcName → Option Value} {mg mb : Str → Option Value} {R : Result → Shared → Prop}
theorem init_spec (kh : ∀ b o, h₀.get? b = some o → s.heap.get? b = some o) (X : (Mine.hd.heap_39 w.params).In h₀) (T : Top p loose mean mg mb h₀) (hroom : A.depth < recursionLimit)
    (he : s.heap.get? e = some (excO t0)) (he0 : h₀.get? e = none)
    (hR : ∀ h' d t1 tk' md, h'.get? e = some { excO t1 with dict := some d } → d ≠ e → s.heap.get? d = none → h'.Ns1 d md → md "at" = some (.int k tk) → (∀ b o, b ≠ e → s.heap.get? b = some o → h'.get? b = some o) →
      R (.ok (.ret .none)) { s with heap := h', toks := tk' }) :
    codeAny (model PR w) A (.call (.ref 38) ⟨[.ref e, msg, .int k tk], []⟩) R s := by
  have hn : ∀ q ∈ [(e, excO t0)], s.heap.get? q.1 = some q.2 ∧ h₀.get? q.1 = none := news1 ⟨he, he0⟩
  refine ks_codeAny_call_defAt (binds := [(Str.ofString "self", .ref e), (Str.ofString "what", msg), (Str.ofString "at", .int k tk)]) hroom ((X.keeps kh) 38 _ (by k_is)) rfl (T.nolimit.keeps kh) (codeRec_of (X.keeps kh) (by k_is)) rfl ?hbind (by decide) ?hloc (fun h₁ hns hk₁ => ?_) rfl rfl rfl
  case hbind => exact binds_K (X.keeps kh) rfl (by k_is) rfl rfl rfl
  case hloc => exact locs rfl
  have st := ground kh hn
  have F : Fr (hideAll s.heap ([(e, excO t0)].map (·.1))) s.heap.objs.size h₁ (fun y => List.lookup y [(Str.ofString "at", .int k tk), (Str.ofString "what", msg), (Str.ofString "self", .ref e)]) := ⟨hns, fun b o e => hk₁ b o (of_hideAll _ e), Nat.le_of_eq (hideAll_size _ _)⟩
  have N : News (hideAll s.heap ([(e, excO t0)].map (·.1))) s.heap.objs.size h₁ [(e, excO t0)] := fun q hq => ⟨hk₁ _ _ (hn q hq).1, Nat.ne_of_lt (Heap.lt_size (hn q hq).1), hideAll_none _ (List.mem_map_of_mem hq)⟩
  have X' := X.keeps st
  have T' := T.keeps st
  clear hns
  show _root_.PySem.wpAt _ (A.deeper (ksEnv (Str.ofString "ShapeError.__init__") _ s.heap.objs.size 38 (.ref 37) 25)) (.func _ (ksEnv (Str.ofString "ShapeError.__init__") _ s.heap.objs.size 38 (.ref 37) 25)) (execs _ (ksEnv (Str.ofString "ShapeError.__init__") _ s.heap.objs.size 38 (.ref 37) 25)) _ _ _
  refine ks_wpAt_execs_cons (ks_wpAt_Expr_any (ks_wpAt_MethodCall ?_))
  k_dflt (refine ks_node F X' N T' (by k_is) (by rfl) (by rfl) (show InstAt _ e (excO t0) 61 none from ⟨(N _ (List.Mem.head _)).1, rfl, rfl, trivial⟩) (by k_is) (by rfl) (by first | rfl | decide +kernel) (by k_is) (by k_is) (by k_is) (by k_is) (by decide) (by rfl) (by rfl) (by rfl) (by rfl) (by decide +kernel) (by first | boot_by_name | rfl | kernel_rfl) ?_)
  intro so h2 F2 N2 hlt
  have he61 : e ≠ 61 := by
    rintro rfl
    obtain ⟨nm, q, N, bs, hdct, sn, sub, ab, col, dd, k0, k1, k2, k3, k5, hC⟩ := fault_cls X
    rw [he0] at hC; exact nos hC
  refine super_method (X'.keeps F2.keep) (N2 _ (List.Mem.tail _ (List.Mem.head _))).1 rfl he61 (N2 _ (List.Mem.head _)).1 ?_
  have F3 := F2.push (mwO e)
  have N3 := N2.push F2 (mwO e)
  generalize hmw : h2.objs.size = mw at F3 N3
  refine callWith_of (P := fun h' => h'.get? mw = some (mwO e)) rfl (fun h' hh => ⟨.machine, .inr (.inl rfl), (Looks.ld (part := none) hh).andThen .now⟩) ?_
  show wpAny _ _ (evalArgs (.ref _) true ((false, eval _ _) :: []) []) _ _ _
  refine evalArgs_plain (Calls.spliced_cons ?_)
  refine nameX_L F3 (v := msg) rfl ?_
  refine Calls.spliced_nil ⟨?_, ?_⟩
  · subst hmw; exact (N3 _ (List.Mem.head _)).1
  show wpAny _ _ (call (.ref _) [msg] []) _ _ _
  refine mw_call (t0 := t0) (X'.keeps F3.keep) (by subst hmw; exact (N3 _ (List.Mem.head _)).1) (N3 _ (List.Mem.tail _ (List.Mem.tail _ (List.Mem.head _)))).1 ?_
  have F4 := F3.push (tupO [msg])
  have N4 := N3.push F3 (tupO [msg])
  have U := news_upd (pre := [((h2.push (mwO e)).objs.size, tupO [msg]), (mw, mwO e), (so, ks_superObj 48 e 61)]) (post := []) (d := e) (o := excO t0) (o' := excO (h2.push (mwO e)).objs.size)
    (f := Obj.mapFields (·.setIfInBounds 0 (.ref (h2.push (mwO e)).objs.size))) F4 N4 ?hpre nil_all rfl rfl
  case hpre =>
    have hle : e < h2.objs.size := Heap.lt_size (N2 _ (List.Mem.tail _ (List.Mem.head _))).1
    have hso := hlt (e, excO t0) (List.Mem.head _)
    refine newsC ?_ (newsC ?_ (news1 ?_))
    · show (h2.push (mwO e)).objs.size ≠ e
      rw [Heap.size_push]
      exact Nat.ne_of_gt (Nat.lt_succ_of_lt hle)
    · exact hmw ▸ Nat.ne_of_gt hle
    · exact Nat.ne_of_gt hso
  (refine ob0_2 U fun F5 N5 => ?_; try clear U)
  subst hmw
  show _root_.PySem.wpAt _ _ _ _ _ _ ⟨((h2.push (mwO e)).push (tupO [msg])).update e (Obj.mapFields (·.setIfInBounds 0 (.ref (h2.push (mwO e)).objs.size))), _, _, _, _⟩
  generalize ((h2.push (mwO e)).push (tupO [msg])).update e (Obj.mapFields (·.setIfInBounds 0 (.ref (h2.push (mwO e)).objs.size))) = h5 at F5 N5 ⊢
  generalize (h2.push (mwO e)).objs.size = t1 at N5
  generalize h2.objs.size = mw at N5
  clear F3 N3 F4 N4 F2 N2 F N
  refine wpAt_of_wpAny ?_
  have keep5 : ∀ b o, b ≠ e → s.heap.get? b = some o → h5.get? b = some o := fun b o hb q => F5.keep b o (hideAll_get _ q (by simpa using hb))
  walk_at "MY steps"
  have e5 : h5.get? e = some (excO t1) := (N5 (e, excO t1) (by simp)).1
  have I5 : h5.Inst e 61 (fun _ => none) := ⟨_, e5, rfl, (fun c q => by cases q), .inl ⟨rfl, fun _ => rfl⟩⟩
  refine exc_store (ns := []) (X'.keeps F5.keep) (by k_is) I5 (fun h6 tk6 I6 K6 E6 => ?_) PySem.Within.nil (by decide)
  (refine ob1_4 (E6 _ e5) fun dx e6 hdx hd6 ns6 => ?_)
  have hd6n : h5.get? dx = none := by
    rcases hd6 with q | q
    · exact nos q
    · exact q.2
  have keep6 : ∀ b o, b ≠ e → h5.get? b = some o → h6.get? b = some o := fun b o hb q => K6 b o hb (fun o₀ d' q1 q2 => by rw [e5] at q1; obtain rfl := Option.some.inj q1; exact nos q2) q
  have F6 : Fr (hideAll s.heap ([(e, excO t0)].map (·.1))) s.heap.objs.size h6 (fun y => List.lookup y [(Str.ofString "at", .int k tk), (Str.ofString "what", msg), (Str.ofString "self", .ref e)]) :=
    ⟨F5.ns.at' fun o q => keep6 _ o (fun z => by rw [← z] at he; exact absurd (Heap.lt_size he) (Nat.lt_irrefl _)) q, fun b o q => keep6 b o (fun z => by subst z; rw [hideAll_none _ (by simp)] at q; exact nos q) (F5.keep b o q), F5.above⟩
  have hLd : s.heap.objs.size ≠ dx := fun z => by
    (refine ob3_2 F5.ns fun oL _ _ hL _ => ?_)
    rw [z, hd6n] at hL; exact nos hL
  have N6 : News (hideAll s.heap ([(e, excO t0)].map (·.1))) s.heap.objs.size h6 [] := News.nil
  clear F5 N5 K6 E6 I5
  try dsimp only
  walk_at "MY steps"
  refine exc_store (ns := [Str.ofString "what"]) (X'.keeps F6.keep) (by k_is) I6 (fun h7 tk7 I7 K7 E7 => ?_) (Within.cons _ _ PySem.Within.nil) (by decide)
  (refine ob1_4 (E7 _ e6) fun dy e7 hdy hd7 ns7 => ?_)
  have hdd : dy = dx := by
    rcases hd7 with q | q
    · exact (Option.some.inj q).symm
    · cases q.1
  subst hdd
  have keep7 : ∀ b o, b ≠ e → h6.get? b = some o → b ≠ dy → h7.get? b = some o := fun b o hb q hd => K7 b o hb (fun o₀ d' q1 q2 => by rw [e6] at q1; obtain rfl := Option.some.inj q1; obtain rfl := Option.some.inj q2; exact hd) q
  refine wpAny_execs_nil ?_
  have hdn : s.heap.get? dy = none := by
    cases z : s.heap.get? dy with
    | none => rfl
    | some o => have := keep5 dy o hdx z; rw [hd6n] at this; exact nos this
  refine hR h7 dy t1 _ _ e7 hdx hdn ns7 (if_pos rfl) fun b o hb q => keep7 b o hb (keep6 b o hb (keep5 b o hb q)) fun z => ?_
  subst z
  rw [hdn] at q; exact nos q
end
end
section
theorem top_X5 : True := by w_top off; exact True.intro
def FaultAt (h : Heap) (e d : Addr) (k : Int) : Prop :=
  ∃ t1 md tk, h.get? e = some { excO t1 with dict := some d } ∧ h.Ns1 d md ∧ md "at" = some (.int k tk)
section
variable {w : World} {A : Around} {E : Value → Shared → Prop} {s : Shared} {h₀ : Heap} {msg : Value} {k : Int} {tk : Tok} {p : Program} {loose : List Str} {mean : ExcName → Option Value} {mg mb : Str → Option Value}
theorem fault_spec {Q : Value → Shared → Prop} (kh : ∀ b o, h₀.get? b = some o → s.heap.get? b = some o) (X : (Mine.hd.heap_39 w.params).In h₀) (T : Top p loose mean mg mb h₀) (hA : A.depth ≤ 950)
    (hQ : ∀ e d h' tk', s.heap.get? e = none → s.heap.get? d = none → d ≠ e → FaultAt h' e d k → (∀ b o, s.heap.get? b = some o → h'.get? b = some o) → Q (.ref e) { s with heap := h', toks := tk' }) :
    wpAny (model PR w) A (call (.ref 61) [msg, .int k tk]) Q E s := by
  obtain ⟨h, g, d, t, os⟩ := s
  refine wpAny_call (fault_make (X.keeps kh) (by show 2 ≤ sizeLine; rw [sizeLine_eq]; omega) ?_)
  have kp : ∀ b o, h.get? b = some o → ((h.push (tupO [msg, .int k tk])).push (excO h.objs.size)).get? b = some o := fun b o e => Heap.get?_push_of_some _ (Heap.get?_push_of_some _ e)
  have he : ((h.push (tupO [msg, .int k tk])).push (excO h.objs.size)).get? (h.objs.size + 1) = some (excO h.objs.size) := by heap_get
  have hen : h.get? (h.objs.size + 1) = none := Heap.get?_none_of_le (Nat.le_succ _)
  have he0 : h₀.get? (h.objs.size + 1) = none := by
    cases z : h₀.get? (h.objs.size + 1) with
    | none => rfl
    | some o => have := kh _ _ z; rw [hen] at this; exact nos this
  refine init_spec (h₀ := h₀) (t0 := h.objs.size) (fun b o q => kp b o (kh b o q)) X T ?_ he he0 fun h' d' t1 tk' md e1 e2 e3 e4 e5 e6 => ⟨rfl, ?_⟩
  · show A.depth + _ < _
    have : (Code.builtin "type.__call__" { pos := Value.ref 61 :: [msg, Value.int k tk] }).weight = 1 := by rfl
    rw [this]
    show A.depth + 1 < 1000
    omega
  · have hdn : h.get? d' = none := by
      cases z : h.get? d' with
      | none => rfl
      | some o => have := kp _ _ z; rw [e3] at this; exact nos this
    exact hQ _ d' h' tk' hen hdn e2 ⟨t1, md, tk, e1, e4, e5⟩ fun b o q => e6 b o (fun z => by subst z; rw [hen] at q; exact nos q) (kp b o q)
end
end
section
theorem top_X6 : True := by w_top off; exact True.intro
theorem dict_mf (o : Obj) (f : Array Value → Array Value) : (Obj.mapFields f o).dict = o.dict := by
  (first | (refine ob3_1 o fun c d dt sl => ?_; try clear o) | (refine ob2_2 o fun c d dt sl => ?_; try clear o) | (refine ob1_3 o fun c d dt sl => ?_; try clear o) | (refine ob0_4 o fun c d dt sl => ?_; try clear o) | (obtain ⟨c, d, dt, sl⟩ := o))
  cases dt <;> rfl
def Has (h : Heap) (e d : Addr) (vs : Array Value) : Prop := ∃ oe, h.get? e = some oe ∧ oe.cls = .ref 61 ∧ oe.dict = some d ∧ oe.data = .fields vs
def Tb (B h : Heap) (e d : Addr) (fl : Value) : Prop :=
  ∃ vs T oT ts, Has h e d vs ∧ vs[1]? = some (.ref T) ∧ B.get? T = none ∧ T ≠ e ∧ h.get? T = some oT ∧ oT.data = .fields ts ∧ ts[3]? = some fl
def Fly (B : Heap) (l : List Env) (e d : Addr) (fl : Value) (h : Heap) : Prop := B.StaysIn h ∧ B.get? e = none ∧ h.FunFrames B l ∧ Tb B h e d fl
theorem Fly.cut {B h : Heap} {env : Env} {l : List Env} {e d : Addr} {fl : Value} (x : Fly B (env :: l) e d fl h) : Fly B l e d fl h := ⟨x.1, x.2.1, x.2.2.1.2.2, x.2.2.2⟩
theorem Fly.there {B h : Heap} {l : List Env} {e d : Addr} {fl : Value} (x : Fly B l e d fl h) : ∃ oe vs, h.get? e = some oe ∧ oe.cls = .ref 61 ∧ oe.dict = some d ∧ oe.data = .fields vs := by
  obtain ⟨_, _, _, vs, _, _, _, ⟨oe, h1, h2, h3, h4⟩, _⟩ := x
  exact mk2_4 oe vs h1 h2 h3 h4
section
variable {M : Model} {A : Around} {E : Value → Shared → Prop} {s : Shared} {B : Heap} {env : Env} {outer : List Env} {L e d : Addr} {vs : Array Value} {Q : Unit → Shared → Prop}
theorem fly_entry {head : Value} {hadNext : Bool} (hfr : A.frames = some (env :: outer)) (hf : env.frame = some L) (hb : B.StaysIn s.heap) (hen : B.get? e = none) (hl : s.heap.FunFrames B (env :: outer))
    (hx : Has s.heap e d vs) (hsz : 1 < vs.size) (h : ∀ h', Fly B (env :: outer) e d (rawInt L) h' → s.heap.UpToSlots h' → Q () { s with heap := h' }) :
    wpAny M A (do let a ← frameOf env; let pl ← entryPlaceOf L hadNext; let b ← EntryCells.newEntry head a .none (rawInt L) .none pl; setField (.ref e) 1 b) Q E s := by
  (refine ob1_4 hx fun oe he hc hdi hd => ?_; try clear hx)
  have recd : ∀ b o, s.heap.get? b = some o → (∀ ws, o.data ≠ .fields ws) → b ≠ e := fun b o q hn z => by
    subst z; rw [he] at q; obtain rfl := Option.some.inj q; exact hn _ hd
  refine wpAny_bind (wpAny_frameOf_fun hfr hl hf fun h₁ S => ?_)
  refine wpAny_bind (wpAny_entryPlaceOf fun pl hpl => ?_)
  have he₁ : h₁.get? e = some oe := (S.2.1 e fun hm => by
    obtain ⟨_, o, ho, hn⟩ := hl.mem hm
    exact recd _ _ ho hn rfl).trans he
  have kb : B.StaysIn h₁ := fun b o q => (S.2.1 b fun hm => by rw [(hl.mem hm).1] at q; exact nos q).trans (hb b o q)
  unfold EntryCells.newEntry newFields
  refine wpAny_bind (wpAny_newObj_type ?_ (hpl.sizeOk5 _ _ _ _ _))
  generalize hT : ({ cls := .type "traceback", dict := none, data := .fields ([head, .ref L, .none, rawInt L, .none] ++ (if pl.isEmpty then List.replicate 6 Value.none else pl)).toArray } : Obj) = oT
  have eT : oT.data = .fields ([head, .ref L, .none, rawInt L, .none] ++ (if pl.isEmpty then List.replicate 6 Value.none else pl)).toArray := by rw [← hT]
  refine wpAny_setField (Heap.get?_push_of_some oT he₁) hd hsz (h _ ?_ ?_)
  all_goals
    have hTe : h₁.objs.size ≠ e := Nat.ne_of_gt (Heap.lt_size he₁)
    have kp : ∀ b o, b ≠ e → h₁.get? b = some o → ((h₁.push oT).update e (Obj.mapFields (·.setIfInBounds 1 (.ref h₁.objs.size)))).get? b = some o := fun b o hbe q =>
      (Heap.get?_update_other _ _ (Ne.symm hbe)).trans (Heap.get?_push_of_some _ q)
  · have e3 := Obj.data_mapFields hd (·.setIfInBounds 1 (Value.ref h₁.objs.size))
    refine ⟨fun b o q => kp b o (fun z => by subst z; rw [hen] at q; exact nos q) (kb b o q), hen, hl.of_keeps fun b o q hn => ?_, _, h₁.objs.size, oT, _,
      ⟨_, Heap.get?_update_self _ (Heap.get?_push_of_some oT he₁) (Obj.isFreed_of_fields e3), (Obj.cls_mapFields _ _).trans hc, (dict_mf _ _).trans hdi, e3⟩, by simp [hsz], kb.fresh, hTe,
      (Heap.get?_update_other _ _ (Ne.symm hTe)).trans (Heap.get?_push_size h₁ (Obj.isFreed_of_fields eT)), eT, by simp⟩
    (refine ob1_1 (S.2.2 b o q) fun sl hs => ?_)
    exact mk1_2 _ (kp b _ (recd b o q hn) hs) rfl
  · intro b o q hn
    (refine ob1_1 (S.2.2 b o q) fun sl hs => ?_)
    exact ⟨sl, kp b _ (recd b o q hn) hs⟩


theorem fly_flight (fr : Option Addr) {fl : Value} {l : List Env} (x : Fly B l e d fl s.heap) (h : ∀ h', Fly B l e d (fr.elim .none fun f => rawInt f) h' → s.heap.UpToSlots h' → Q () { s with heap := h' }) : wpAny M A (setFlight (.ref e) fr) Q E s := by
  obtain ⟨x1, x2, x3, vs, T, oT, ts, ⟨oe, he, hc, hdi, hd⟩, h1, hTB, hTe, hT, hdT, h3⟩ := x
  unfold setFlight
  refine wpAny_bind (wpAny_field he hd h1 ?_)
  rw [if_pos (show (Value.ref T != Value.none) = true from by simp)]
  have e3 := Obj.data_mapFields hdT (·.setIfInBounds 3 (fr.elim Value.none fun f => rawInt f))
  have oth : ∀ b, b ≠ T → (s.heap.update T (Obj.mapFields (·.setIfInBounds 3 (fr.elim Value.none fun f => rawInt f)))).get? b = s.heap.get? b := fun b hb => Heap.get?_update_other _ _ (Ne.symm hb)
  have recd : ∀ b o, s.heap.get? b = some o → (∀ ws, o.data ≠ .fields ws) → b ≠ T := fun b o q hn z => by
    subst z; rw [hT] at q; obtain rfl := Option.some.inj q; exact hn _ hdT
  have hs3 := (Array.getElem?_eq_some_iff.mp h3).1
  refine wpAny_setField hT hdT hs3 (h _ ⟨fun b o q => (oth b fun z => by subst z; rw [hTB] at q; exact nos q).trans (x1 b o q), x2, x3.of_keeps fun b o q hn => ⟨o, (oth b (recd b o q hn)).trans q, rfl⟩, vs, T, _, _,
    ⟨oe, (oth e (Ne.symm hTe)).trans he, hc, hdi, hd⟩, h1, hTB, hTe, Heap.get?_update_self _ hT (Obj.isFreed_of_fields e3), e3, by simp [hs3]⟩ fun b o q hn => ⟨o.slots, (oth b (recd b o q hn)).trans q⟩)

theorem fly_note0 (hfr : A.frames = some (env :: outer)) (hf : env.frame = some L) (hb : B.StaysIn s.heap) (hen : B.get? e = none) (hl : s.heap.FunFrames B (env :: outer))
    (hx : Has s.heap e d vs) (h1 : vs[1]? = some .none) (h : ∀ h', Fly B (env :: outer) e d (rawInt L) h' → s.heap.UpToSlots h' → Q () { s with heap := h' }) : wpAny M A (noteFrame (.ref e) env) Q E s := by
  (refine ob1_4 hx fun oe he hc hdi hd => ?_; try clear hx)
  unfold noteFrame
  simp only [hf]
  refine wpAny_bind (wpAny_field he hd h1 ?_)
  rw [if_neg (by decide)]
  exact fly_entry hfr hf hb hen hl ⟨oe, he, hc, hdi, hd⟩ (Array.getElem?_eq_some_iff.mp h1).1 h
theorem fly_note {fl : Value} (hfr : A.frames = some (env :: outer)) (hf : env.frame = some L) (x : Fly B (env :: outer) e d fl s.heap)
    (h : ∀ h', Fly B (env :: outer) e d (rawInt L) h' → s.heap.UpToSlots h' → Q () { s with heap := h' }) : wpAny M A (noteFrame (.ref e) env) Q E s := by
  have x' := x
  obtain ⟨x1, x2, x3, vs, T, oT, ts, ⟨oe, he, hc, hdi, hd⟩, h1, hTB, hTe, hT, hdT, h3⟩ := x
  unfold noteFrame
  simp only [hf]
  refine wpAny_bind (wpAny_field he hd h1 ?_)
  rw [if_pos (show (Value.ref T != Value.none) = true from by simp)]
  refine wpAny_bind (wpAny_field hT hdT h3 ?_)
  by_cases hfl : fl = rawInt L
  · subst hfl
    rw [if_pos (show (rawInt L == rawInt L) = true from by simp)]
    exact wpAny_pure (h _ x' (Heap.UpToSlots.refl _))
  rw [if_neg (show ¬ ((fl == rawInt L) = true) from by simpa using hfl)]
  have oth : ∀ b, b ≠ T → (s.heap.update T (Obj.mapFields (·.setIfInBounds 3 Value.none))).get? b = s.heap.get? b := fun b hb => Heap.get?_update_other _ _ (Ne.symm hb)
  have recd : ∀ b o, s.heap.get? b = some o → (∀ ws, o.data ≠ .fields ws) → b ≠ T := fun b o q hn z => by
    subst z; rw [hT] at q; obtain rfl := Option.some.inj q; exact hn _ hdT
  refine wpAny_bind (wpAny_setField hT hdT (Array.getElem?_eq_some_iff.mp h3).1 ?_)
  refine fly_entry (B := B) hfr hf (fun b o q => (oth b fun z => by subst z; rw [hTB] at q; exact nos q).trans (x1 b o q)) x2 (x3.of_keeps fun b o q hn => ⟨o, (oth b (recd b o q hn)).trans q, rfl⟩)
    ⟨oe, (oth e (Ne.symm hTe)).trans he, hc, hdi, hd⟩ (Array.getElem?_eq_some_iff.mp h1).1 fun h' f k => h h' f fun b o q hn => k b o ((oth b (recd b o q hn)).trans q) hn
theorem fly_leave0 (hfr : A.frames = some (env :: outer)) (hf : env.frame = some L) (hb : B.StaysIn s.heap) (hen : B.get? e = none) (hl : s.heap.FunFrames B (env :: outer))
    (hx : Has s.heap e d vs) (h1 : vs[1]? = some .none) (h : ∀ h', Fly B outer e d .none h' → s.heap.UpToSlots h' → Q () { s with heap := h' }) : wpAny M A (leaving env (.ref e)) Q E s :=
  wpAny_bind (fly_note0 hfr hf hb hen hl hx h1 fun _ f1 k1 => fly_flight none f1 fun h2 f2 k2 => h h2 f2.cut (k1.trans k2))
theorem fly_leave {fl : Value} (hfr : A.frames = some (env :: outer)) (hf : env.frame = some L) (x : Fly B (env :: outer) e d fl s.heap)
    (h : ∀ h', Fly B outer e d .none h' → s.heap.UpToSlots h' → Q () { s with heap := h' }) : wpAny M A (leaving env (.ref e)) Q E s :=
  wpAny_bind (fly_note hfr hf x fun _ f1 k1 => fly_flight none f1 fun h2 f2 k2 => h h2 f2.cut (k1.trans k2))
theorem fly_pass {α : Type} {fl : Value} {l : List Env} {what : String} {E : Value → Shared → Prop} {Q : α → Shared → Prop} (x : Fly B l e d fl s.heap) (h : ∀ h' fl', Fly B l e d fl' h' → s.heap.UpToSlots h' → E (.ref e) { s with heap := h' }) :
    wpAny M A (PySem.passOn what (.ref e) env : Sem α) Q E s := by
  have x' := x
  obtain ⟨x1, x2, x3, vs, T, oT, ts, ⟨oe, he, hc, hdi, hd⟩, h1, hTB, hTe, hT, hdT, h3⟩ := x
  unfold PySem.passOn
  refine wpAny_bind (wpAny_field he hd h1 ?_)
  rw [if_neg (show ¬ ((Value.ref T == Value.none) = true) from by simp)]
  exact wpAny_bind (fly_flight env.frame x' fun h' f k => wpAny_throw (h h' _ f k))
end
end
section
theorem top_X7 : True := by w_top off; exact True.intro
def Raised (base : Heap) (l : List Env) (e : Addr) (k : Int) (h : Heap) : Prop :=
  ∃ B d md tk fl, base.StaysIn B ∧ Fly B l e d fl h ∧ B.Ns1 d md ∧ md "at" = some (.int k tk) ∧ base.get? d = none
theorem Raised.base {base base' h : Heap} {l : List Env} {e : Addr} {k : Int} (x : Raised base l e k h) (hb : base'.StaysIn base) : Raised base' l e k h := by
  (refine ob5_5 x fun B d md tk fl h1 h2 h3 h4 h5 => ?_; try clear x)
  exact ⟨B, d, md, tk, fl, fun b o q => h1 b o (hb b o q), h2, h3, h4, by
    cases z : base'.get? d with
    | none => rfl
    | some o => have := hb _ _ z; rw [h5] at this; cases this⟩
section
variable {M : Model} {A : Around} {E : Value → Shared → Prop} {s' : Shared} {base g g₂ h : Heap} {outer : List Env} {L a e d : Addr} {k : Int} {m : Str → Option Value} {name : Str} {scope : Scope} {cl : List (Str × Addr)} {cd : Value} {Q : Unit → Shared → Prop}
theorem pushX (K : Below A base outer g) (F : Fr g L h m) (hk : scope.kind = .function := by rfl) : Below (A.deeper (envX name scope L a cd cl)) base (envX name scope L a cd cl :: outer) h := by
  have hnew : base.get? L = none := by
    cases hq : base.get? L with
    | none => rfl
    | some o => exact absurd (Nat.lt_of_lt_of_le (Heap.lt_size (K.stays L o hq)) F.above) (Nat.lt_irrefl _)
  refine ⟨Around.frames_deeper K.stack, fun b o e => F.keep b o (K.stays b o e), ?_⟩
  exact .cons (by show scope.kind ≠ .module; rw [hk]; decide) rfl F.ns hnew (K.frames.of_keeps fun b o e _ => ⟨o, F.keep b o e, rfl⟩)
theorem leave_made (K : Below A base outer g) (F : Fr g L h m) (hf : FaultAt s'.heap e d k) (hen : h.get? e = none) (hdn : h.get? d = none) (hde : d ≠ e) (hk : ∀ b o, h.get? b = some o → s'.heap.get? b = some o)
    (hQ : ∀ h', Raised base outer e k h' → g.UpToSlots h' → Q () { s' with heap := h' }) (hkn : scope.kind = .function := by rfl) :
    wpAny M (A.deeper (envX name scope L a cd cl)) (leaving (envX name scope L a cd cl) (.ref e)) Q E s' := by
  have K' := pushX (name := name) (a := a) (cd := cd) (cl := cl) K F hkn
  (refine ob3_3 hf fun t1 md tk he hns hat => ?_; try clear hf)
  generalize hfs : (envX name scope L a cd cl :: outer).filterMap (·.frame) = fs
  have hin : ∀ env ∈ (envX name scope L a cd cl :: outer), ∀ b, env.frame = some b → b ∈ e :: fs := fun env q b hb => List.mem_cons_of_mem _ (hfs ▸ List.mem_filterMap.mpr ⟨env, q, hb⟩)
  have ben : base.get? e = none := by
    cases z : base.get? e with
    | none => rfl
    | some o => have := K'.stays _ _ z; rw [hen] at this; exact nos this
  have bdn : base.get? d = none := by
    cases z : base.get? d with
    | none => rfl
    | some o => have := K'.stays _ _ z; rw [hdn] at this; exact nos this
  have st : base.StaysIn (hideAll s'.heap (e :: fs)) := fun b o q => hideAll_get _ (hk _ _ (K'.stays b o q)) fun hm => by
    rcases List.mem_cons.mp hm with rfl | hm
    · rw [ben] at q; exact nos q
    · rw [(K'.frames.mem (hfs ▸ hm)).1] at q; exact nos q
  have hd : d ∉ e :: fs := fun hm => by
    rcases List.mem_cons.mp hm with z | hm
    · exact hde z
    · (refine ob1_2 ((K'.frames.mem (hfs ▸ hm)).2) fun o ho _ => ?_)
      rw [hdn] at ho; exact nos ho
  refine fly_leave0 (B := hideAll s'.heap (e :: fs)) (d := d) K'.stack rfl (fun b o q => of_hideAll _ q) (hideAll_none _ (List.Mem.head _)) (funFrames_hide (K'.frames.of_keeps fun b o q _ => ⟨o, hk b o q, rfl⟩) hin) ⟨_, he, rfl, rfl, rfl⟩ rfl fun h' f u => ?_
  exact hQ h' ⟨_, d, md, tk, _, st, f, hns.at fun o q => hideAll_get _ q hd, hat, bdn⟩ (((Heap.UpToSlots.of_keeps F.keep).trans (Heap.UpToSlots.of_keeps hk)).trans u)
theorem leave_on (K : Below A base outer g) (F : Fr g L g₂ m) (R : Raised base (envX name scope L a cd cl :: outer) e k s'.heap) (hsm : g₂.UpToSlots s'.heap)
    (hQ : ∀ h', Raised base outer e k h' → g.UpToSlots h' → Q () { s' with heap := h' }) :
    wpAny M (A.deeper (envX name scope L a cd cl)) (leaving (envX name scope L a cd cl) (.ref e)) Q E s' := by
  (refine ob5_1 R fun B d md tk fl q_13 => ob0_3 q_13 fun h1 h2 h3 => ?_; try clear R)
  exact fly_leave (Around.frames_deeper K.stack) rfl h2 fun h' f u => hQ h' ⟨B, d, md, tk, _, h1, f, h3⟩ ((Heap.UpToSlots.of_keeps F.keep).trans (hsm.trans u))
end
section
variable {w : World} {A : Around} {E : Value → Shared → Prop} {s : Shared} {base : Heap} {outer : List Env} {K : Frag} {p : Program} {loose : List Str} {mean : ExcName → Option Value} {mg mb : Str → Option Value}
  {name qual : Str} {params : Arguments} {body : List Stmt} {scope : Scope} {dV kV doc pm cdv ct oc : Value} {an od : Option Addr} {osl : Array (Option Value)} {f : Addr} {pos : List Value} {kw : List (Str × Value)} {binds rb : List (Str × Value)} {Q : Value → Shared → Prop}
theorem enter_r (B : Below A base outer s.heap) (X : K.In base) (T : Top p loose mean mg mb base)
    (ho : K.lookup f = some ⟨oc, od, .func (fnOf name qual params body scope dV kV doc pm an cdv ct), osl⟩) (hcd : codeIn K cdv qual = true) (hroom : A.depth < recursionLimit)
    (hbind : BindsTo s (fnOf name qual params body scope dV kV doc pm an cdv ct) ⟨pos, kw⟩ binds) (hloc : ∀ y ∈ binds, scope.names.lookup y.1 = some .local)
    (h : ∀ g L' h₁, g = s.heap → L' = s.heap.objs.size → Fr g L' h₁ (fun y => rb.lookup y) → News g L' h₁ [] → Below A base outer g → K.In g → Top p loose mean mg mb g →
      wpAny (model PR w) (A.deeper (envOf qual scope L' f cdv)) (execs body (envOf qual scope L' f cdv))
        (fun fl s' => Q (match fl with | .ret v => v | _ => .none) s')
        (fun e s' => wpAny (model PR w) (A.deeper (envOf qual scope L' f cdv)) (leaving (envOf qual scope L' f cdv) e) (fun _ s'' => E e s'') (fun e' s'' => E e' s'') s')
        { s with heap := h₁, toks := s.toks + binds.length })
    (hrb : binds.reverse = rb := by rfl) (hcell : ∀ x ∈ scope.names, x.2 ≠ .cell := by decide) (hco : scope.isCoroutine = false := by rfl) (hgen : scope.isGenerator = false := by rfl) (hk : scope.kind = .function := by rfl) :
    wpAny (model PR w) A (call (.ref f) pos kw) Q E s := by
  subst hrb
  refine wpAny_call ?_
  refine codeAny_call_def (fd := fnOf name qual params body scope dV kV doc pm an cdv ct) (body := body) (binds := binds) hroom ((X.keeps B.stays) _ _ ho) rfl (T.nolimit.keeps B.stays) (codeRec_of (X.keeps B.stays) hcd) rfl hbind hcell hloc (fun h₁ hns hk₁ => ?_) hco hgen hk
  refine wpAny_mono (h _ s.heap.objs.size h₁ rfl rfl ⟨hns, hk₁, Nat.le_refl _⟩ News.nil B (X.keeps B.stays) (T.keeps B.stays)) (fun fl s' hl => hl) fun _ _ y => y
end
end
local macro_rules | `(tactic| walk_at "MY steps") => `(tactic| repeat' (first | (walk1; (try dsimp only)) | fail "no step"))
section
theorem top_P1 : True := by w_top off; exact True.intro

def RaisesNow (w : World) (E : Value → Shared → Prop) (v : Value) (s₁ : Shared) : Prop := ∃ e d k, v = .ref e ∧ (Mine.hd.heap_39 w.params).In s₁.heap ∧ FaultAt s₁.heap e d k ∧ E (.ref e) s₁
theorem raise_fault {w : World} {A : Around} {E : Value → Shared → Prop} {s : Shared} {env : Env} {x : Sem Value} {Q : Flow → Shared → Prop} (hh : A.handled = none)
    (h : wpAny (model PR w) A x (RaisesNow w E) E s) :
    wpAny (model PR w) A (raiseStmt env (some x) none) Q E s := by
  unfold raiseStmt
  refine wpAny_bind (wpAny_mono h (fun v s₁ h₁ => ?_) fun _ _ x => x)
  (refine ob3_4 h₁ fun e d k e_14 X o_15 hE => ?_; try clear h₁; subst e_14; (refine ob3_3 o_15 fun t1 md tk he _ _ => ?_; try clear o_15))
  obtain ⟨nm, q, N, bs, hdct, sn, sub, ab, col, dd, k0, k1, k2, k3, k5, hC⟩ := fault_cls X
  obtain ⟨hp, g, d, tk, os⟩ := s₁
  repeat (first | with_reducible refine wpAny_loadPart_at he ?_ | with_reducible refine wpAny_loadPart_at hC ?_ | (with_reducible refine wpAny_isSubtype_exc hC ?_; rw [show List.contains (_ :: _) (Value.type "BaseException") = true from by decide +kernel]) | wp_step)
  exact wpAny_raiseNew_none hh hE
theorem Raise_fault {w : World} {A : Around} {E : Value → Shared → Prop} {s : Shared} {env : Env} {x : Expr} {pos : Pos} {Q : Flow → Shared → Prop} (hh : A.handled = none)
    (h : wpAny (model PR w) A (eval x env) (RaisesNow w E) E s) :
    wpAny (model PR w) A (exec (.Raise (some x) none pos) env) Q E s := by
  rw [arm_exec_Raise]
  first
    | exact wpAny_bind (wpAny_standAt (raise_fault hh (wpAny_bind (wpAny_mono h (fun v s₁ h₁ => wpAny_bind (wpAny_standAt (wpAny_pure h₁))) fun _ _ x => x))))
    | (simp only [evalOpt, Option.map]; exact wpAny_bind (wpAny_standAt (raise_fault hh (wpAny_bind (wpAny_mono h (fun v s₁ h₁ => wpAny_bind (wpAny_standAt (wpAny_pure h₁))) fun _ _ x => x)))))
    | (show wpAny _ A (do standAt pos; raiseStmt env (some (do let v ← eval x env; standAt pos; pure v)) none) Q E s; exact wpAny_bind (wpAny_standAt (raise_fault hh (wpAny_bind (wpAny_mono h (fun v s₁ h₁ => wpAny_bind (wpAny_standAt (wpAny_pure h₁))) fun _ _ x => x)))))
end
section
theorem top_P2 : True := by w_top off; exact True.intro
theorem room64 {A : Around} {env : Env} (h : A.units ≤ 2000) : (A.deeper env).units + 64 < cLine := by
  rw [units_deeper]; show _ < 9900; omega
end
local macro_rules | `(tactic| ke_room) => `(tactic| exact room64 (by omega))
section
theorem okStrs {l : List Str} {p : Str → Bool} (h : ∀ c ∈ l, PyData.strOk c = true) : ∀ d ∈ (l.filter p).map Dat.str, kqdOk 8 d = true := fun d hd => by
  (refine ob1_2 (List.mem_map.mp hd) fun x hx e_16 => ?_; subst e_16)
  exact h x (List.mem_filter.mp hx).1
end
local macro_rules | `(tactic| kqd_ok) => `(tactic| with_reducible exact okStrs (by assumption))
section
theorem dats_of {vs : List Value} {ys : List Str} : CarriedAll vs (ys.map PyData.str) → DatAll [] vs (ys.map Dat.str) := by
  induction ys generalizing vs with
  | nil => intro h; cases h; exact .nil
  | cons y r ih => intro h; cases h with | cons a b => cases a; exact .cons (.str _ _) (ih b)
def pzOf (al c : Str) : Bool := !(!(Builtin.Str.occurrences al c 0 al.length 1).isEmpty)
theorem strcomp (al : Str) {w : World} {A : Around} {E : Value → Shared → Prop} {s : Shared} {g : Heap} {L : Addr} {m : Str → Option Value} {news : Led} {env : Env} {elt : Expr} {x : Str} {ifs : List Expr} {scope : Scope} {Q : Value → Shared → Prop} {y : Str} {t : Tok}
    (F : Fr g L s.heap m) (N : News g L s.heap news) (hh : A.handled = none) (hy : y.length ≤ sizeLine)
    (g1 : ∀ C a t s₂ m₂ E', s₂.heap.Ns (compEnv scope C env).locals m₂ → m₂ x = some (.str a t) → Fr g L s₂.heap m →
        wpAny (model PR w) A (forIn ifs true fun c r => if r = true then do let ok ← isTrue c (compEnv scope C env) (eval c (compEnv scope C env)); pure (ForInStep.yield ok) else pure (ForInStep.yield r))
          (fun ok s₃ => ok = pzOf al a ∧ Keeps s₂ s₃) E' s₂)
    (g2 : ∀ C a t s₂ m₂ E', s₂.heap.Ns (compEnv scope C env).locals m₂ → m₂ x = some (.str a t) → Fr g L s₂.heap m → wpAny (model PR w) A (eval elt (compEnv scope C env)) (fun r s₃ => Carried r (.str a) ∧ Keeps s₂ s₃) E' s₂)
    (g3 : ∀ D vs n h' tk, Fr g L h' m → News g L h' ((D, listOf vs.toArray n) :: news) → DatAll [] vs (((signs y).filter (pzOf al)).map Dat.str) → (∀ q ∈ news, q.1 ≠ D) → Q (.ref D) { s with heap := h', toks := tk }) :
    wpAny (model PR w) A (pyIter (.str y t)) (CompPost PR w A env scope x ifs elt Q) E s := by
  unfold CompPost
  refine wpAny_pyIter_str fun o St W hst => ?_
  have up : ∀ (h' : Heap), (∀ b o', b ∉ [s.heap.objs.size] → (s.heap.push o).get? b = some o' → h'.get? b = some o') → ∀ b o', s.heap.get? b = some o' → h'.get? b = some o' :=
    fun h' hk b o' e => hk b o' (by simpa using Nat.ne_of_lt (Heap.lt_size e)) (Heap.get?_push_of_some _ e)
  refine ⟨ItemKind.str.lift (pzOf al), fun v r => ∃ a, ItemKind.str.is a v ∧ Carried r (PyData.str a), s.heap.objs.size, [s.heap.objs.size], [s.heap.objs.size], y.cps.size, SignAt y, St, rfl, W A hh, hy, hst, ?_, ⟨?_, ?_⟩, ?_⟩
  · intro b hb
    rw [List.mem_singleton.mp hb]
    show _ < (s.heap.push o).objs.size
    rw [Heap.size_push]
    exact Nat.lt_succ_self _
  · intro C i v s₃ m₃ E' hP hn hm hk _
    (refine ob2_2 hP fun c u _ e_17 => ?_; try clear hP; subst e_17)
    rw [ItemKind.lift_is (K := ItemKind.str) (a := ⟨#[c]⟩) ⟨u, rfl⟩]
    exact g1 C _ _ s₃ m₃ E' hn hm (F.keeps (up _ hk))
  · intro C i v s₃ m₃ E' hP _ hn hm hk _
    (refine ob2_2 hP fun c u _ e_18 => ?_; try clear hP; subst e_18)
    exact wpAny_mono (g2 C _ _ s₃ m₃ E' hn hm (F.keeps (up _ hk))) (fun r s₄ h₄ => ⟨⟨_, ⟨u, rfl⟩, h₄.1⟩, h₄.2⟩) fun _ _ e => e
  · intro D h' tk ys vs hnew hlD hplD hlen hP hF hk
    (refine ob1_1 hplD fun n e => ?_; try clear hplD)
    have hne : ∀ b o', s.heap.get? b = some o' → b ≠ D := fun b o' q z => by subst z; rw [Heap.get?_push_of_some _ q] at hnew; exact nos' hnew
    have hgD : g.get? D = none := by
      cases z : g.get? D with
      | none => rfl
      | some o' => exact absurd rfl (hne _ _ (F.keep _ _ z))
    (refine ob3_2 F.ns fun oL _ _ hL _ => ?_)
    refine g3 D ys.toList n h' tk (F.keeps (up h' hk)) (newsC ⟨by simpa using e, (hne _ _ hL).symm, hgD⟩ (N.grown (up h' hk))) (dats_of ((areOf_signs hlen hP).paired (pzOf al) PyData.str _ hF)) fun q hq => hne _ _ (N q hq).1
theorem num_hn {word : Str} {n : Int} (h : (word == Str.ofString "") = false → (signs word).filter (pzOf (Str.ofString "0123456789")) = [] → PySem.intText? word = some n) (h1 : (word == Str.ofString "") = false)
    (h2 : decide (List.map Dat.str (List.filter (pzOf (Str.ofString "0123456789")) (signs word)) = []) = true) : PySem.intText? word = some n := h h1 (List.map_eq_nil_iff.mp (of_decide_eq_true h2))
theorem fault_led {w : World} {A : Around} {E : Value → Shared → Prop} {s : Shared} {g : Heap} {L : Addr} {env : Env} {m : Str → Option Value} {msg : Value} {k : Int} {tk : Tok} {p : Program} {loose : List Str} {mean : ExcName → Option Value} {mg mb : Str → Option Value}
    (F : Fr g L s.heap m) (X : (Mine.hd.heap_39 w.params).In g) (T : Top p loose mean mg mb g) (hA : A.depth ≤ 940)
    (hQ : ∀ e d h' tk', s.heap.get? e = none → s.heap.get? d = none → d ≠ e → FaultAt h' e d k → (∀ b o, s.heap.get? b = some o → h'.get? b = some o) → E (.ref e) { s with heap := h', toks := tk' }) :
    wpAny (model PR w) (A.deeper env) (call (.ref 61) [msg, .int k tk]) (RaisesNow w E) E s := fault_spec F.keep X T (show A.depth + 1 ≤ 950 by omega) fun e d h' tk' a1 a2 a3 a4 a5 => ⟨e, d, k, rfl, X.keeps fun b o q => a5 b o (F.keep b o q), a4, hQ e d h' tk' a1 a2 a3 a4 a5⟩
end
local macro_rules | `(tactic| walk_at "exec Raise some none") => `(tactic| (refine' Raise_fault ?hh ?_; (case hh => first | rfl | assumption); k_whole))
section
end
local macro_rules | `(tactic| walk_at "call ref") => `(tactic| ((with_reducible show wpAny _ _ (call (Value.ref 61) _) _ _ _); refine' fault_led ?k1 ?k2 ?k3 ?k4 ?_; (case k1 | k2 | k3 => k_asm); (case k4 => omega); k_whole; intro e' d' h' tk' hen' hdn' hde' hFA' hkp'))
section
end
local macro_rules | `(tactic| walk_at "leaving ref") => `(tactic| (refine' leave_made ?k1 ?k2 ?k3 ?k4 ?k5 ?k6 ?k7 ?_ ?k8; (case k1 | k2 | k3 | k4 | k5 | k6 | k7 => assumption); (case k8 => rfl); k_whole; intro h' R' U'))
section
local macro_rules | `(tactic| walk_at "call type:int") => `(tactic| (refine' KIN.call_text ?hn ?hl ?_; (case hn => exact num_hn (by assumption) (by assumption) (by assumption)); (case hl => omega); k_whole))

def numOk (word : Str) (n most : Int) : Bool := !(word == Str.ofString "") && decide (word.length ≤ 9) && decide ((signs word).filter (pzOf (Str.ofString "0123456789")) = []) && decide (n ≤ most)
theorem number_spec {w : World} {A : Around} {E : Value → Shared → Prop} {s : Shared} {base : Heap} {outer : List Env} {p : Program} {loose : List Str} {mean : ExcName → Option Value} {mg mb : Str → Option Value} {Q : Value → Shared → Prop}
    {word : Str} {most place n : Int} {t1 t2 t3 : Tok}
    (B : Below A base outer s.heap) (X : (Mine.hd.heap_39 w.params).In base) (T : Top p loose mean mg mb base) (hA : A.handled = none) (hd : A.depth ≤ 900) (hu : A.units ≤ 2000)
    (hw : word.length ≤ 63) (hs : ∀ c ∈ signs word, PyData.strOk c = true)
    (hn : (word == Str.ofString "") = false → (signs word).filter (pzOf (Str.ofString "0123456789")) = [] → PySem.intText? word = some n)
    (ret : numOk word n most = true → ∀ t h' tk', (∀ b o, s.heap.get? b = some o → h'.get? b = some o) → Q (.int n t) { s with heap := h', toks := tk' })
    (exc : numOk word n most = false → ∀ e h' tk', Raised base outer e place h' → s.heap.UpToSlots h' → E (.ref e) { s with heap := h', toks := tk' }) :
    wpAny (model PR w) A (call (.ref 104) [.str word t1, .int most t2, .int place t3]) Q E s := by
  k_dflt (refine' enter_r (binds := [(Str.ofString "word", .str word t1), (Str.ofString "most", .int most t2), (Str.ofString "place", .int place t3)]) (rb := [(Str.ofString "place", .int place t3), (Str.ofString "most", .int most t2), (Str.ofString "word", .str word t1)]) ?k1 ?k2 ?k3 ?k6 ?k7 ?k8 ?k9 ?kB ?_ rfl ?c5 ?c2 ?c3 ?c4; walk_at "MY enter")
  case k8 => show A.depth < 1000; omega
  intro g' L' h' hg hL F' N' B' X' T'
  show wpAny _ _ _ _ _ _
  k_fold
  clear X T
  walk_at "MY steps"
  all_goals try (unfold Stop; (with_reducible show wpAny _ _ (pyIter _) (CompPost _ _ _ _ _ _ _ _ _) _ _); refine' strcomp (Str.ofString "0123456789") ?k1 ?k2 ?k3 ?k4 ?g1 ?g2 ?_; (case k1 | k2 => k_asm); (case k3 => first | rfl | assumption); (case k4 => size_fits); (case g1 => (intro C' a' t' s' m' E' n1 n2 n3; refine wpAny_leafK ?_; walk_at "MY steps")); (case g2 => (intro C' a' t' s' m' E' n1 n2 n3; refine wpAny_leafK ?_;  walk_at "MY steps")); k_whole; intro D' vs' n' h' tk' F' N' hS' hne'; all_goals walk_at "MY steps")
  all_goals subst hg
  all_goals first
    | (refine exc ?_ _ _ _ (by assumption) (by assumption); unfold numOk; simp_all <;> omega)
    | (refine exc ?_ _ _ _ (by assumption) (by assumption); unfold numOk; rename ((word == _) = true) => he; rw [he]; rfl)
    | (refine ret ?_ _ _ _ (Fr.keep (by assumption)); unfold numOk; simp_all <;> omega)
    | (refine exc ?_ _ _ _ (by assumption) (by assumption); unfold numOk; simp_all; intro _ hq; exfalso; rename (∃ x : Str, x ∈ signs word ∧ _) => he; obtain ⟨x, hx, hp⟩ := he; have hz := hq x hx; rw [hp] at hz; cases hz)
end
section
theorem top_L1 : True := by w_top off; exact True.intro
def TurnZ (h₀ : Heap) (L : Addr) (own news : Led) (m : Str → Option Value) (x z : Str) (xv : Value) (c' : Int) (s₁ : Shared) (f : Flow) (s₂ : Shared) : Prop :=
  f = .next ∧ ∃ h' tk t', s₂ = { s₁ with heap := h', toks := tk } ∧ Fr h₀ L h' (fun v => if v = z then some (.int c' t') else if v = x then some xv else m v) ∧ News h₀ L h' (own ++ news)
theorem strloop {w : World} {A : Around} {E : Value → Shared → Prop} {s : Shared} {h₀ : Heap} {env : Env} {m : Str → Option Value} {news : Led} {x : Str} {body : List Stmt} {Q : Flow → Shared → Prop} {y : Str} {t t0 : Tok} {c0 : Int} (z : Str) (step : Int → Str → Int)
    (hh : A.handled = none) (F : Fr h₀ env.locals s.heap m) (N : News h₀ env.locals s.heap news) (hzx : z ≠ x) (hz : m z = some (.int c0 t0))
    (turn : ∀ i c k t u s₁ own, (signs y)[i]? = some k → c = ((signs y).take i).foldl step c0 → Fr h₀ env.locals s₁.heap (fun v => if v = x then some (.str k u) else if v = z then some (.int c t) else m v) → News h₀ env.locals s₁.heap (own ++ news) →
      wpAny (model PR w) A (execs body env) (TurnZ h₀ env.locals own news m x z (.str k u) (step c k) s₁) E s₁)
    (done : ∀ h' tk t mx, Fr h₀ env.locals h' (fun v => if v = z then some (.int ((signs y).foldl step c0) t) else if v = x then mx else m v) → News h₀ env.locals h' news → Q .next { s with heap := h', toks := tk }) :
    wpAny (model PR w) A (pyIter (.str y t)) (fun it s₂ => LoopAt2 PR w A h₀ env x body Q E it s₂) E s := by
  refine wpAny_pyIter_str fun o St W hst => ?_
  have hno : ∀ b o', s.heap.get? b = some o' → b ≠ s.heap.objs.size := fun b o' q => Nat.ne_of_lt (Heap.lt_size q)
  refine ⟨s.heap.objs.size, [s.heap.objs.size], [s.heap.objs.size], y.cps.size, SignAt y, St, m, news,
    fun i m₁ n₁ => n₁ = news ∧ (∀ v, v ≠ x → v ≠ z → m₁ v = m v) ∧ ∃ t, m₁ z = some (.int (((signs y).take i).foldl step c0) t), rfl, W A hh, ?_, ?_, ?_, hst, F.push o, fun p hp => ⟨Heap.get?_push_of_some _ (N p hp).1, (N p hp).2⟩, ⟨rfl, fun _ _ _ => rfl, t0, hz⟩, ?_, ?_⟩
  · intro hm
    exact absurd F.ns.lt ((List.mem_singleton.mp hm) ▸ Nat.lt_irrefl _)
  · intro b hb
    rw [List.mem_singleton.mp hb]
    cases q : h₀.get? s.heap.objs.size with
    | none => rfl
    | some o' => exact absurd rfl (hno _ _ (F.keep _ _ q))
  · intro p hp hm
    exact hno _ _ (N p hp).1 (List.mem_singleton.mp hm)
  · (intro i v m₁ news₁ s₁ own hi o_19 o_21 _ _ _ F₁ N₁; (refine ob2_2 o_19 fun c u hc e_20 => ?_; try clear o_19; subst e_20); obtain ⟨rfl, hm, tz, hmz⟩ := o_21)
    have hk : (signs y)[i]? = some ⟨#[c]⟩ := by simp [signs, hc]
    have e : (fun v => if v = x then some (Value.str ⟨#[c]⟩ u) else m₁ v) = fun v => if v = x then some (.str ⟨#[c]⟩ u) else if v = z then some (.int (((signs y).take i).foldl step c0) tz) else m v := by
      funext v
      by_cases h1 : v = x
      · simp [h1]
      · by_cases h2 : v = z
        · simp [h2, hzx, hmz]
        · simp [h1, h2, hm v h1 h2]
    rw [e] at F₁
    refine wpAny_mono (turn i _ ⟨#[c]⟩ tz u s₁ own hk rfl F₁ N₁) (fun f s₂ h₂ => ?_) fun _ _ e => e
    obtain ⟨rfl, h', tk, t', rfl, F₂, N₂⟩ := h₂
    refine LoopStep2.intro F₂ N₂ rfl ⟨rfl, fun v h1 h2 => by simp [h1, h2], t', ?_⟩
    simp [List.take_add_one, hk]
  · (intro h' tk m' news' F' N' _ o_25; obtain ⟨rfl, hm, tz, hmz⟩ := o_25)
    have hl : y.cps.size = (signs y).length := by rw [signs_length]; rfl
    rw [hl, List.take_length] at hmz
    have e : m' = fun v => if v = z then some (.int ((signs y).foldl step c0) tz) else if v = x then m' x else m v := by
      funext v
      by_cases h2 : v = z
      · simp [h2, hmz]
      · by_cases h1 : v = x
        · simp [h1, hzx.symm]
        · simp [h1, h2, hm v h1 h2]
    rw [e] at F'
    exact done h' tk tz (m' x) F' N'
theorem turnZ_end {h₀ : Heap} {L : Addr} {own news : Led} {m m₂ : Str → Option Value} {x z : Str} {xv : Value} {c' : Int} {s₁ : Shared} {h' : Heap} {tk t' : Nat} (F : Fr h₀ L h' m₂) (N : News h₀ L h' (own ++ news))
    (hz : m₂ z = some (.int c' t')) (hx : m₂ x = some xv) (h : ∀ v, v ≠ z → v ≠ x → m₂ v = m v) : TurnZ h₀ L own news m x z xv c' s₁ .next { s₁ with heap := h', toks := tk } :=
  ⟨rfl, h', tk, t', rfl, by
    have e : m₂ = fun v => if v = z then some (.int c' t') else if v = x then some xv else m v := by
      funext v
      by_cases h1 : v = z
      · simp [h1, hz]
      · by_cases h2 : v = x
        · subst h2; simp [h1, hx]
        · simp [h1, h2, h v h1 h2]
    rw [← e]; exact F, N⟩
end
section
section
local macro_rules | `(tactic| walk_at "Z pad") => `(tactic| skip)
theorem top_P3 : True ∧ True := by w_top off; (try (walk1; fail)); exact ⟨True.intro, True.intro⟩
end
theorem pz_of {al y k : Str} {i : Nat} (hk : (signs y)[i]? = some k) (h : decide (List.map Dat.str (List.filter (pzOf al) (signs y)) = []) = true) : pzOf al k = false := by
  have h2 := List.map_eq_nil_iff.mp (of_decide_eq_true h)
  cases z : pzOf al k with
  | false => rfl
  | true =>
    have : k ∈ List.filter (pzOf al) (signs y) := List.mem_filter.mpr ⟨List.mem_of_getElem? hk, z⟩
    rw [h2] at this; cases this
theorem idx_wp {prog : Program} {w : World} {A : Around} {E : Value → Shared → Prop} {s : Shared} {al k : Str} {t u : Tok} {Q : Value → Shared → Prop} (h : pzOf al k = false) (hq : Q (.int (Txt.find al k) s.toks) { s with toks := s.toks + 1 }) :
    wpAny (model prog w) A (call (.builtin "str.index") [.str al t, .str k u]) Q E s := by
  unfold pzOf at h
  unfold Txt.find at hq
  cases z : Builtin.Str.occurrences al k 0 al.length 1 with
  | nil => rw [z] at h; cases h
  | cons i r => rw [z] at hq; exact SC.index z hq
def hexOk (word : Str) : Bool := !(Txt.slice word none (some 2) != Str.ofString "U+") && decide (4 ≤ (Txt.slice word (some 2) none).length) && decide ((Txt.slice word (some 2) none).length ≤ 6) && decide ((signs (Txt.slice word (some 2) none)).filter (pzOf (Str.ofString "0123456789ABCDEF")) = [])
def hexVal (word : Str) : Int := (signs (Txt.slice word (some 2) none)).foldl (fun c k => 16 * c + (Txt.find (Str.ofString "0123456789ABCDEF") k : Int)) 0
def codeVal (word : Str) : Option Int := if word.length = 1 then some ((word.cps.getD 0 0 : Nat) : Int) else if hexOk word = true ∧ hexVal word ≤ 1114111 then some (hexVal word) else none
theorem cv_one {word : Str} (h : (word.length : Int) = 1) : codeVal word = some ((word.cps.getD 0 0 : Nat) : Int) := by
  unfold codeVal; rw [if_pos (by omega)]
theorem cv_hex {word : Str} (h1 : (word.length : Int) ≠ 1) (h2 : (Txt.slice word none (some 2) != Str.ofString "U+") = false) (h3 : (4 : Int) ≤ (Txt.slice word (some 2) none).length) (h4 : ((Txt.slice word (some 2) none).length : Int) ≤ 6)
    (h5 : decide (List.map Dat.str (List.filter (pzOf (Str.ofString "0123456789ABCDEF")) (signs (Txt.slice word (some 2) none))) = []) = true) (h6 : ¬ 1114111 < hexVal word) : codeVal word = some (hexVal word) := by
  have h7 : hexOk word = true := by
    unfold hexOk
    rw [h2, decide_eq_true (show 4 ≤ (Txt.slice word (some 2) none).length by omega), decide_eq_true (show (Txt.slice word (some 2) none).length ≤ 6 by omega), decide_eq_true (List.map_eq_nil_iff.mp (of_decide_eq_true h5))]
    rfl
  unfold codeVal
  rw [if_neg (by omega), if_pos ⟨h7, by omega⟩]
theorem cv_none {word : Str} (h1 : (word.length : Int) ≠ 1) (h : hexOk word = true → ¬ hexVal word ≤ 1114111) : codeVal word = none := by
  unfold codeVal
  rw [if_neg (by omega), if_neg fun ⟨a, b⟩ => h a b]
theorem hex_parts {word : Str} (h : hexOk word = true) : (Txt.slice word none (some 2) != Str.ofString "U+") = false ∧ 4 ≤ (Txt.slice word (some 2) none).length ∧ (Txt.slice word (some 2) none).length ≤ 6 ∧
    decide (List.map Dat.str (List.filter (pzOf (Str.ofString "0123456789ABCDEF")) (signs (Txt.slice word (some 2) none))) = []) = true := by
  unfold hexOk at h
  simp only [Bool.and_eq_true, Bool.not_eq_true', decide_eq_true_eq] at h
  (refine ob0_2 h fun o_27 h4 => ?_; try clear h; (refine ob0_2 o_27 fun o_28 h3 => ?_; try clear o_27; (refine ob0_2 o_28 fun h1 h2 => ?_; try clear o_28)))
  exact mk0_4 h1 h2 h3 (decide_eq_true (by rw [h4]; rfl))
theorem not_hex {word : Str} (h : (Txt.slice word none (some 2) != Str.ofString "U+") = true ∨ ¬ (4 : Int) ≤ (Txt.slice word (some 2) none).length ∨ ¬ ((Txt.slice word (some 2) none).length : Int) ≤ 6 ∨
    decide (List.map Dat.str (List.filter (pzOf (Str.ofString "0123456789ABCDEF")) (signs (Txt.slice word (some 2) none))) = []) = false ∨ 1114111 < hexVal word) : hexOk word = true → ¬ hexVal word ≤ 1114111 := fun hx hv => by
  (refine ob0_4 (hex_parts hx) fun h1 h2 h3 h4 => ?_)
  rcases h with h | h | h | h | h
  · rw [h1] at h; exact nob h
  · omega
  · omega
  · rw [h4] at h; cases h
  · omega
local macro_rules | `(tactic| walk_at "call builtin:str.index") => `(tactic| (refine idx_wp (pz_of (by assumption) (by assumption)) ?_; k_whole))
theorem code_spec {w : World} {A : Around} {E : Value → Shared → Prop} {s : Shared} {base : Heap} {outer : List Env} {p : Program} {loose : List Str} {mean : ExcName → Option Value} {mg mb : Str → Option Value} {Q : Value → Shared → Prop}
    {word : Str} {place : Int} {t1 t3 : Tok}
    (B : Below A base outer s.heap) (X : (Mine.hd.heap_39 w.params).In base) (T : Top p loose mean mg mb base) (hA : A.handled = none) (hd : A.depth ≤ 900) (hu : A.units ≤ 2000)
    (hw : word.length ≤ 63) (hs : ∀ c ∈ signs (Txt.slice word (some 2) none), PyData.strOk c = true)
    (ret : ∀ n, codeVal word = some n → ∀ t h' tk', (∀ b o, s.heap.get? b = some o → h'.get? b = some o) → Q (.int n t) { s with heap := h', toks := tk' })
    (exc : codeVal word = none → ∀ e h' tk', Raised base outer e place h' → s.heap.UpToSlots h' → E (.ref e) { s with heap := h', toks := tk' }) :
    wpAny (model PR w) A (call (.ref 109) [.str word t1, .int place t3]) Q E s := by
  k_dflt (refine' enter_r (binds := [(Str.ofString "word", .str word t1), (Str.ofString "place", .int place t3)]) (rb := [(Str.ofString "place", .int place t3), (Str.ofString "word", .str word t1)]) ?k1 ?k2 ?k3 ?k6 ?k7 ?k8 ?k9 ?kB ?_ rfl ?c5 ?c2 ?c3 ?c4; walk_at "MY enter")
  case k8 => show A.depth < 1000; omega
  intro g' L' h' hg hL F' N' B' X' T'
  show wpAny _ _ _ _ _ _
  k_fold
  clear X T
  walk_at "MY steps"
  all_goals try (unfold Stop; (with_reducible show wpAny _ _ (pyIter _) (CompPost _ _ _ _ _ _ _ _ _) _ _); refine' strcomp (Str.ofString "0123456789ABCDEF") ?k1 ?k2 ?k3 ?k4 ?g1 ?g2 ?_; (case k1 | k2 => k_asm); (case k3 => first | rfl | assumption); (case k4 => first | size_fits | (rw [sizeLine_eq]; omega)); (case g1 => (intro C' a' t' s' m' E' n1 n2 n3; refine wpAny_leafK ?_; walk_at "MY steps")); (case g2 => (intro C' a' t' s' m' E' n1 n2 n3; refine wpAny_leafK ?_;  walk_at "MY steps")); k_whole; intro D' vs' n' h' tk' F' N' hS' hne'; all_goals walk_at "MY steps")
  all_goals try (unfold Stop; (with_reducible show wpAny _ _ (pyIter _) (fun it s₂ => LoopAt2 _ _ _ _ _ _ _ _ _ it s₂) _ _); refine' strloop (Str.ofString "code") (fun c k => 16 * c + (Txt.find (Str.ofString "0123456789ABCDEF") k : Int)) ?k1 ?k2 ?k3 ?k4 ?k5 ?_ ?_; (case k1 => first | rfl | assumption); (case k2 | k3 => k_asm); (case k4 => decide); (case k5 => rfl); all_goals walk_at "MY steps")
  all_goals try (intro i c k t u s₁ own hk hc FE NE; show wpAny _ _ _ _ _ _; walk_at "MY steps")
  all_goals subst hg
  all_goals first
    | (refine turnZ_end (by assumption) (by assumption) rfl rfl fun v h1 h2 => ?_; simp [h1, h2])
    | (refine exc (cv_none (by assumption) (not_hex ?_)) _ _ _ (by assumption) (by assumption); first | exact .inl (by assumption) | exact .inr (.inl (by assumption)) | exact .inr (.inr (.inl (by assumption))) | exact .inr (.inr (.inr (.inl (by assumption)))) | exact .inr (.inr (.inr (.inr (by assumption)))))
    | exact ret _ (cv_one (by assumption)) _ _ _ (Fr.keep (by assumption))
    | exact ret _ (cv_hex (by assumption) (by assumption) (by assumption) (by assumption) (by assumption) (by assumption)) _ _ _ (Fr.keep (by assumption))
end
section
theorem top_C1 : True := by w_top off; exact True.intro
theorem noteFrame_same {M : Model} {e : Value} {env env' : Env} (h : env'.frame = env.frame) : noteFrame e env' = noteFrame e env := by
  unfold noteFrame PySem.frameOf
  rw [h]
theorem funFrames_but {B B' h h' : Heap} {C : Addr} (hs : Heap.SameBut C h h') (hB : ∀ b, B.get? b = none → B'.get? b = none) (hC : ∃ o, B.get? C = some o) {l : List Env} (x : h.FunFrames B l) : h'.FunFrames B' l := by
  induction l with
  | nil => trivial
  | cons e l ih =>
    (first | (refine ob2_1 x fun hk o_29 hr => ?_; try clear x; (first | (refine ob5_1 o_29 fun L o hf hn ho hd => ?_; try clear o_29) | (refine ob4_2 o_29 fun L o hf hn ho hd => ?_; try clear o_29) | (refine ob3_3 o_29 fun L o hf hn ho hd => ?_; try clear o_29) | (refine ob2_4 o_29 fun L o hf hn ho hd => ?_; try clear o_29) | (refine ob1_5 o_29 fun L o hf hn ho hd => ?_; try clear o_29) | (refine ob0_6 o_29 fun L o hf hn ho hd => ?_; try clear o_29) | (obtain ⟨L, o, hf, hn, ho, hd⟩ := o_29))) | (refine ob1_2 x fun hk o_29 hr => ?_; try clear x; (first | (refine ob5_1 o_29 fun L o hf hn ho hd => ?_; try clear o_29) | (refine ob4_2 o_29 fun L o hf hn ho hd => ?_; try clear o_29) | (refine ob3_3 o_29 fun L o hf hn ho hd => ?_; try clear o_29) | (refine ob2_4 o_29 fun L o hf hn ho hd => ?_; try clear o_29) | (refine ob1_5 o_29 fun L o hf hn ho hd => ?_; try clear o_29) | (refine ob0_6 o_29 fun L o hf hn ho hd => ?_; try clear o_29) | (obtain ⟨L, o, hf, hn, ho, hd⟩ := o_29))) | (refine ob0_3 x fun hk o_29 hr => ?_; try clear x; (first | (refine ob5_1 o_29 fun L o hf hn ho hd => ?_; try clear o_29) | (refine ob4_2 o_29 fun L o hf hn ho hd => ?_; try clear o_29) | (refine ob3_3 o_29 fun L o hf hn ho hd => ?_; try clear o_29) | (refine ob2_4 o_29 fun L o hf hn ho hd => ?_; try clear o_29) | (refine ob1_5 o_29 fun L o hf hn ho hd => ?_; try clear o_29) | (refine ob0_6 o_29 fun L o hf hn ho hd => ?_; try clear o_29) | (obtain ⟨L, o, hf, hn, ho, hd⟩ := o_29))) | (obtain ⟨hk, ⟨L, o, hf, hn, ho, hd⟩, hr⟩ := x))
    exact ⟨hk, ⟨L, o, hf, hB _ hn, (hs.2 L fun z => by obtain ⟨oc, q⟩ := hC; rw [← z, hn] at q; exact nos q).trans ho, hd⟩, ih hr⟩
theorem loop_raise {w : World} {A : Around} {s : Shared} {R : Result → Shared → Prop} {elt iter : Expr} {x : Str} {px : Pos} {scope : Scope} {pos : Pos} {I D : Addr} {fp wr : List Addr} {n : Nat} {P : Nat → Value → Prop} {St : Nat → Heap → Prop}
    {cenv : Env} {m : Str → Option Value} (W : Walks PR w A I fp wr n P St) (F : Value → Value → Prop)
    (hx : cenv.kindOf x = some .local) (hp : (cenv.scope.kind == .class || (cenv.scope.kind == .module && cenv.locals != cenv.globals)) = false)
    (hDC : D ≠ cenv.locals) (hDf : D ∉ fp) (hCf : cenv.locals ∉ fp) (hst : St 0 s.heap) (hacc : s.heap.PlainList D #[]) (hn : s.heap.Ns cenv.locals m)
    (helt : ∀ i v h tk m₃, P i v → h.Ns cenv.locals m₃ → m₃ x = some v → (∀ b o, b ≠ cenv.locals → b ∉ wr → b ≠ D → s.heap.get? b = some o → h.get? b = some o) →
      wpAny (model PR w) A (eval elt cenv) (fun y s₄ => F v y ∧ Keeps { s with heap := h, toks := tk } s₄) (notedBy (model PR w) A cenv fun e s' => R (.error e) s') { s with heap := h, toks := tk })
    (hR : ∀ h' tk m' ys (vs : List Value), h'.Ns cenv.locals m' → h'.PlainList D ys → vs.length = n → (∀ j v, vs[j]? = some v → P j v) → Paired F vs ys.toList →
      (∀ b o, b ≠ cenv.locals → b ∉ wr → b ≠ D → s.heap.get? b = some o → h'.get? b = some o) → R (.ok .next) { s with heap := h', toks := tk })
    (hsz : n ≤ sizeLine) : codeAny (model PR w) A (.compLoop (.ListComp elt [⟨.Name x px, iter, [], 0⟩] scope pos) 0 (.ref I) (.ref D) cenv) R s := by
  refine codeAny_compLoop_tests
    (fun k s' => ∃ h' tk m' ys, ∃ vs : List Value, s' = { s with heap := h', toks := tk } ∧ St vs.length h' ∧ h'.PlainList D ys ∧ h'.Ns cenv.locals m' ∧ (∀ j v, vs[j]? = some v → P j v) ∧
      Paired F vs ys.toList ∧ vs.length ≤ n ∧ k = n + 1 - vs.length ∧ (∀ b o, b ≠ cenv.locals → b ∉ wr → b ≠ D → s.heap.get? b = some o → h'.get? b = some o)) ?_ (n + 1)
    ⟨s.heap, s.toks, m, #[], [], rfl, hst, hacc, hn, by simp, Paired.nil, Nat.zero_le _, rfl, fun _ _ _ _ _ e => e⟩
  (intro k s' o_30; (refine ob5_1 o_30 fun H tk m' ys vs q_33 => ob0_9 q_33 fun e_31 hst' hacc' hn' hP hF hi e_32 hk => ?_; try clear o_30; subst e_31; subst e_32))
  have hCw : cenv.locals ∉ wr := fun h => hCf (W.sub _ h)
  have hDw : D ∉ wr := fun h => hDf (W.sub _ h)
  by_cases hlt : vs.length < n
  · refine W.item vs.length _ _ _ hlt hst' fun v h₁ tk₁ hPv hst₁ hk₁ => ?_
    refine wpAny_assign_Name (wpAny_storeName_local hx (hn'.at' fun o e => hk₁ _ o hCw e) (fun h₂ hn₂ hs₂ => ?_) hp)
    have up₂ : ∀ b o, b ≠ cenv.locals → b ∉ wr → H.get? b = some o → h₂.get? b = some o := fun b o hbC hbf e => hs₂.extBut b o hbC (hk₁ b o hbf e)
    have hst₂ : St (vs.length + 1) h₂ := W.frame _ _ _ hst₁ fun b hb o e => hs₂.extBut b o (fun h => hCf (h ▸ hb)) e
    have acc₂ : h₂.PlainList D ys := hacc'.at fun o e => up₂ D o hDC hDw e
    refine wpAny_pure ?_
    simp only [if_true]
    refine wpAny_mono (helt vs.length v h₂ _ _ hPv hn₂ (by simp) fun b o hbC hbf hbD e => up₂ b o hbC hbf (hk b o hbC hbf hbD e)) (fun y s₄ h₄ => ?_) fun _ _ e => e
    obtain ⟨hFy, h₄, tk₄, rfl, hk₄⟩ := h₄
    have hP' : ∀ j u, (vs ++ [v])[j]? = some u → P j u := fun j u hj => by
      by_cases q : j < vs.length
      · rw [List.getElem?_append_left q] at hj; exact hP j u hj
      · rw [List.getElem?_append_right (Nat.le_of_not_lt q)] at hj
        have : j - vs.length = 0 := by
          cases z : j - vs.length with
          | zero => rfl
          | succ a => rw [z] at hj; simp at hj
        rw [this] at hj
        have e2 : j = vs.length := by omega
        simp at hj
        subst e2 hj
        exact hPv
    have hys : ys.size ≤ sizeLine := by
      have e1 := hF.length
      have e4 : ys.toList.length = ys.size := by simp
      omega
    refine wpAny_list_append_plain (hsz := hys) (acc₂.at fun o e => hk₄ _ o e) fun h₅ hl₅ hs₅ => ?_
    refine ⟨n + 1 - (vs.length + 1), by omega, h₅, tk₄, _, ys.push y, vs ++ [v], rfl, ?_, hl₅, (hn₂.keeps hk₄).sameBut hs₅ (Ne.symm hDC), hP', ?_, (by rw [List.length_append, List.length_singleton]; exact hlt), (by rw [List.length_append, List.length_singleton]),
      fun b o hbC hbf hbD e => hs₅.extBut b o hbD (hk₄ b o (up₂ b o hbC hbf (hk b o hbC hbf hbD e)))⟩
    · have := W.frame _ _ h₅ hst₂ fun b hb o e => hs₅.extBut b o (fun h => hDf (h ▸ hb)) (hk₄ b o e)
      simpa using this
    · simpa using Paired.snoc hF hFy
  · have hin : vs.length = n := by omega
    refine W.done _ _ _ (hin ▸ hst') fun h₁ tk₁ hk₁ => ?_
    exact hR h₁ tk₁ m' ys vs (hn'.at' fun o e => hk₁ _ o hCw e) (hacc'.at fun o e => hk₁ _ o hDw e) hin hP hF fun b o hbC hbf hbD e => hk₁ b o hbf (hk b o hbC hbf hbD e)
theorem listcomp_raise {cl : List (Str × Addr)} {w : World} {A : Around} {E : Value → Shared → Prop} {s : Shared} {env : Env} {outer : List Env} {L : Addr} {elt iter : Expr} {x : Str} {px : Pos} {scope : Scope} {pos : Pos} {Q : Value → Shared → Prop}
    (hfr : A.frames = some (env :: outer)) (hf : env.frame = some L)
    (hclos : closureFor scope env = pure cl) (hcell : ∀ y ∈ scope.names, y.2 ≠ .cell) (hkind : scope.kind = .function)
    (hnames : ∀ y ∈ scope.names, y.2 = .local → scope.names.lookup y.1 = some .local) (hx : scope.names.lookup x = some .local)
    (h : wpAny (model PR w) A (eval iter env) (fun xv s₁ => wpAny (model PR w) A (pyIter xv) (fun it s₂ => ∃ I fp wr n P St base k, ∃ F : Value → Value → Prop, it = .ref I ∧ Walks PR w A I fp wr n P St ∧ n ≤ sizeLine ∧ St 0 s₂.heap ∧ (∀ b ∈ fp, b < s₂.heap.objs.size) ∧
      base.StaysIn s₂.heap ∧ s₂.heap.FunFrames base (env :: outer) ∧ (∀ b ∈ wr, base.get? b = none ∧ ∀ o, s₂.heap.get? b = some o → ∃ vs, o.data = .fields vs) ∧
      (∀ C i v s₃ h3 tk3 m₃ E', P i v → s₃ = { s₂ with heap := h3, toks := tk3 } → s₃.heap.Ns C m₃ → m₃ x = some v → (∀ b o, b ∉ wr → s₂.heap.get? b = some o → s₃.heap.get? b = some o) →
        (∀ b3 e h' tk', (∀ b o, b3.get? b = some o → s₃.heap.get? b = some o) → (∀ b o, s₃.heap.get? b = some o → b ∉ (env :: outer).filterMap (·.frame) → b3.get? b = some o) → Raised b3 (env :: outer) e k h' → s₃.heap.UpToSlots h' → (∃ j u, P j u ∧ ¬ ∃ y, F u y) → E' (.ref e) { s₃ with heap := h', toks := tk' }) →
        wpAny (model PR w) A (eval elt (compEnvC scope cl C env)) (fun y s₄ => F v y ∧ Keeps s₃ s₄) E' s₃) ∧
      (∀ D h' tk ys (vs : List Value), s₂.heap.get? D = none → h'.IsList D ys → h'.PlainList D ys → vs.length = n → (∀ j v, vs[j]? = some v → P j v) → Paired F vs ys.toList →
        (∀ b o, b ∉ wr → s₂.heap.get? b = some o → h'.get? b = some o) → Q (.ref D) { s₂ with heap := h', toks := tk }) ∧
      (∀ e h' tk', Raised base (env :: outer) e k h' → s₂.heap.UpToSlots h' → (∃ j u, P j u ∧ ¬ ∃ y, F u y) → E (.ref e) { s₂ with heap := h', toks := tk' })) E s₁) E s)
    (hs : ∀ x, foldedSetIterable iter env x = pure x := by intro _; rfl) :
    wpAny (model PR w) A (eval (.ListComp elt [⟨.Name x px, iter, [], 0⟩] scope pos) env) Q E s := by
  rw [eval_ListComp]
  refine wpAny_comprehension_free (use := none) rfl hs hclos hkind hnames (wpAny_mono h (fun xv s₁ h₁ => wpAny_mono h₁ (fun it s₂ h₂ => ?_) fun _ _ e => e) fun _ _ e => e)
  (refine ob9_1 h₂ fun I fp wr n P St base k F q_36 => ob0_11 q_36 fun e_35 W hsz hst hfp hb hl hwr helt hQ hE => ?_; try clear h₂; subst e_35)
  refine wpAny_newObj_type (wpAny_newFunctionEnv hcell (by intro y hy; simp at hy) (fun h₁ hns₁ hsb₁ => ?_) hkind)
  dsimp only at hns₁ hsb₁ ⊢
  generalize hH2 : s₂.heap.push { cls := .type "list", dict := none, data := .seq ([] : List Value).toArray } = H2 at hns₁ hsb₁ ⊢
  have hC : H2.objs.size = s₂.heap.objs.size + 1 := by rw [← hH2, Heap.size_push]
  have lt : ∀ b o, s₂.heap.get? b = some o → b ≠ H2.objs.size ∧ b ≠ s₂.heap.objs.size := fun b o q => by
    have := Heap.lt_size q
    rw [hC]
    exact ⟨Nat.ne_of_lt (Nat.lt_succ_of_lt this), Nat.ne_of_lt this⟩
  have hDC : s₂.heap.objs.size ≠ H2.objs.size := by rw [hC]; exact Nat.ne_of_lt (Nat.lt_succ_self _)
  have old : ∀ b o, s₂.heap.get? b = some o → h₁.get? b = some o := fun b o e => hsb₁.extBut b o (lt b o e).1 (Heap.get?_push_of_some _ (hH2 ▸ Heap.get?_push_of_some _ e))
  have hacc : h₁.PlainList s₂.heap.objs.size #[] := ⟨_, hsb₁.extBut _ _ hDC (Heap.get?_push_of_some _ (hH2 ▸ Heap.get?_push_size _ rfl))⟩
  have hst₁ : St 0 h₁ := W.frame _ _ _ hst fun b _ o e => old b o e
  have none_at : ∀ a, s₂.heap.objs.size ≤ a → s₂.heap.get? a = none := fun a ha => Heap.get?_none_of_le ha
  have hCn : s₂.heap.get? H2.objs.size = none := none_at _ (by rw [hC]; exact Nat.le_succ _)
  have hCb : base.get? H2.objs.size = none := by
    cases z : base.get? H2.objs.size with
    | none => rfl
    | some o => have := hb _ _ z; rw [hCn] at this; exact nos this
  have hDf : s₂.heap.objs.size ∉ fp := fun hm => Nat.lt_irrefl _ (hfp _ hm)
  have hCf : H2.objs.size ∉ fp := fun hm => by have := hfp _ hm; rw [hC] at this; exact Nat.lt_irrefl _ (Nat.lt_of_succ_lt this)
  have up : ∀ (s₃ : Shared), (∀ b o, b ≠ (compEnvC scope cl H2.objs.size env).locals → b ∉ wr → b ≠ s₂.heap.objs.size → h₁.get? b = some o → s₃.heap.get? b = some o) → ∀ b o, b ∉ wr → s₂.heap.get? b = some o → s₃.heap.get? b = some o := fun s₃ hk b o hbf e =>
    hk b o (lt b o e).1 hbf (lt b o e).2 (old b o e)
  have loop : ∀ s₃ : Shared, s₃ = { s₂ with heap := h₁, toks := s₂.toks + ([] : List (Str × Value)).length } →
      codeAny (model PR w) A (.compLoop (.ListComp elt [⟨.Name x px, iter, [], 0⟩] scope pos) 0 (.ref I) (.ref s₂.heap.objs.size) (compEnvC scope cl H2.objs.size env))
        (compPost (model PR w) A E none Q (.ref s₂.heap.objs.size) H2.objs.size) s₃ := by
    rintro s₃ rfl
    refine loop_raise (cenv := compEnvC scope cl H2.objs.size env) W F (lookup_relabel_local hx) (by simp [compEnvC, relabel, hkind]) hDC hDf hCf hst₁ hacc hns₁
      (fun i v h3 tk3 m₃ hv hn hm hk => ?_) (fun h' tk m' ys vs hn hpl hlen hP hF hk => ?_) hsz
    · have upk := up { s₂ with heap := h3, toks := tk3 } hk
      refine helt H2.objs.size i v { s₂ with heap := h3, toks := tk3 } h3 tk3 m₃ _ hv rfl hn hm upk fun b3 e h' tk' hb3 hb3' R U bad => ?_
      (refine ob3_3 hn fun oC esC epC hoC hdC hkC => ?_; try clear hn)
      have hnotfs : H2.objs.size ∉ (env :: outer).filterMap (·.frame) := fun hm => by
        (refine ob1_2 ((hl.mem hm).2) fun o ho _ => ?_)
        exact (lt _ _ ho).1 rfl
      have hC3 : b3.get? H2.objs.size = some oC := hb3' _ _ hoC hnotfs
      (refine ob5_5 R fun B d md tk fl r1 r2 r3 r4 r5 => ?_; try clear R)
      have hCB : B.get? H2.objs.size = some oC := r1 _ _ hC3
      have hdC' : d ≠ H2.objs.size := fun z => by rw [z, hC3] at r5; exact nos' r5
      show wpAny _ _ (noteFrame (.ref e) (compEnvC scope cl H2.objs.size env)) _ _ _
      rw [noteFrame_same (M := model PR w) (env := env) (env' := compEnvC scope cl H2.objs.size env) rfl]
      refine fly_note hfr hf r2 fun h5 f5 u5 => ?_
      have hC5 : h5.get? H2.objs.size = some oC := f5.1 _ _ hCB
      refine mk1_2 m₃ ⟨oC, esC, epC, hC5, hdC, hkC⟩ (fun h6 sb cenv' _ => ?_)
      obtain ⟨x1, x2, x3, vs, T, oT, ts, ⟨oe, q1, q2, q3, q4⟩, q5, q6, q7, q8, q9, q10⟩ := f5
      have heC : e ≠ H2.objs.size := fun z => by rw [z, hCB] at x2; exact nos' x2
      have hTC : T ≠ H2.objs.size := fun z => by rw [z, hCB] at q6; exact nos' q6
      have hidn : ∀ b, B.get? b = none → (hideAll B [H2.objs.size]).get? b = none := fun b q => by
        cases z : (hideAll B [H2.objs.size]).get? b with
        | none => rfl
        | some o => have := of_hideAll _ z; rw [q] at this; exact nos this
      have ne1 : ∀ b, b ≠ H2.objs.size → b ∉ [H2.objs.size] := fun b q => by simpa using q
      have ofh : ∀ b o, (hideAll B [H2.objs.size]).get? b = some o → b ≠ H2.objs.size := fun b o q z => by
        subst z; rw [hideAll_none _ (List.mem_singleton.mpr rfl)] at q; exact nos q
      have f6 : Fly (hideAll B [H2.objs.size]) (env :: outer) e d (rawInt L) h6 :=
        ⟨fun b o q => (sb.2 b (ofh b o q)).trans (x1 b o (of_hideAll _ q)), hidn _ x2, funFrames_but sb hidn ⟨oC, hCB⟩ x3, vs, T, oT, ts, ⟨oe, (sb.2 _ heC).trans q1, q2, q3, q4⟩, q5, hidn _ q6, q7, (sb.2 _ hTC).trans q8, q9, q10⟩
      refine fly_pass f6 fun h7 fl7 f7 u7 => ?_
      have bb : ∀ b o, base.get? b = some o → b3.get? b = some o ∧ b ≠ H2.objs.size := fun b o q => by
        have q2 := hb b o q
        have hbw : b ∉ wr := fun hm => by rw [(hwr b hm).1] at q; exact nos q
        refine ⟨hb3' b o (upk b o hbw q2) fun hm => ?_, (lt b o q2).1⟩
        rw [(hl.mem hm).1] at q; exact nos q
      have bd : base.get? d = none := by
        cases z : base.get? d with
        | none => rfl
        | some o => have := (bb _ _ z).1; rw [r5] at this; exact nos this
      refine hE e h7 _ ⟨_, d, md, tk, fl7, fun b o q => hideAll_get _ (r1 b o (bb b o q).1) (ne1 b (bb b o q).2), f7, r3.at fun o q => hideAll_get _ q (ne1 d hdC'), r4, bd⟩ ?_ bad
      refine Heap.UpToSlots.trans (h₂ := h6) ?_ u7
      intro b o q hn
      have hbw : b ∉ wr := fun hm => by
        (refine ob1_1 ((hwr b hm).2 o q) fun vs q2 => ?_)
        exact hn vs q2
      (refine ob1_1 ((U.trans u5) b o (upk b o hbw q) hn) fun sl q5 => ?_)
      exact ⟨sl, (sb.2 b (lt b o q).1).trans q5⟩
    · refine mk1_2 m' hn (fun h'' sb => ?_)
      exact hQ _ h'' tk ys vs (none_at _ (Nat.le_refl _)) (hpl.extBut sb.extBut hDC).isList (hpl.extBut sb.extBut hDC) hlen hP hF fun b o hbf e => sb.extBut b o (lt b o e).1 (hk b o (lt b o e).1 hbf (lt b o e).2 (old b o e))
  exact codeAny_compStart_list (loop _ rfl) (W.self 0 _ _ _ hst₁ (loop _ rfl))
end
section
theorem top_X8 : True := by w_top off; exact True.intro
section
variable {w : World} {A : Around} {E : Value → Shared → Prop} {s : Shared} {h₀ : Heap} {K : Frag} {news : Led} {p : Program} {loose : List Str} {mean : ExcName → Option Value} {mg mb : Str → Option Value}
  {name qual : Str} {params : Arguments} {body : List Stmt} {scope : Scope} {dV kV doc pm cdv ct oc : Value} {an od : Option Addr} {osl : Array (Option Value)} {f : Addr} {pos : List Value} {kw : List (Str × Value)} {binds : List (Str × Value)} {Q : Value → Shared → Prop}
theorem enter_c (kh : ∀ b o, h₀.get? b = some o → s.heap.get? b = some o) (X : K.In h₀) (T : Top p loose mean mg mb h₀)
    (hn : ∀ q ∈ news, s.heap.get? q.1 = some q.2 ∧ h₀.get? q.1 = none)
    (ho : K.lookup f = some ⟨oc, od, .func (fnX name qual params body scope [] dV kV doc pm an cdv ct), osl⟩) (hcd : codeIn K cdv qual = true) (hroom : A.depth < recursionLimit)
    (hbind : BindsTo s (fnX name qual params body scope [] dV kV doc pm an cdv ct) ⟨pos, kw⟩ binds)
    (hkind : (binds.all fun y => scope.names.lookup y.1 == some .local || scope.names.lookup y.1 == some .cell) = true)
    (hnd : ((cellsFrom 0 scope.names []).map (·.1)).Nodup)
    (h : ∀ g L' h₁ tk cells, g = hideAll s.heap (news.map (·.1)) → L' = s.heap.objs.size → (∀ b o, s.heap.get? b = some o → (∀ q ∈ news, q.1 ≠ b) → g.get? b = some o) →
      Fr g L' h₁ (bindL (envOfC qual scope L' f cdv).kindOf binds fun _ => none) → News g L' h₁ (cells ++ news) → CellsAre (bindC (envOfC qual scope L' f cdv).kindOf binds fun _ => none) (cellsFrom (L' + 1) scope.names []) cells →
      K.In g → Top p loose mean mg mb g → (∀ q ∈ news, q.1 < L') →
      wpAny (model PR w) (A.deeper (envOfC qual scope L' f cdv)) (execs body (envOfC qual scope L' f cdv))
        (fun fl s' => Q (match fl with | .ret v => v | _ => .none) s')
        (fun e s' => wpAny (model PR w) (A.deeper (envOfC qual scope L' f cdv)) (leaving (envOfC qual scope L' f cdv) e) (fun _ s'' => E e s'') (fun e' s'' => E e' s'') s')
        { s with heap := h₁, toks := tk })
    (hco : scope.isCoroutine = false := by rfl) (hgen : scope.isGenerator = false := by rfl) (hk : scope.kind = .function := by rfl) :
    wpAny (model PR w) A (call (.ref f) pos kw) Q E s := by
  refine wpAny_call ?_
  refine codeAny_call_function hroom ((X.keeps kh) _ _ ho) rfl hco hgen rfl (codeRec_of (X.keeps kh) hcd) (hbind _ _ _ _ ?_)
  refine wpAny_newFunctionEnv_cells hk (kindsX hkind _) fun env' he s' x => ?_
  subst he
  refine ⟨(T.nolimit.keeps kh).keeps x.toInCall.keep, codeAny_func ?_⟩
  (refine ob2_2 x.done fun h₁ tk e_39 _ => ?_; subst e_39)
  have hk₁ := x.toInCall.keep
  have st := ground kh hn
  (refine ob1_2 (Cl.news (h₀ := s.heap) (Nat.le_refl _) fun n c hm => ⟨x.cell n c (lookup_of_mem_nodup (cellsFrom_names scope.names 0 (s.heap.objs.size + 1) [] [] rfl ▸ hnd) hm), x.above n c hm⟩) fun cells NC Y => ?_)
  refine wpAny_mono (h _ s.heap.objs.size h₁ tk cells rfl rfl (fun b o e q => hideAll_get _ e fun m => ?_) ⟨x.toInCall.ns, fun b o e => hk₁ b o (of_hideAll _ e), Nat.le_of_eq (hideAll_size _ _)⟩ (fun p hp => ?_) Y (X.keeps st) (T.keeps st) (fun q hq => Heap.lt_size (hn q hq).1)) (fun fl s' hl => hl) fun _ _ y => y
  · (refine ob1_2 (List.mem_map.mp m) fun q' hq e' => ?_)
    exact q q' hq e'
  · rcases List.mem_append.mp hp with hp | hp
    · refine mk0_3 ((NC p hp).1) ((NC p hp).2.1) ?_
      cases q : (hideAll s.heap (news.map (·.1))).get? p.1 with
      | none => rfl
      | some o => have := of_hideAll _ q; rw [(NC p hp).2.2] at this; exact nos this
    · exact mk0_3 (hk₁ _ _ (hn p hp).1) (Nat.ne_of_lt (Heap.lt_size (hn p hp).1)) (hideAll_none _ (List.mem_map_of_mem hp))
end
end
section
theorem top_X9 : True := by w_top off; exact True.intro
theorem nameG_B {M : Model} {A : Around} {E : Value → Shared → Prop} {s : Shared} {h₀ : Heap} {L : Addr} {m : Str → Option Value} {env : Env} {K : Frag} {mg mb : Str → Option Value} {p : Program} {loose : List Str} {x : Str} {pos : Pos} {v : Value} {Q : Value → Shared → Prop} (F : Fr h₀ L s.heap m) (X : K.In h₀) (T : TopRead p loose mg mb h₀)
    (e : nsIn K mainGlobals x = some none) (hv : bootBuiltins x = some v) (hn : x ≠ "__name__") (h : Q v s) (hg : env.globals = mainGlobals) (hb : env.builtins = builtinsNs) (hk : env.scope.kind = .function) (hx : env.kindOf x = some .globalImplicit) (hd : (x == ("__debug__" : Str)) = false) :
    wpAny M A (eval (.Name x pos) env) Q E s :=
  Name_function_global hk hx (loadGlobal_builtin (env := env) (by rw [hg]; exact T.g.keeps F.keep) (mg_none_of X T.g e) (by rw [hb]; exact T.b.keeps F.keep) ((T.builtins x hn).trans hv) h) hd
theorem below_top {A : Around} {base g h : Heap} {outer : List Env} {L a : Addr} {m : Str → Option Value} {name : Str} {scope : Scope} {cl : List (Str × Addr)} {cd : Value} (K : Below A base outer g) (F : Fr g L h m) (hk : scope.kind = .function := by rfl) :
    ∃ b3, Below (A.deeper (envX name scope L a cd cl)) b3 (envX name scope L a cd cl :: outer) h ∧ base.StaysIn b3 ∧ (∀ b o, h.get? b = some o → b ∉ (envX name scope L a cd cl :: outer).filterMap (·.frame) → b3.get? b = some o) := by
  have K' := pushX (name := name) (a := a) (cd := cd) (cl := cl) K F hk
  have hin : ∀ env ∈ (envX name scope L a cd cl :: outer), ∀ b, env.frame = some b → b ∈ (envX name scope L a cd cl :: outer).filterMap (·.frame) := fun env he b hb => List.mem_filterMap.mpr ⟨env, he, hb⟩
  refine mk1_3 (hideAll h ((envX name scope L a cd cl :: outer).filterMap (·.frame))) ⟨K'.stack, fun b o q => of_hideAll _ q, funFrames_hide K'.frames hin⟩ (fun b o q => ?_) (fun b o q hn => hideAll_get _ q hn)
  refine hideAll_get _ (K'.stays b o q) fun hm => ?_
  rw [(K'.frames.mem hm).1] at q; exact nos q
theorem strs_get {vs : List Value} {ys : List Str} (x : StrsAre vs ys) {i : Nat} {v : Value} (q : vs[i]? = some v) : ∃ y t, ys[i]? = some y ∧ v = .str y t := by
  induction x generalizing i with
  | nil => exact nos q
  | cons y t r ih =>
    cases i with
    | zero => obtain rfl := Option.some.inj q; exact ⟨y, t, rfl, rfl⟩
    | succ i => exact ih (i := i) q
theorem list_src {w : World} {A : Around} {E : Value → Shared → Prop} {s : Shared} {env : Env} {outer : List Env} {cl : List (Str × Addr)} {elt : Expr} {x : Str} {scope : Scope} {Q : Value → Shared → Prop} {ax : Addr} {items : Array Value} {b3 : Heap} {k0 : Int} (F0 : Value → Value → Prop)
    (hh : A.handled = none) (hIL : s.heap.IsList ax items) (hsz : items.size ≤ sizeLine) (hb : b3.StaysIn s.heap) (hl : s.heap.FunFrames b3 (env :: outer))
    (helt : ∀ (C : Addr) (i : Nat) v h3 tk3 m₃ E', items[i]? = some v → h3.Ns C m₃ → m₃ x = some v → (∀ b o, s.heap.get? b = some o → h3.get? b = some o) →
      (∀ b4 e h' tk', (∀ b o, b4.get? b = some o → h3.get? b = some o) → (∀ b o, h3.get? b = some o → b ∉ (env :: outer).filterMap (·.frame) → b4.get? b = some o) → Raised b4 (env :: outer) e k0 h' → h3.UpToSlots h' → (∃ (j : Nat) (u : Value), items[j]? = some u ∧ ¬ ∃ y, F0 u y) → E' (.ref e) { s with heap := h', toks := tk' }) →
      wpAny (model PR w) A (eval elt (compEnvC scope cl C env)) (fun y s₄ => F0 v y ∧ Keeps { s with heap := h3, toks := tk3 } s₄) E' { s with heap := h3, toks := tk3 })
    (ok : ∀ D h' tk ys n, s.heap.get? D = none → h'.get? D = some (listOf ys n) → Paired F0 items.toList ys.toList → (∀ b o, s.heap.get? b = some o → h'.get? b = some o) → Q (.ref D) { s with heap := h', toks := tk })
    (exc : ∀ e h' tk', Raised b3 (env :: outer) e k0 h' → s.heap.UpToSlots h' → (∃ (j : Nat) (u : Value), items[j]? = some u ∧ ¬ ∃ y, F0 u y) → E (.ref e) { s with heap := h', toks := tk' }) :
    wpAny (model PR w) A (pyIter (.ref ax)) (fun it s₂ => ∃ I fp wr n P St base k, ∃ F : Value → Value → Prop, it = .ref I ∧ Walks PR w A I fp wr n P St ∧ n ≤ sizeLine ∧ St 0 s₂.heap ∧ (∀ b ∈ fp, b < s₂.heap.objs.size) ∧
      base.StaysIn s₂.heap ∧ s₂.heap.FunFrames base (env :: outer) ∧ (∀ b ∈ wr, base.get? b = none ∧ ∀ o, s₂.heap.get? b = some o → ∃ vs, o.data = .fields vs) ∧
      (∀ C i v s₃ h3 tk3 m₃ E', P i v → s₃ = { s₂ with heap := h3, toks := tk3 } → s₃.heap.Ns C m₃ → m₃ x = some v → (∀ b o, b ∉ wr → s₂.heap.get? b = some o → s₃.heap.get? b = some o) →
        (∀ b3 e h' tk', (∀ b o, b3.get? b = some o → s₃.heap.get? b = some o) → (∀ b o, s₃.heap.get? b = some o → b ∉ (env :: outer).filterMap (·.frame) → b3.get? b = some o) → Raised b3 (env :: outer) e k h' → s₃.heap.UpToSlots h' → (∃ j u, P j u ∧ ¬ ∃ y, F u y) → E' (.ref e) { s₃ with heap := h', toks := tk' }) →
        wpAny (model PR w) A (eval elt (compEnvC scope cl C env)) (fun y s₄ => F v y ∧ Keeps s₃ s₄) E' s₃) ∧
      (∀ D h' tk ys (vs : List Value), s₂.heap.get? D = none → h'.IsList D ys → h'.PlainList D ys → vs.length = n → (∀ j v, vs[j]? = some v → P j v) → Paired F vs ys.toList →
        (∀ b o, b ∉ wr → s₂.heap.get? b = some o → h'.get? b = some o) → Q (.ref D) { s₂ with heap := h', toks := tk }) ∧
      (∀ e h' tk', Raised base (env :: outer) e k h' → s₂.heap.UpToSlots h' → (∃ j u, P j u ∧ ¬ ∃ y, F u y) → E (.ref e) { s₂ with heap := h', toks := tk' })) E s := by
  have hne : ax ≠ s.heap.objs.size := by
    (refine ob1_2 hIL fun o ho _ => ?_; try clear hIL)
    exact Nat.ne_of_lt (Heap.lt_size ho)
  have up : ∀ (o0 : Obj) (h' : Heap), (∀ b o, b ∉ [s.heap.objs.size] → (s.heap.push o0).get? b = some o → h'.get? b = some o) → ∀ b o, s.heap.get? b = some o → h'.get? b = some o := fun o0 h' hk b o q =>
    hk b o (by simpa using Nat.ne_of_lt (Heap.lt_size q)) (Heap.get?_push_of_some _ q)
  refine wpAny_pyIter_list hIL ?_
  refine ⟨s.heap.objs.size, [s.heap.objs.size, ax], [s.heap.objs.size], items.size, _, _, b3, k0, F0, rfl, Walks.list hh _ ax hne items, hsz, ⟨⟨_, Heap.get?_push_size _ rfl, rfl, rfl⟩, hIL.at fun o q => Heap.get?_push_of_some _ q⟩, ?_, fun b o q => Heap.get?_push_of_some _ (hb b o q),
    hl.of_keeps fun b o q _ => ⟨o, Heap.get?_push_of_some _ q, rfl⟩, ?_, ?_, ?_, ?_⟩
  · intro b hm
    show b < (s.heap.push _).objs.size
    rw [Heap.size_push]
    rcases List.mem_cons.mp hm with rfl | hm
    · exact Nat.lt_succ_self _
    · rw [List.mem_singleton.mp hm]
      (refine ob1_2 hIL fun o ho _ => ?_; try clear hIL)
      exact Nat.lt_succ_of_lt (Heap.lt_size ho)
  · intro b hm
    rw [List.mem_singleton.mp hm]
    refine ⟨hb.fresh, fun o q => ?_⟩
    rw [Heap.get?_push_size _ rfl] at q
    obtain rfl := Option.some.inj q; exact ⟨_, rfl⟩
  · rintro C i v s₃ h3 tk3 m₃ E' hP rfl n1 n2 hk hexc
    exact helt C i v h3 tk3 m₃ E' hP n1 n2 (up _ _ hk) hexc
  · intro D h' tk ys vs hD hl1 hpl hlen hP hF hk
    (refine ob1_1 hpl fun n e => ?_; try clear hpl)
    have hvs : vs = items.toList := by
      apply List.ext_getElem?
      intro i
      cases q : vs[i]? with
      | none =>
        rw [List.getElem?_eq_none_iff] at q
        rw [eq_comm, List.getElem?_eq_none_iff, Array.length_toList]
        omega
      | some v => rw [Array.getElem?_toList]; exact (hP i v q).symm
    rw [hvs] at hF
    refine ok D h' tk ys n ?_ e hF (up _ _ hk)
    cases q : s.heap.get? D with
    | none => rfl
    | some o => rw [Heap.get?_push_of_some _ q] at hD; exact nos' hD
  · intro e h' tk' R U bad
    refine exc e h' tk' R (fun b o q hn => U b o (Heap.get?_push_of_some _ q) hn) bad
theorem below_use {α : Type} {M : Model} {A : Around} {E : Value → Shared → Prop} {s : Shared} {base g : Heap} {outer : List Env} {L : Addr} {m : Str → Option Value} {env : Env} {t : Sem α} {Q : α → Shared → Prop} (K : Below A base outer g) (F : Fr g L s.heap m) (hf : env.frame = some L) (hk : env.scope.kind = .function)
    (h : ∀ b3, Below (A.deeper env) b3 (env :: outer) s.heap → base.StaysIn b3 → (∀ b o, s.heap.get? b = some o → b ∉ (env :: outer).filterMap (·.frame) → b3.get? b = some o) → wpAny M (A.deeper env) t Q E s) : wpAny M (A.deeper env) t Q E s := by
  have K' := PySem.W.pushX K F hf hk
  have hin : ∀ e ∈ (env :: outer), ∀ b, e.frame = some b → b ∈ (env :: outer).filterMap (·.frame) := fun e he b hb => List.mem_filterMap.mpr ⟨e, he, hb⟩
  refine h (hideAll s.heap ((env :: outer).filterMap (·.frame))) ⟨K'.stack, fun b o q => of_hideAll _ q, funFrames_hide K'.frames hin⟩ (fun b o q => ?_) fun b o q hn => hideAll_get _ q hn
  refine hideAll_get _ (K'.stays b o q) fun hm => ?_
  rw [(K'.frames.mem hm).1] at q; exact nos q
end
local macro_rules | `(tactic| walk_at "eval Name") => `(tactic| (k_here; k_inBlock; (with_reducible rename Fr _ _ _ _ => kF); k_dflt (refine' nameG_B kF ?k1 ?k2 ?k3 ?k8 ?k9 ?_ ?k4 ?kb ?k5 ?k6 ?k7; (case k4 | kb | k5 | k6 => rfl); (case k7 => decide); (case k1 | k2 => k_asm); (case k3 => k_is); (case k8 => boot_by_name); (case k9 => decide); k_whole)))
section
section
local macro_rules | `(tactic| walk_at "Z pad") => `(tactic| skip)
theorem top_P4 : True ∧ True := by w_top off; (try (walk1; fail)); exact ⟨True.intro, True.intro⟩
end
theorem datsI_of {vs : List Value} {ys : List Int} : CarriedAll vs (ys.map PyData.int) → DatAll [] vs (ys.map Dat.int) := by
  induction ys generalizing vs with
  | nil => intro h; cases h; exact .nil
  | cons y r ih => intro h; cases h with | cons a b => cases a; exact .cons (.int _ _) (ih b)
theorem strmap (d : Str → Int) {w : World} {A : Around} {E : Value → Shared → Prop} {s : Shared} {g : Heap} {L : Addr} {m : Str → Option Value} {news : Led} {env : Env} {elt : Expr} {x : Str} {scope : Scope} {Q : Value → Shared → Prop} {y : Str} {t : Tok}
    (F : Fr g L s.heap m) (N : News g L s.heap news) (hh : A.handled = none) (hy : y.length ≤ sizeLine)
    (g2 : ∀ C a t s₂ m₂ E', a.length = 1 → s₂.heap.Ns (compEnv scope C env).locals m₂ → m₂ x = some (.str a t) → Fr g L s₂.heap m → wpAny (model PR w) A (eval elt (compEnv scope C env)) (fun r s₃ => Carried r (.int (d a)) ∧ Keeps s₂ s₃) E' s₂)
    (g3 : ∀ D vs n h' tk, Fr g L h' m → News g L h' ((D, listOf vs.toArray n) :: news) → DatAll [] vs (((signs y).map d).map Dat.int) → (∀ q ∈ news, q.1 ≠ D) → Q (.ref D) { s with heap := h', toks := tk }) :
    wpAny (model PR w) A (pyIter (.str y t)) (CompPost PR w A env scope x [] elt Q) E s := by
  unfold CompPost
  refine wpAny_pyIter_str fun o St W hst => ?_
  have up : ∀ (h' : Heap), (∀ b o', b ∉ [s.heap.objs.size] → (s.heap.push o).get? b = some o' → h'.get? b = some o') → ∀ b o', s.heap.get? b = some o' → h'.get? b = some o' :=
    fun h' hk b o' e => hk b o' (by simpa using Nat.ne_of_lt (Heap.lt_size e)) (Heap.get?_push_of_some _ e)
  refine ⟨ItemKind.str.lift fun _ => true, fun v r => ∃ a, ItemKind.str.is a v ∧ Carried r (PyData.int (d a)), s.heap.objs.size, [s.heap.objs.size], [s.heap.objs.size], y.cps.size, SignAt y, St, rfl, W A hh, hy, hst, ?_, ⟨?_, ?_⟩, ?_⟩
  · intro b hb
    rw [List.mem_singleton.mp hb]
    show _ < (s.heap.push o).objs.size
    rw [Heap.size_push]
    exact Nat.lt_succ_self _
  · intro C i v s₃ m₃ E' hP hn hm hk _
    (refine ob2_2 hP fun c u _ e_41 => ?_; try clear hP; subst e_41)
    rw [ItemKind.lift_is (K := ItemKind.str) (a := ⟨#[c]⟩) ⟨u, rfl⟩]
    exact wpAny_pure ⟨rfl, s₃.heap, s₃.toks, rfl, fun _ _ e => e⟩
  · intro C i v s₃ m₃ E' hP _ hn hm hk _
    (refine ob2_2 hP fun c u _ e_42 => ?_; try clear hP; subst e_42)
    exact wpAny_mono (g2 C _ _ s₃ m₃ E' rfl hn hm (F.keeps (up _ hk))) (fun r s₄ h₄ => ⟨⟨_, ⟨u, rfl⟩, h₄.1⟩, h₄.2⟩) fun _ _ e => e
  · intro D h' tk ys vs hnew hlD hplD hlen hP hF hk
    (refine ob1_1 hplD fun n e => ?_; try clear hplD)
    have hne : ∀ b o', s.heap.get? b = some o' → b ≠ D := fun b o' q z => by subst z; rw [Heap.get?_push_of_some _ q] at hnew; exact nos' hnew
    have hgD : g.get? D = none := by
      cases z : g.get? D with
      | none => rfl
      | some o' => exact absurd rfl (hne _ _ (F.keep _ _ z))
    (refine ob3_2 F.ns fun oL _ _ hL _ => ?_)
    have hc := (areOf_signs hlen hP).paired (fun _ => true) (fun a => PyData.int (d a)) _ hF
    rw [List.filter_eq_self.mpr fun _ _ => rfl, show (signs y).map (fun a => PyData.int (d a)) = ((signs y).map d).map PyData.int by rw [List.map_map]; rfl] at hc
    exact g3 D ys.toList n h' tk (F.keeps (up h' hk)) (newsC ⟨by simpa using e, (hne _ _ hL).symm, hgD⟩ (N.grown (up h' hk))) (datsI_of hc) fun q hq => hne _ _ (N q hq).1
def textVal (word : Str) : Option (List Int) := if (word == Str.ofString "-") = true then some [] else if (Txt.slice word none (some 2) == Str.ofString "U+") = true then (Txt.split word (Str.ofString ",")).mapM codeVal else some ((signs word).map fun a => ((a.cps.getD 0 0 : Nat) : Int))
def PartIs (v y : Value) : Prop := ∃ c t n t', v = .str c t ∧ y = .int n t' ∧ codeVal c = some n
theorem parts_dat {vs : List Value} {ps : List Str} {ys : List Value} (x : StrsAre vs ps) (y : Paired PartIs vs ys) : ∃ ns, ps.mapM codeVal = some ns ∧ DatAll [] ys (ns.map Dat.int) := by
  induction x generalizing ys with
  | nil => cases y; exact ⟨[], rfl, .nil⟩
  | cons c t r ih =>
    cases y with
    | cons h hr =>
      (refine ob4_3 h fun c t2 n t' e1 e_43 e3 => ?_; try clear h; subst e_43)
      cases e1
      exact ob1_2 (ih hr) fun ns e4 e5 => ⟨n :: ns, by rw [List.mapM_cons, e3, e4]; rfl, .cons (.int _ _) e5⟩
theorem mapM_bad {ps : List Str} {c : Str} (hc : c ∈ ps) (h : codeVal c = none) : ps.mapM codeVal = none := by
  induction ps with
  | nil => cases hc
  | cons a r ih =>
    rw [List.mapM_cons]
    rcases List.mem_cons.mp hc with rfl | hc
    · rw [h]; rfl
    · rw [ih hc]
      cases codeVal a <;> rfl
theorem text_spec {w : World} {A : Around} {E : Value → Shared → Prop} {s : Shared} {base : Heap} {outer : List Env} {p : Program} {loose : List Str} {mean : ExcName → Option Value} {mg mb : Str → Option Value} {Q : Value → Shared → Prop}
    {word : Str} {place : Int} {t1 t3 : Tok}
    (B : Below A base outer s.heap) (X : (Mine.hd.heap_39 w.params).In base) (T : Top p loose mean mg mb base) (hA : A.handled = none) (hd : A.depth ≤ 890) (hu : A.units ≤ 1900)
    (hw : word.length ≤ 63) (hp : (Txt.split word (Str.ofString ",")).length ≤ 100) (hs : ∀ q ∈ Txt.split word (Str.ofString ","), ∀ c ∈ signs (Txt.slice q (some 2) none), PyData.strOk c = true)
    (ret : ∀ ns, textVal word = some ns → ∀ D vs n h' tk', s.heap.get? D = none → h'.get? D = some (listOf vs.toArray n) → DatAll [] vs (ns.map Dat.int) → (∀ b o, s.heap.get? b = some o → h'.get? b = some o) → Q (.ref D) { s with heap := h', toks := tk' })
    (exc : textVal word = none → ∀ e h' tk', Raised base outer e place h' → s.heap.UpToSlots h' → E (.ref e) { s with heap := h', toks := tk' }) :
    wpAny (model PR w) A (call (.ref 114) [.str word t1, .int place t3]) Q E s := by
  k_dflt (refine' enter_c (news := []) (binds := [(Str.ofString "word", .str word t1), (Str.ofString "place", .int place t3)]) ?k1 ?k2 ?k3 ?k4 ?k6 ?k7 ?k8 ?k9 ?kB ?kD ?_ ?c2 ?c3 ?c4; walk_at "MY enter")
  case k8 => show A.depth < 1000; omega
  intro g' L' h' tk' cells' hg hL kg2 F' N' Y' X' T' hlt
  have B' : Below A base outer g' := by rw [hg]; exact B
  replace hg : g' = s.heap := hg
  k_cells Y'
  (try simp only [List.cons_append, List.nil_append] at N')
  try dsimp only
  show wpAny _ _ _ _ _ _
  k_fold
  have XT := And.intro X T
  clear X T
  walk_at "MY steps"
  all_goals try (unfold Stop; (with_reducible show wpAny _ _ (pyIter _) (CompPost _ _ _ _ _ _ [] _ _) _ _); refine' strmap (fun a => ((a.cps.getD 0 0 : Nat) : Int)) ?k1 ?k2 ?k3 ?k4 ?g2 ?_; (case k1 | k2 => k_asm); (case k3 => first | rfl | assumption); (case k4 => first | size_fits | (rw [sizeLine_eq]; omega)); (case g2 => (intro C' a' t' s' m' E' n0 n1 n2 n3; refine wpAny_leafK ?_;  walk_at "MY steps")); k_whole; intro D' vs' n' h' tk' F' N' hS' hne'; all_goals walk_at "MY steps")
  all_goals subst hg
  next =>
    refine ret [] (if_pos (by assumption)) _ [] _ _ _ ?_ (News.get (by assumption) (List.Mem.head _)) .nil (Fr.keep (by assumption))
    exact (by assumption : News _ _ _ _) _ (List.Mem.head _) |>.2.2
  next => 
    refine listcomp_raise (Around.frames_deeper (Below.stack (by assumption))) rfl rfl (by decide) rfl (by decide) rfl ?_
    show wpAny _ _ _ _ _ _
    walk_at "MY steps"
    rename (Heap.IsList _ _ _) => hIL
    rename (StrsAre _ _) => hSA
    rename (Fr _ _ _ _) => FE
    rename (News _ _ _ _) => NE
    rename (List.map _ _ = Txt.split _ _) => hSp
    have hlen : ∀ c ∈ Txt.split word (Str.ofString ","), c.length ≤ word.length := by rw [← hSp]; assumption
    rw [hSp] at hSA
    refine below_use (by assumption) FE rfl rfl fun b3 B3 hb3 hb3' => ?_
    refine list_src PartIs (b3 := b3) (k0 := place) ?hh hIL ?sz B3.stays B3.frames ?helt ?ok ?exc
    case helt =>
      intro C i v h3 tk3 m₃ E' hi n1 n2 hk hexc
      (refine ob2_2 (strs_get hSA (by simpa using hi)) fun c t hc e_44 => ?_; subst e_44)
      have n3 := FE.keeps hk
      have n4 := NE.grown hk
      show wpAny _ _ _ _ _ _
      walk_at "MY steps"
      refine below_use (by assumption) n3 rfl rfl fun b4 B4 hb4 hb4' => ?_
      have hcm := List.mem_of_getElem? hc
      refine code_spec B4 (XT.1.keeps hb4) (XT.2.keeps hb4) hA (show A.depth + 1 ≤ 900 by omega) (show A.units + 3 ≤ 2000 by omega) (Nat.le_trans (hlen c hcm) hw) (hs c hcm) ?_ ?_
      · intro n hn t h' tk' hk'
        exact ⟨⟨c, _, n, _, rfl, rfl, hn⟩, h', _, rfl, hk'⟩
      · intro hn e h' tk' R U
        refine hexc b4 e h' _ B4.stays hb4' R U ⟨i, _, hi, ?_⟩
        (intro o_45; (refine ob5_1 o_45 fun y c' t' n t'' q_46 => ob0_3 q_46 fun e1 _ e3 => ?_; try clear o_45))
        cases e1
        rw [hn] at e3; exact nos e3
    case hh => exact hA
    case sz =>
      have e1 := hSA.length
      rw [List.size_toArray, sizeLine_eq]
      omega
    case ok =>
      intro D h' tk ys n hD he hP hk
      (refine ob1_2 (parts_dat hSA hP) fun ns q1 q2 => ?_)
      refine ret ns (by unfold textVal; rw [if_neg (by simp_all), if_pos (by assumption)]; exact q1) D ys.toList n h' _ ?_ (by simpa using he) q2 fun b o q => hk b o (FE.keep b o q)
      cases z : s.heap.get? D with
      | none => rfl
      | some o => have := FE.keep _ _ z; rw [hD] at this; exact nos this
    case exc =>
      intro e h' tk R U bad
      show wpAny _ _ (leaving _ (.ref e)) _ _ _
      refine leave_on (by assumption) FE (R.base hb3) U fun h'' R'' U'' => ?_
      refine exc ?_ e h'' _ (R''.base ?_) U''
      · (refine ob2_2 bad fun j u hj hu => ?_; try clear bad)
        (refine ob2_2 (strs_get hSA (by simpa using hj)) fun c t hc e_47 => ?_; subst e_47)
        unfold textVal
        rw [if_neg (by simp_all), if_pos (by assumption)]
        refine mapM_bad (List.mem_of_getElem? hc) ?_
        cases z : codeVal c with
        | none => rfl
        | some n => exact absurd ⟨.int n 0, c, t, n, 0, rfl, rfl, z⟩ hu
      · exact fun b o q => q
  next =>
    refine ret _ (by unfold textVal; rw [if_neg (by simp_all), if_neg (by simp_all)]) _ _ _ _ _ ?_ (News.get (by assumption) (List.Mem.head _)) (by assumption) (Fr.keep (by assumption))
    exact (by assumption : News _ _ _ _) _ (List.Mem.head _) |>.2.2
end
section
theorem top_P5 : True := by w_top off; exact True.intro
theorem numOk_false {word : Str} {n most : Int} (h : (word == Str.ofString "") = true ∨ 9 < (word.length : Int) ∨ decide (List.map Dat.str (List.filter (pzOf (Str.ofString "0123456789")) (signs word)) = []) = false ∨ ¬ n ≤ most) : numOk word n most = false := by
  unfold numOk
  rcases h with h | h | h | h
  · rw [h]; rfl
  · rw [decide_eq_false (show ¬ word.length ≤ 9 by omega)]; simp
  · rw [decide_eq_false (p := List.filter (pzOf (Str.ofString "0123456789")) (signs word) = []) fun z => by rw [z] at h; cases h]; simp
  · rw [decide_eq_false h]; simp
theorem word_ne {word : Str} (h : (0 : Int) < word.length) : (word == Str.ofString "") = false := by
  cases z : word == Str.ofString "" with
  | false => rfl
  | true =>
    rw [beq_iff_eq] at z
    subst z
    exact absurd h (by decide)
theorem word_emp {word : Str} (h : ¬ (0 : Int) < word.length) : (word == Str.ofString "") = true := by
  obtain ⟨a⟩ := word
  have h2 : a.size = 0 := by
    have h3 : ¬ (0 : Int) < (a.size : Int) := h
    omega
  rw [Array.size_eq_zero_iff.mp h2]
  decide
theorem news_new {s g h : Heap} {L : Addr} {news : Led} {q : Addr × Obj} (kg2 : ∀ b o, s.get? b = some o → (∀ q ∈ ([] : Led), q.1 ≠ b) → g.get? b = some o) (N : News g L h news) (hq : q ∈ news) : s.get? q.1 = none := by
  cases z : s.get? q.1 with
  | none => rfl
  | some o => have := kg2 _ _ z nil_all; rw [(N q hq).2.2] at this; exact nos this
local macro_rules | `(tactic| walk_at "call type:int") => `(tactic| (refine' KIN.call_text ?hn ?hl ?_; (case hn => exact num_hn (by assumption) (word_ne (by assumption)) (by assumption)); (case hl => omega); k_whole))
abbrev faultO (k : Int) (t1 t2 : Tok) : Obj := tupO [.str (Str.ofString "fault") t1, .int k t2]
theorem lnumber_spec {w : World} {A : Around} {E : Value → Shared → Prop} {s : Shared} {h₀ : Heap} {p : Program} {loose : List Str} {mean : ExcName → Option Value} {mg mb : Str → Option Value} {Q : Value → Shared → Prop}
    {word : Str} {most place n : Int} {t1 t2 t3 : Tok}
    (kh : ∀ b o, h₀.get? b = some o → s.heap.get? b = some o) (X : (Mine.hd.heap_39 w.params).In h₀) (T : Top p loose mean mg mb h₀) (hA : A.handled = none) (hd : A.depth ≤ 900) (hu : A.units ≤ 2000)
    (hw : word.length ≤ 63) (hs : ∀ c ∈ signs word, PyData.strOk c = true)
    (hn : (word == Str.ofString "") = false → (signs word).filter (pzOf (Str.ofString "0123456789")) = [] → PySem.intText? word = some n)
    (ret : numOk word n most = true → ∀ t h' tk', (∀ b o, s.heap.get? b = some o → h'.get? b = some o) → Q (.int n t) { s with heap := h', toks := tk' })
    (exc : numOk word n most = false → ∀ D t t' h' tk', s.heap.get? D = none → h'.get? D = some (faultO place t t') → (∀ b o, s.heap.get? b = some o → h'.get? b = some o) → Q (.ref D) { s with heap := h', toks := tk' }) :
    wpAny (model PR w) A (call (.ref 401) [.str word t1, .int most t2, .int place t3]) Q E s := by
  k_dflt (refine' enter_plain (news := []) (binds := [(Str.ofString "word", .str word t1), (Str.ofString "most", .int most t2), (Str.ofString "place", .int place t3)]) (rb := [(Str.ofString "place", .int place t3), (Str.ofString "most", .int most t2), (Str.ofString "word", .str word t1)]) ?k1 ?k2 ?k3 ?k4 ?k6 ?k7 ?k8 ?k9 ?kB ?_ rfl ?c5 ?c2 ?c3 ?c4; walk_at "MY enter")
  case k8 => show A.depth < 1000; omega
  intro g' L' h' kg kg2 kg3 F' N' X' T' hL hlt
  show wpAny _ _ _ _ _ _
  k_fold
  clear X T
  walk_at "MY steps"
  all_goals try (unfold Stop; (with_reducible show wpAny _ _ (pyIter _) (CompPost _ _ _ _ _ _ _ _ _) _ _); refine' strcomp (Str.ofString "0123456789") ?k1 ?k2 ?k3 ?k4 ?g1 ?g2 ?_; (case k1 | k2 => k_asm); (case k3 => first | rfl | assumption); (case k4 => size_fits); (case g1 => (intro C' a' t' s' m' E' n1 n2 n3; refine wpAny_leafK ?_; walk_at "MY steps")); (case g2 => (intro C' a' t' s' m' E' n1 n2 n3; refine wpAny_leafK ?_;  walk_at "MY steps")); k_whole; intro D' vs' n' h' tk' F' N' hS' hne'; all_goals walk_at "MY steps")
  all_goals have keep : ∀ b o, s.heap.get? b = some o → _ := fun b o e => Fr.keep (by assumption) b o (kg2 b o e nil_all)
  all_goals first
    | (refine ret ?_ _ _ _ keep; unfold numOk; rw [word_ne (by assumption)]; simp_all <;> omega)
    | (refine exc (numOk_false ?_) _ _ _ _ _ (news_new kg2 (by assumption) (List.Mem.head _)) (News.get (by assumption) (List.Mem.head _)) keep; first | exact .inl (word_emp (by assumption)) | exact .inr (.inl (by omega)) | exact .inr (.inr (.inl (by assumption))) | exact .inr (.inr (.inr (by assumption))))
end
section
theorem top_L2 : True := by w_top off; exact True.intro
theorem strloopU {w : World} {A : Around} {E : Value → Shared → Prop} {s : Shared} {h₀ : Heap} {env : Env} {m : Str → Option Value} {news : Led} {x : Str} {body : List Stmt} {Q : Flow → Shared → Prop} {y : Str} {t t0 : Tok} {c0 : Int} (z : Str) (step : Int → Str → Int)
    (hh : A.handled = none) (F : Fr h₀ env.locals s.heap m) (N : News h₀ env.locals s.heap news) (hzx : z ≠ x) (hz : m z = some (.int c0 t0))
    (turn : ∀ i c k t u s₁ own, (signs y)[i]? = some k → c = ((signs y).take i).foldl step c0 → Fr h₀ env.locals s₁.heap (fun v => if v = x then some (.str k u) else if v = z then some (.int c t) else m v) → News h₀ env.locals s₁.heap (own ++ news) →
      wpAny (model PR w) A (execs body env) (TurnZ h₀ env.locals own news m x z (.str k u) (step c k) s₁) E s₁)
    (done : ∀ h' tk t mx, Fr h₀ env.locals h' (fun v => if v = z then some (.int ((signs y).foldl step c0) t) else if v = x then mx else m v) → News h₀ env.locals h' news → Q .next { s with heap := h', toks := tk }) :
    wpAny (model PR w) A (pyIter (.str y t)) (fun it s₂ => LoopAtU PR w A h₀ env x body Q E it s₂) E s := by
  refine wpAny_pyIter_str fun o St W hst => ?_
  have hno : ∀ b o', s.heap.get? b = some o' → b ≠ s.heap.objs.size := fun b o' q => Nat.ne_of_lt (Heap.lt_size q)
  refine ⟨s.heap.objs.size, [s.heap.objs.size], [s.heap.objs.size], y.cps.size, SignAt y, St, m, news,
    fun i m₁ n₁ => n₁ = news ∧ (∀ v, v ≠ x → v ≠ z → m₁ v = m v) ∧ ∃ t, m₁ z = some (.int (((signs y).take i).foldl step c0) t), rfl, W A hh, ?_, ?_, ?_, hst, F.push o, fun p hp => ⟨Heap.get?_push_of_some _ (N p hp).1, (N p hp).2⟩, ⟨rfl, fun _ _ _ => rfl, t0, hz⟩, ?_, ?_⟩
  · intro hm
    exact absurd F.ns.lt ((List.mem_singleton.mp hm) ▸ Nat.lt_irrefl _)
  · intro b hb
    rw [List.mem_singleton.mp hb]
    cases q : h₀.get? s.heap.objs.size with
    | none => rfl
    | some o' => exact absurd rfl (hno _ _ (F.keep _ _ q))
  · intro p hp hm
    exact hno _ _ (N p hp).1 (List.mem_singleton.mp hm)
  · (intro i v m₁ news₁ s₁ own hi o_48 o_50 hnw _ _ _ _ F₁ N₁; (refine ob2_2 o_48 fun c u hc e_49 => ?_; try clear o_48; subst e_49); obtain ⟨rfl, hm, tz, hmz⟩ := o_50)
    have hk : (signs y)[i]? = some ⟨#[c]⟩ := by simp [signs, hc]
    have e : (fun v => if v = x then some (Value.str ⟨#[c]⟩ u) else m₁ v) = fun v => if v = x then some (.str ⟨#[c]⟩ u) else if v = z then some (.int (((signs y).take i).foldl step c0) tz) else m v := by
      funext v
      by_cases h1 : v = x
      · simp [h1]
      · by_cases h2 : v = z
        · simp [h2, hzx, hmz]
        · simp [h1, h2, hm v h1 h2]
    rw [e] at F₁
    refine wpAny_mono (turn i _ ⟨#[c]⟩ tz u s₁ own hk rfl F₁ N₁) (fun f s₂ h₂ => ?_) fun _ _ e => e
    obtain ⟨rfl, h', tk, t', rfl, F₂, N₂⟩ := h₂
    refine LoopStepU.intro F₂ N₂ hnw ⟨rfl, fun v h1 h2 => by simp [h1, h2], t', ?_⟩
    simp [List.take_add_one, hk]
  · (intro h' tk m' news' F' N' _ o_54; obtain ⟨rfl, hm, tz, hmz⟩ := o_54)
    have hl : y.cps.size = (signs y).length := by rw [signs_length]; rfl
    rw [hl, List.take_length] at hmz
    have e : m' = fun v => if v = z then some (.int ((signs y).foldl step c0) tz) else if v = x then m' x else m v := by
      funext v
      by_cases h2 : v = z
      · simp [h2, hmz]
      · by_cases h1 : v = x
        · simp [h1, hzx.symm]
        · simp [h1, h2, hm v h1 h2]
    rw [e] at F'
    exact done h' tk tz (m' x) F' N'
end
section
theorem top_P6 : True := by w_top off; exact True.intro
theorem lc_hex {word : Str} (hsl : (Txt.slice word (some 2) none).length = word.length - 2) (h1 : (word.length : Int) ≠ 1) (h2 : (Txt.slice word none (some 2) == Str.ofString "U+") = true) (h3 : (4 : Int) ≤ (word.length : Int) - 2) (h4 : (word.length : Int) - 2 ≤ 6)
    (h5 : decide (List.map Dat.str (List.filter (pzOf (Str.ofString "0123456789ABCDEF")) (signs (Txt.slice word (some 2) none))) = []) = true) (h6 : hexVal word < 1114112) : codeVal word = some (hexVal word) :=
  cv_hex h1 (by rw [bne, h2]; rfl) (by omega) (by omega) h5 (by omega)
theorem lc_none {word : Str} (hsl : (Txt.slice word (some 2) none).length = word.length - 2) (h1 : (word.length : Int) ≠ 1) (h : (Txt.slice word none (some 2) == Str.ofString "U+") = false ∨ ¬ (4 : Int) ≤ (word.length : Int) - 2 ∨ ¬ (word.length : Int) - 2 ≤ 6 ∨
    decide (List.map Dat.str (List.filter (pzOf (Str.ofString "0123456789ABCDEF")) (signs (Txt.slice word (some 2) none))) = []) = false ∨ ¬ hexVal word < 1114112) : codeVal word = none := by
  refine cv_none h1 (not_hex ?_)
  rcases h with h | h | h | h | h
  · exact .inl (by rw [bne, h]; rfl)
  · exact .inr (.inl (by omega))
  · exact .inr (.inr (.inl (by omega)))
  · exact .inr (.inr (.inr (.inl h)))
  · exact .inr (.inr (.inr (.inr (by omega))))
theorem lcode_spec {w : World} {A : Around} {E : Value → Shared → Prop} {s : Shared} {h₀ : Heap} {p : Program} {loose : List Str} {mean : ExcName → Option Value} {mg mb : Str → Option Value} {Q : Value → Shared → Prop}
    {word : Str} {place : Int} {t1 t3 : Tok}
    (kh : ∀ b o, h₀.get? b = some o → s.heap.get? b = some o) (X : (Mine.hd.heap_39 w.params).In h₀) (T : Top p loose mean mg mb h₀) (hA : A.handled = none) (hd : A.depth ≤ 900) (hu : A.units ≤ 2000)
    (hw : word.length ≤ 63) (hsl : (Txt.slice word (some 2) none).length = word.length - 2) (hs : ∀ c ∈ signs (Txt.slice word (some 2) none), PyData.strOk c = true)
    (ret : ∀ n, codeVal word = some n → ∀ t h' tk', (∀ b o, s.heap.get? b = some o → h'.get? b = some o) → Q (.int n t) { s with heap := h', toks := tk' })
    (exc : codeVal word = none → ∀ D t t' h' tk', s.heap.get? D = none → h'.get? D = some (faultO place t t') → (∀ b o, s.heap.get? b = some o → h'.get? b = some o) → Q (.ref D) { s with heap := h', toks := tk' }) :
    wpAny (model PR w) A (call (.ref 406) [.str word t1, .int place t3]) Q E s := by
  k_dflt (refine' enter_plain (news := []) (binds := [(Str.ofString "word", .str word t1), (Str.ofString "place", .int place t3)]) (rb := [(Str.ofString "place", .int place t3), (Str.ofString "word", .str word t1)]) ?k1 ?k2 ?k3 ?k4 ?k6 ?k7 ?k8 ?k9 ?kB ?_ rfl ?c5 ?c2 ?c3 ?c4; walk_at "MY enter")
  case k8 => show A.depth < 1000; omega
  intro g' L' h' kg kg2 kg3 F' N' X' T' hL hlt
  show wpAny _ _ _ _ _ _
  k_fold
  clear X T
  walk_at "MY steps"
  all_goals try (unfold Stop; (with_reducible show wpAny _ _ (pyIter _) (fun it s₂ => LoopAtU _ _ _ _ _ _ _ _ _ it s₂) _ _); refine' strloopU (Str.ofString "total") (fun c k => 16 * c + (Txt.find (Str.ofString "0123456789ABCDEF") k : Int)) ?k1 ?k2 ?k3 ?k4 ?k5 ?_ ?_; (case k1 => first | rfl | assumption); (case k2 | k3 => k_asm); (case k4 => decide); (case k5 => rfl); all_goals walk_at "MY steps")
  all_goals try (unfold Stop; (with_reducible show wpAny _ _ (pyIter _) (CompPost _ _ _ _ _ _ _ _ _) _ _); refine' strcomp (Str.ofString "0123456789ABCDEF") ?k1 ?k2 ?k3 ?k4 ?g1 ?g2 ?_; (case k1 | k2 => k_asm); (case k3 => first | rfl | assumption); (case k4 => first | size_fits | (rw [sizeLine_eq]; omega)); (case g1 => (intro C' a' t' s' m' E' n1 n2 n3; refine wpAny_leafK ?_; walk_at "MY steps")); (case g2 => (intro C' a' t' s' m' E' n1 n2 n3; refine wpAny_leafK ?_;  walk_at "MY steps")); k_whole; intro D' vs' n' h' tk' F' N' hS' hne'; all_goals walk_at "MY steps")
  all_goals try (intro i c k t u s₁ own hk hc FE NE; show wpAny _ _ _ _ _ _; walk_at "MY steps")
  all_goals first
    | (refine turnZ_end (by assumption) (by assumption) rfl rfl fun v h1 h2 => ?_; simp [h1, h2])
    | skip
  all_goals have keep : ∀ b o, s.heap.get? b = some o → _ := fun b o e => Fr.keep (by assumption) b o (kg2 b o e nil_all)
  all_goals first
    | exact ret _ (cv_one (by assumption)) _ _ _ keep
    | exact ret _ (lc_hex hsl (by assumption) (by assumption) (by assumption) (by assumption) (by assumption) (by assumption)) _ _ _ keep
    | (refine exc (lc_none hsl (by assumption) ?_) _ _ _ _ _ (news_new kg2 (by assumption) (List.Mem.head _)) (News.get (by assumption) (List.Mem.head _)) keep; first | exact .inl (by assumption) | exact .inr (.inl (by assumption)) | exact .inr (.inr (.inl (by assumption))) | exact .inr (.inr (.inr (.inl (by assumption)))) | exact .inr (.inr (.inr (.inr (by assumption)))))
end
section
theorem top_C2 : True := by w_top off; exact True.intro
def dOf (place : Int) (p : Str) : Dat := match codeVal p with | some n => .int n | none => .tuple [.str (Str.ofString "fault"), .int place]
theorem datAll_snoc {fl : Led} {y : Value} {d : Dat} {vs : List Value} {ds : List Dat} (x : DatAll fl vs ds) (h : DatIn fl y d) : DatAll fl (vs ++ [y]) (ds ++ [d]) := by
  induction ds generalizing vs with
  | nil => cases x; exact .cons h .nil
  | cons d ds ih => cases x with | cons a r => exact .cons a (ih r)
theorem codes_rest {w : World} {A : Around} {h₀ : Heap} {L : Addr} {m : Str → Option Value} {env : Env} {elt : Expr} {x : Str} {scope : Scope} {cl : List (Str × Addr)} {s : Shared} {S : Led → Prop} {P : Nat → Value → Prop} {Fin : List Value → Led → Prop} {news : Led} {n : Nat} {ps : List Str} {place : Int}
    (hn : ps.length = n) (hP : ∀ i v, P i v → ∃ p t, ps[i]? = some p ∧ v = .str p t) (hS : ∀ nw, (∀ q ∈ news, q ∈ nw) → S nw)
    (turn : ∀ p t I oI C oC D m₂ ys nw h tk (E' : Value → Shared → Prop), p ∈ ps → LCg.NsObj oC m₂ → m₂ x = some (.str p t) → Fr h₀ L h m → News h₀ L h ((I, oI) :: (C, oC) :: (D, LCg.lst ys) :: nw) → (∀ q ∈ news, q ∈ nw) →
      wpAny (model PR w) A (eval elt (compEnvC scope cl C env)) (fun y s' => ∃ h' tk', s' = { s with heap := h', toks := tk' } ∧ (∀ b o, h.get? b = some o → h'.get? b = some o) ∧
        ((∃ n t, codeVal p = some n ∧ y = .int n t) ∨ (codeVal p = none ∧ ∃ T t t', y = .ref T ∧ h.get? T = none ∧ h'.get? T = some (faultO place t t')))) E' { s with heap := h, toks := tk })
    (fin : ∀ ys fl, DatAll fl ys (ps.map (dOf place)) → Fin ys (fl ++ news)) : LCg.CompRest PR w A h₀ L m env elt x scope cl s S P Fin n 0 [] news := by
  have key : ∀ (j i : Nat) (ys : List Value) (fl : Led), i + j = n → DatAll fl ys ((ps.take i).map (dOf place)) → LCg.CompRest PR w A h₀ L m env elt x scope cl s S P Fin j i ys (fl ++ news) := by
    intro j
    induction j with
    | zero =>
      intro i ys fl hi hd
      rw [show i = ps.length by omega, List.take_length] at hd
      exact LCg.CompRest.zero (fin ys fl hd)
    | succ j ih =>
      intro i ys fl hi hd
      refine LCg.CompRest.succ ?_
      intro v I oI C oC D m₂ h tk E' hv hC hx F N off ne
      (refine ob2_2 (hP i v hv) fun p t hp e_56 => ?_; subst e_56)
      refine wpAny_mono (turn p t I oI C oC D m₂ ys (fl ++ news) h tk E' (List.mem_of_getElem? hp) hC hx F N fun q hq => List.mem_append_right _ hq) (fun y s₂ hq => ?_) fun _ _ e => e
      (refine ob2_3 hq fun h' tk' e_57 hk hc => ?_; try clear hq; subst e_57)
      have ht : (ps.take (i + 1)).map (dOf place) = (ps.take i).map (dOf place) ++ [dOf place p] := by rw [List.take_add_one, hp]; simp
      rcases hc with ⟨k, t', hc, rfl⟩ | ⟨hc, T, t1, t2, rfl, hT, hT'⟩
      · refine mk3_1 h' tk' (fl ++ news) ⟨rfl, F.keeps hk, N.grown hk, off, hS _ fun q hq => List.mem_append_right _ hq, ih (i + 1) _ fl (by omega) ?_⟩
        rw [ht]
        refine datAll_snoc hd ?_
        unfold dOf; rw [hc]; exact .int _ _
      · have ne2 : ∀ b o, h.get? b = some o → b ≠ T := fun b o q z => by rw [z, hT] at q; exact nos q
        have hTL : T ≠ L := by
          (refine ob3_2 F.ns fun oL _ _ hL _ => ?_)
          exact (ne2 _ _ hL).symm
        have hT0 : h₀.get? T = none := by
          cases z : h₀.get? T with
          | none => rfl
          | some o => exact absurd rfl (ne2 _ _ (F.keep _ _ z))
        have N2 : News h₀ L h' ((I, oI) :: (C, oC) :: (D, LCg.lst ys) :: ((T, faultO place t1 t2) :: fl ++ news)) := by
          have N3 := N.grown hk
          intro q hq
          rcases List.mem_cons.mp hq with rfl | hq
          · exact N3 _ (.head _)
          rcases List.mem_cons.mp hq with rfl | hq
          · exact N3 _ (.tail _ (.head _))
          rcases List.mem_cons.mp hq with rfl | hq
          · exact N3 _ (.tail _ (.tail _ (.head _)))
          rcases List.mem_cons.mp hq with rfl | hq
          · exact mk0_3 hT' hTL hT0
          · exact N3 _ (.tail _ (.tail _ (.tail _ hq)))
        refine mk3_1 h' tk' ((T, faultO place t1 t2) :: fl ++ news) ⟨rfl, F.keeps hk, N2, ⟨⟨(ne2 _ _ (N _ (.head _)).1).symm, (ne2 _ _ (N _ (.tail _ (.head _))).1).symm, (ne2 _ _ (N _ (.tail _ (.tail _ (.head _)))).1).symm⟩, off⟩, hS _ fun q hq => List.mem_append_right _ hq, ih (i + 1) _ ((T, faultO place t1 t2) :: fl) (by omega) ?_⟩
        rw [ht]
        refine datAll_snoc (hd.mono fun q hq => List.mem_cons_of_mem _ hq) ?_
        unfold dOf; rw [hc]
        exact .tuple (List.Mem.head _) (.cons (.str _ _) (.cons (.int _ _) .nil))
  have e := key n 0 [] [] (by omega) (by simp only [List.take_zero, List.map_nil]; exact .nil)
  simpa using e
end
section
theorem top_P7 : True := by w_top off; exact True.intro
local macro_rules | `(tactic| walk_at "call ref") => `(tactic| ((with_reducible show wpAny _ _ (call (Value.ref 406) _) _ _ _); refine stop_here ?_))
theorem push_use {α : Type} {M : Model} {A : Around} {E : Value → Shared → Prop} {h : Heap} {o : Obj} {gn : Array GenState} {dr : Drawn} {tk : Nat} {os : OsState} {t : Sem α} {Q : α → Shared → Prop} (hf : o.isFreed = false)
    (H : ∀ h2, (∀ b o', h.get? b = some o' → h2.get? b = some o') → h2.get? h.objs.size = some o → wpAny M A t Q E ⟨h2, gn, dr, tk, os⟩) : wpAny M A t Q E ⟨h.push o, gn, dr, tk, os⟩ :=
  H _ (fun _ _ q => Heap.get?_push_of_some _ q) (Heap.get?_push_size _ hf)
def Hid (p : Prop) : Prop := p
local macro_rules | `(tactic| walk_at "eval Tuple") => `(tactic| refine stop_here ?_)
local macro_rules | `(tactic| walk_at "compareOp In") => `(tactic| refine stop_here ?_)
theorem okDats {place : Int} (ps : List Str) : ∀ d ∈ ps.map (dOf place), kqdOk 8 d = true := fun d hd => by
  (refine ob1_2 (List.mem_map.mp hd) fun p _ e_58 => ?_; subst e_58)
  unfold dOf
  split
  · rfl
  · show ([Dat.str (Str.ofString "fault"), Dat.int place].all (kqdOk 7)) = true
    simp only [List.all_cons, List.all_nil, kqdOk, Bool.and_true]
    decide +kernel
theorem okTup (place : Int) : kqdOk 8 (Dat.tuple [.str (Str.ofString "fault"), .int place]) = true := by
    show ([Dat.str (Str.ofString "fault"), Dat.int place].all (kqdOk 7)) = true
    simp only [List.all_cons, List.all_nil, kqdOk, Bool.and_true]
    decide +kernel
theorem datAll_ints {fl : Led} {vs : List Value} {ns : List Int} (h : DatAll fl vs (ns.map Dat.int)) : DatAll [] vs (ns.map Dat.int) := by
  induction ns generalizing vs with
  | nil => cases h; exact .nil
  | cons n r ih => cases h with | cons a b => cases a; exact .cons (.int _ _) (ih b)
open Classical in
theorem bad_in {place : Int} {ps : List Str} (h : decide (Dat.tuple [.str (Str.ofString "fault"), .int place] ∈ ps.map (dOf place)) = true) : ps.mapM codeVal = none := by
  (refine ob1_2 (List.mem_map.mp (of_decide_eq_true h)) fun p hp e => ?_)
  refine mapM_bad hp ?_
  unfold dOf at e
  split at e
  · cases e
  · assumption
open Classical in
theorem good_in {place : Int} : ∀ {ps : List Str}, decide (Dat.tuple [.str (Str.ofString "fault"), .int place] ∈ ps.map (dOf place)) = false → ∃ ns, ps.mapM codeVal = some ns ∧ ps.map (dOf place) = ns.map Dat.int
  | [], _ => ⟨[], rfl, rfl⟩
  | p :: ps, h => by
    have h1 := of_decide_eq_false h
    have h2 : ¬ Dat.tuple [.str (Str.ofString "fault"), .int place] ∈ ps.map (dOf place) := fun q => h1 (List.mem_cons_of_mem _ q)
    (refine ob1_2 (good_in (decide_eq_false h2)) fun ns e1 e2 => ?_)
    cases z : codeVal p with
    | none => exact absurd (List.mem_map.mpr ⟨p, List.Mem.head _, by unfold dOf; rw [z]⟩) h1
    | some n => exact ⟨n :: ns, by rw [List.mapM_cons, z, e1]; rfl, by rw [List.map_cons, List.map_cons, e2]; congr 1; unfold dOf; rw [z]⟩
local macro_rules | `(tactic| kqd_ok) => `(tactic| exact okDats _)
theorem ltext_spec {w : World} {A : Around} {E : Value → Shared → Prop} {s : Shared} {h₀ : Heap} {p : Program} {loose : List Str} {mean : ExcName → Option Value} {mg mb : Str → Option Value} {Q : Value → Shared → Prop}
    {word : Str} {place : Int} {t1 t3 : Tok}
    (kh : ∀ b o, h₀.get? b = some o → s.heap.get? b = some o) (X : (Mine.hd.heap_39 w.params).In h₀) (T : Top p loose mean mg mb h₀) (hA : A.handled = none) (hd : A.depth ≤ 890) (hu : A.units ≤ 1900)
    (hw : word.length ≤ 63) (hp : (Txt.split word (Str.ofString ",")).length ≤ 100) (hs : ∀ q ∈ Txt.split word (Str.ofString ","), (Txt.slice q (some 2) none).length = q.length - 2 ∧ ∀ c ∈ signs (Txt.slice q (some 2) none), PyData.strOk c = true)
    (ret : ∀ ns, textVal word = some ns → ∀ D vs n h' tk', s.heap.get? D = none → h'.get? D = some (listOf vs.toArray n) → DatAll [] vs (ns.map Dat.int) → (∀ b o, s.heap.get? b = some o → h'.get? b = some o) → Q (.ref D) { s with heap := h', toks := tk' })
    (exc : textVal word = none → ∀ D t t' h' tk', s.heap.get? D = none → h'.get? D = some (faultO place t t') → (∀ b o, s.heap.get? b = some o → h'.get? b = some o) → Q (.ref D) { s with heap := h', toks := tk' }) :
    wpAny (model PR w) A (call (.ref 411) [.str word t1, .int place t3]) Q E s := by
  k_dflt (refine' enter_c (news := []) (binds := [(Str.ofString "word", .str word t1), (Str.ofString "place", .int place t3)]) ?k1 ?k2 ?k3 ?k4 ?k6 ?k7 ?k8 ?k9 ?kB ?kD ?_ ?c2 ?c3 ?c4; walk_at "MY enter")
  case k8 => show A.depth < 1000; omega
  intro g' L' h' tk' cells' hg hL kg2 F' N' Y' X' T' hlt
  replace hg : g' = s.heap := hg
  k_cells Y'
  (try simp only [List.cons_append, List.nil_append] at N')
  try dsimp only
  show wpAny _ _ _ _ _ _
  k_fold
  have XT := And.intro X T
  clear X T
  walk_at "MY steps"
  all_goals try (unfold Stop; (with_reducible show wpAny _ _ (pyIter _) (CompPost _ _ _ _ _ _ [] _ _) _ _); refine' strmap (fun a => ((a.cps.getD 0 0 : Nat) : Int)) ?k1 ?k2 ?k3 ?k4 ?g2 ?_; (case k1 | k2 => k_asm); (case k3 => first | rfl | assumption); (case k4 => first | size_fits | (rw [sizeLine_eq]; omega)); (case g2 => (intro C' a' t' s' m' E' n0 n1 n2 n3; refine wpAny_leafK ?_;  walk_at "MY steps")); k_whole; intro D' vs' n' h' tk' F' N' hS' hne'; all_goals walk_at "MY steps")
  all_goals subst hg
  next =>
    exact ret [] (if_pos (by assumption)) _ [] _ _ _ ((by assumption : News _ _ _ _) _ (List.Mem.head _)).2.2 (News.get (by assumption) (List.Mem.head _)) .nil (Fr.keep (by assumption))
  next =>
    exact ret _ (by unfold textVal; rw [if_neg (by simp_all), if_neg (by simp_all)]) _ _ _ _ _ ((by assumption : News _ _ _ _) _ (List.Mem.head _)).2.2 (News.get (by assumption) (List.Mem.head _)) (by assumption) (Fr.keep (by assumption))
  next =>
    refine LCg.Assign_ListComp_U (F₀ := by k_asm) (by rfl) (by with_unfolding_all rfl) (by rfl) (by decide) (by rfl) (by decide) (by rfl) (by rfl) (by rfl) ?_
    show wpAny _ _ _ _ _ _
    walk_at "MY steps"
    rename (StrsAre _ _) => hSA
    rename (Fr _ _ _ _) => FE
    rename (News _ _ _ _) => NE
    rename (List.map _ _ = Txt.split _ _) => hSp
    have hlen : ∀ c ∈ Txt.split word (Str.ofString ","), c.length ≤ word.length := by rw [← hSp]; assumption
    rw [hSp] at hSA
    have e1 := hSA.length
    refine LCg.CompSrc.ledger hA FE NE (List.Mem.head _) (by rw [List.size_toArray, sizeLine_eq]; omega) fun gX => ?_
    refine codes_rest (ps := Txt.split word (Str.ofString ",")) (place := place) (by rw [List.size_toArray]; exact e1.symm) (fun i v hv => strs_get hSA (by simpa using hv)) (fun nw hq => .inr ⟨_, hq _ (List.Mem.head _), rfl, _, rfl⟩) ?turn ?fin
    case turn =>
      intro p t I oI C oC D m₂ ys nw h tk E' hpm hC hx F N hq
      have hcm := hq _ (List.Mem.tail _ (List.Mem.head _))
      clear NE FE
      have N2 : News _ _ h [(C, oC), (L' + 1, _)] := fun q hq2 => by
        rcases List.mem_cons.mp hq2 with rfl | hq2
        · exact N _ (.tail _ (.head _))
        · rw [List.mem_singleton.mp hq2]
          exact N _ (.tail _ (.tail _ (.tail _ hcm)))
      clear N hq hcm
      try dsimp only
      show wpAny _ _ _ _ _ _
      walk_at "MY steps"
      have hlp := hlen p hpm
      refine lcode_spec F.keep X' T' hA (show A.depth + 1 ≤ 900 by omega) (show A.units + 3 ≤ 2000 by omega) (Nat.le_trans hlp hw) (hs p hpm).1 (hs p hpm).2 ?_ ?_
      · intro n hn t h' tk' hk
        exact mk2_3 h' _ rfl hk (.inl ⟨n, _, hn, rfl⟩)
      · intro hn D t t' h' tk' hD hD' hk
        exact mk2_3 h' _ rfl hk (.inr ⟨hn, D, t, t', rfl, hD, hD'⟩)
    case fin =>
      intro ys fl hd
      unfold LCg.FinA
      intro D' h' tk' F' N' o1'
      try dsimp only
      have hcm := N' _ (.tail _ (List.mem_append_right fl (.tail _ (.head _))))
      have NS : News _ _ h' [(D', LCg.lst ys), (L' + 1, _)] := fun q hq2 => by
        rcases List.mem_cons.mp hq2 with rfl | hq2
        · exact N' _ (.head _)
        · rw [List.mem_singleton.mp hq2]
          exact hcm
      have NH : Hid (News _ _ h' _) := N'
      clear N' NE FE o1' hcm
      show wpAny _ _ _ _ _ _
      walk_at "MY steps"
      show wpAny _ _ _ _ _ _
      refine wpAny_Tuple ?_
      walk_at "MY steps"
      refine push_use rfl fun h2 hk2 hT => ?_
      have F2 := F'.keeps hk2
      have NS2 := NS.grown hk2
      have hTn : s.heap.get? h'.objs.size = none := by
        cases z : s.heap.get? h'.objs.size with
        | none => rfl
        | some o => exact absurd (Heap.lt_size (F'.keep _ _ z)) (Nat.lt_irrefl _)
      have NF2 : Hid (News _ _ h2 ((h'.objs.size, tupO [.str (Str.ofString "fault") _, .int place _]) :: _)) := newsC ⟨hT, (Nat.ne_of_gt F'.ns.lt : h'.objs.size ≠ _), hTn⟩ (News.grown NH hk2)
      clear F' NS NH
      show wpAny _ _ _ _ _ _
      walk_at "MY steps"
      refine kqd_isIn NF2 (.tail _ (.head _)) rfl rfl hd (fun q hq => .tail _ (.tail _ (List.mem_append_left _ hq))) (DatIn.tuple (.head _) (.cons (.str _ _) (.cons (.int _ _) .nil))) (fun q hq => hq) (okDats _) ?kk (room64 (by omega)) ?_
      case kk => exact okTup place
      show wpAny _ _ _ _ _ _
      walk_at "MY steps"
      next =>
        show wpAny _ _ _ _ _ _
        refine wpAny_Tuple ?_
        walk_at "MY steps"
        refine exc ?_ h2.objs.size _ _ _ _ ?_ (Heap.get?_push_size _ rfl) fun b o q => Heap.get?_push_of_some _ (F2.keep b o q)
        · unfold textVal
          rw [if_neg (by simp_all), if_pos (by simp_all)]
          exact bad_in (by assumption)
        · cases z : s.heap.get? h2.objs.size with
          | none => rfl
          | some o => exact absurd (Heap.lt_size (F2.keep _ _ z)) (Nat.lt_irrefl _)
      next =>
        (refine ob1_2 (good_in (by assumption)) fun ns e3 e4 => ?_)
        rw [e4] at hd
        refine ret ns ?_ D' ys _ h2 _ (NS2 _ (.head _)).2.2 (NS2 _ (.head _)).1 (datAll_ints hd) F2.keep
        unfold textVal
        rw [if_neg (by simp_all), if_pos (by simp_all)]
        exact e3
end
section
theorem top_X10 : True := by w_top off; exact True.intro
section
variable {A₀ : Around} {base g h h' b3 : Heap} {outer : List Env} {L : Addr} {m : Str → Option Value} {env : Env} {news : Led}
theorem reground (K : Below A₀ base outer g) (F : Fr g L h m) (hf : env.frame = some L) (hb3 : ∀ b o, h.get? b = some o → b ∉ (env :: outer).filterMap (·.frame) → b3.get? b = some o) (st : b3.StaysIn h') (U : h.UpToSlots h') :
    ∃ g₂, Fr g₂ L h' m ∧ (∀ nw, News g L h nw → News g₂ L h' nw) ∧ Below A₀ base outer g₂ ∧ g.UpToSlots g₂ ∧ (∀ b, g.get? b = none ↔ g₂.get? b = none) := by
  have hmem : ∀ b, b ∈ (env :: outer).filterMap (·.frame) → b = L ∨ b ∈ outer.filterMap (·.frame) := fun b hb => by
    rw [List.filterMap_cons, hf] at hb
    exact List.mem_cons.mp hb
  have hL : g.get? L = none := Heap.get?_none_of_le F.above
  obtain ⟨tn, sub⟩ := kts_turn_at (fs := outer.filterMap (·.frame)) (g := g) (h := h') (fun b hb => let ⟨o, q, _⟩ := (K.frames.mem hb).2; ⟨o, q⟩)
    (fun b o q hn => st b o (hb3 b o (F.keep b o q) fun hb => by
      rcases hmem b hb with rfl | hb
      · rw [hL] at q; exact nos q
      · exact hn hb))
    (fun b o q hb => U b o (F.keep b o q) (by
      (refine ob1_2 ((K.frames.mem hb).2) fun o2 q2 hd => ?_)
      rw [q] at q2; obtain rfl := Option.some.inj q2; exact hd))
  refine mk1_5 (ktsHeap h' (outer.filterMap (·.frame)) g) ⟨U.ns F.ns, sub, by rw [tn.size]; exact F.above⟩ (fun nw N q hq => ⟨st _ _ (hb3 _ _ (N q hq).1 fun hb => ?_), (N q hq).2.1, tn.none_ _ (N q hq).2.2⟩) ⟨K.stack, fun b o q => tn.other b o (K.stays b o q) fun hb => ?_, K.frames.of_keeps fun b o q _ => ?_⟩ (fun b o q _ => tn.up q) (fun b => ⟨tn.none_ b, fun z => ?_⟩)
  · rcases hmem _ hb with e | hb
    · exact (N q hq).2.1 e
    · (refine ob1_2 ((K.frames.mem hb).2) fun o ho _ => ?_)
      rw [(N q hq).2.2] at ho; exact nos ho
  · rw [(K.frames.mem hb).1] at q; exact nos q
  · (refine ob1_1 (tn.up q) fun sl q2 => ?_)
    exact mk1_2 _ q2 rfl
  · cases q : g.get? b with
    | none => rfl
    | some o => obtain ⟨sl, q2⟩ := tn.up q; rw [z] at q2; exact nos q2
end
section
variable {w : World} {A₀ : Around} {E : Value → Shared → Prop} {s' : Shared} {base g h b3 : Heap} {outer : List Env} {L a e : Addr} {k : Int} {m : Str → Option Value} {name : Str} {scope : Scope} {cd : Value} {news : Led}
  {n : Str} {b₀ : Stmt} {suite : List Stmt} {pos np : Pos} {rest : List ExceptHandler} {Q : Flow → Shared → Prop} {p : Program} {loose : List Str} {mean : ExcName → Option Value} {mg mb : Str → Option Value}
theorem caught_fault (K : Below A₀ base outer g) (F : Fr g L h m) (N : News g L h news)
    (hb3 : ∀ b o, h.get? b = some o → b ∉ (envOf name scope L a cd :: outer).filterMap (·.frame) → b3.get? b = some o) (hbb : base.StaysIn b3)
    (R : Raised b3 (envOf name scope L a cd :: outer) e k s'.heap) (U : h.UpToSlots s'.heap) (X : (Mine.hd.heap_39 w.params).In base) (T : Top p loose mean mg mb base)
    (kont : ∀ g₂ h' tk oe od d tk2, g.UpToSlots g₂ → (∀ b, g.get? b = none ↔ g₂.get? b = none) → Below A₀ base outer g₂ → (Mine.hd.heap_39 w.params).In g₂ → Top p loose mean mg mb g₂ →
      Fr g₂ L h' (fun y => if y = n then some (.ref e) else m y) → News g₂ L h' ((e, oe) :: (d, od) :: news) → oe.cls = .ref 61 → oe.dict = some d → (∀ hh : Heap, hh.get? d = some od → ∃ md, hh.Ns1 d md ∧ md "at" = some (.int k tk2)) → (∃ vs, oe.data = .fields vs) →
      wpAny (model PR w) ((A₀.deeper (envOf name scope L a cd)).mark (some (.ref e))) (execs (b₀ :: suite) (envOf name scope L a cd))
        (fun f s₄ => wpAny (model PR w) (A₀.deeper (envOf name scope L a cd)) (do bindName (envOf name scope L a cd) n .none; unbindBehindTheSuite (envOf name scope L a cd) n pos) (fun _ s₅ => Q f s₅) E s₄)
        (AsSuiteRaised (model PR w) ((A₀.deeper (envOf name scope L a cd)).mark (some (.ref e))) (envOf name scope L a cd) n pos (notedBy (model PR w) ((A₀.deeper (envOf name scope L a cd)).mark (some (.ref e))) (envOf name scope L a cd) (cameBackBy (model PR w) (A₀.deeper (envOf name scope L a cd)) (envOf name scope L a cd) E)))
        { s' with heap := h', toks := tk })
    (hk : scope.kind = .function := by rfl) (hlo : (envOf name scope L a cd).kindOf n = some .local := by rfl) (hx : (envOf name scope L a cd).kindOf (Str.ofString "DeskFault") = some .globalImplicit := by rfl) :
    wpAny (model PR w) (A₀.deeper (envOf name scope L a cd)) (noteFrame (.ref e) (envOf name scope L a cd))
      (fun _ s₂ => wpAny (model PR w) (A₀.deeper (envOf name scope L a cd)) (setFlight (.ref e) none) (fun _ s₃ =>
        wpAny (model PR w) (A₀.deeper (envOf name scope L a cd)) (handleBy (.ref e) (envOf name scope L a cd) (.ExceptHandler (some (.Name (Str.ofString "DeskFault") np)) (some n) (b₀ :: suite) pos :: rest)) Q E s₃) E s₂) E s' := by
  (refine ob5_5 R fun B d md tk2 fl r1 r2 r3 r4 r5 => ?_; try clear R)
  refine fly_note (Around.frames_deeper K.stack) rfl r2 fun h4 f4 u4 => ?_
  refine fly_flight none f4 fun h5 f5 u5 => ?_
  have st5 : b3.StaysIn h5 := fun b o q => f5.1 b o (r1 b o q)
  (refine ob1_5 (reground K F (env := envOf name scope L a cd) rfl hb3 st5 (U.trans (u4.trans u5))) fun g5 F5 N5 B5 _ _ => ?_)
  (refine ob2_4 f5.there fun oe5 vs5 he5 hc5 _ _ => ?_)
  refine wpAny_handleBy_cons (codeAny_handlers_test (name_K (K := Mine.hd.heap_39 w.params) (v := .ref 61) F5 (X.keeps B5.stays) (topRead_of (T.keeps B5.stays)) (by k_is) ?_ hk hx (by decide))) (by intro q; cases q)
  obtain ⟨nm, q, Nc, bs, hdct, sn, sub, ab, col, dd, k0, k1, k2, k3, k5, hC⟩ := fault_cls (X.keeps fun b o q => F5.keep b o (B5.stays b o q))
  refine wpAny_excMatches_sub_self hC he5 hc5 (by decide +kernel) (codeAny_handlers_suite_as ?_)
  refine fly_flight none f5 fun h6 f6 u6 => ?_
  have st6 : b3.StaysIn h6 := fun b o q => f6.1 b o (r1 b o q)
  (refine ob1_5 (reground K F (env := envOf name scope L a cd) rfl hb3 st6 (U.trans (u4.trans (u5.trans u6)))) fun g6 F6 N6 B6 U6 H6 => ?_)
  (refine ob2_4 f6.there fun oe vs he hc hdi hda => ?_)
  have hg3 : ∀ b o, g6.get? b = some o → h.get? b ≠ none := fun b o q z => by
    have : g.get? b = none := by
      cases z2 : g.get? b with
      | none => rfl
      | some o2 => have := F.keep _ _ z2; rw [z] at this; exact nos this
    rw [(H6 b).mp this] at q; exact nos q
  have inh : ∀ b, h.get? b ≠ none → b ∉ (envOf name scope L a cd :: outer).filterMap (·.frame) → b3.get? b ≠ none := fun b hb hn z => by
    cases z2 : h.get? b with
    | none => exact hb z2
    | some o => rw [hb3 b o z2 hn] at z; exact nos' z
  have hl6 := f6.2.2.1
  have eL : e ∉ (envOf name scope L a cd :: outer).filterMap (·.frame) := fun hm => by
    (refine ob1_2 ((hl6.mem hm).2) fun o ho hnd => ?_)
    rw [he] at ho; obtain rfl := Option.some.inj ho; exact hnd _ hda
  have hge : g6.get? e = none := by
    cases z : g6.get? e with
    | none => rfl
    | some o =>
      have := inh e (hg3 e o z) eL
      exfalso
      apply this
      cases z2 : b3.get? e with
      | none => rfl
      | some o2 => have := r1 _ _ z2; rw [f6.2.1] at this; exact nos this
  obtain ⟨od, hod, hrest⟩ : ∃ od, B.get? d = some od ∧ ∀ hh : Heap, hh.get? d = some od → hh.Ns1 d md := by
    obtain ⟨od, hod⟩ : ∃ od, B.get? d = some od := by
      (refine ob3_2 r3.ns fun o _ _ ho _ => ?_)
      exact ⟨o, ho⟩
    exact mk1_2 od hod (fun hh q => r3.at fun o q2 => by rw [hod] at q2; obtain rfl := Option.some.inj q2; exact q)
  have dL : d ∉ (envOf name scope L a cd :: outer).filterMap (·.frame) := fun hm => by rw [(hl6.mem hm).1] at hod; exact nos hod
  have hgd : g6.get? d = none := by
    cases z : g6.get? d with
    | none => rfl
    | some o => exact absurd r5 (inh d (hg3 d o z) dL)
  have Lm : L ∈ (envOf name scope L a cd :: outer).filterMap (·.frame) := List.mem_filterMap.mpr ⟨_, List.Mem.head _, rfl⟩
  have N7 : News g6 L h6 ((e, oe) :: (d, od) :: news) := by
    intro q hq
    rcases List.mem_cons.mp hq with rfl | hq
    · exact mk0_3 he (fun z => eL (z ▸ Lm)) hge
    rcases List.mem_cons.mp hq with rfl | hq
    · exact mk0_3 (f6.1 _ _ hod) (fun z => dL (z ▸ Lm)) hgd
    · exact N6 _ N q hq
  refine stN F6 N7 (fun h7 F7 N8 => ?_) hk hlo
  exact kont g6 h7 _ oe od d tk2 U6 H6 B6 (X.keeps B6.stays) (T.keeps B6.stays) F7 N8 hc hdi (fun hh q => ⟨md, hrest hh q, r4⟩) ⟨vs, hda⟩
end
end
section
theorem top_X11 : True := by w_top off; exact True.intro
open PySem.Builtin PySem.Builtin.ObjectAttr
section
variable {w : World} {A : Around} {E : Value → Shared → Prop} {h : Heap} {g : Array GenState} {dr : Drawn} {t : Nat} {os : OsState} {x d : Addr} {oe : Obj} {md : Str → Option Value} {v : Value}
theorem at_entry {tk : Tok} {Q : Fin → Shared → Prop} (X : (Mine.hd.heap_39 w.params).In h) (hx : h.get? x = some oe) (hc : oe.cls = .ref 61) (hdi : oe.dict = some d) (hns : h.Ns1 d md) (hm : md "at" = some v) {vs : Array Value} (hda : oe.data = .fields vs)
    (hq : Q (.done (.ret v)) ⟨h, g, dr, t, os⟩) : wpAny (model PR w) A (Builtin.«object.__getattribute__» ⟨[.ref x, .str "at" tk], []⟩) Q E ⟨h, g, dr, t, os⟩ := by
  have l3 : Looks (model PR w) h (typeLookup (.ref 61) "at") none := looks_findIn X (by k_is)
  repeat (any_goals (first | assumption | (with_reducible refine wpAny_loadPart_at hx ?_; rw [hc]) | with_reducible refine l3.at ?_ | wp_step))
  rw [hda]
  show wpAny _ _ (instanceDict x false) _ _ _
  unfold instanceDict
  refine wpAny_bind (wpAny_loadPart hx ?_)
  rw [hc]
  have hcd : ∃ cd, clsIn (Mine.hd.heap_39 w.params) 61 = some cd ∧ cd.hasDict = true := ⟨_, by k_is, rfl⟩
  (refine ob1_2 hcd fun cd hcd1 hcd2 => ?_; try clear hcd)
  refine wpAny_bind ((looks_clsIn X hcd1).at ?_)
  rw [hcd2, hdi]
  simp only [Bool.not_true, Bool.false_eq_true, if_false]
  refine wpAny_pure (a := some d) ?_
  show wpAny _ _ (PySem.nsGet d "at") _ _ _
  refine wpAny_nsGet hns.ns ?_
  rw [hm]
  repeat (any_goals (first | assumption | wp_step))
theorem at_check {M : Model} {nameV : Value} {Q : Unit → Shared → Prop} (X : (Mine.hd.heap_39 w.params).In h) (hx : h.get? x = some oe) (hc : oe.cls = .ref 61) (hq : Q () ⟨h, g, dr, t, os⟩) :
    wpAny M A (checkBuiltinCall "BaseException.__getattribute__" ⟨[.ref x, nameV], []⟩) Q E ⟨h, g, dr, t, os⟩ := by
  obtain ⟨nm, q, N, bs, hdct, sn, sub, ab, col, dd, k0, k1, k2, k3, k5, hC⟩ := fault_cls X
  have hk : builtinKind "BaseException.__getattribute__" = some .slot := by decide +kernel
  have hsplit : splitId "BaseException.__getattribute__" = some ("BaseException", "__getattribute__") := by decide +kernel
  have hcB : (Value.ref 61 :: fBm).contains (.type "BaseException") = true := by decide +kernel
  have ha := F.args_bexc_ga (.ref x) nameV
  simp only [checkBuiltinCall, hk, hsplit]
  refine wpAny_bind ?_
  unfold isInstance
  repeat (first | (with_reducible refine wpAny_loadPart_at hx ?_; rw [hc]) | (with_reducible refine wpAny_isSubtype_exc hC ?_; rw [hcB]) | wp_step)
  exact hq
theorem at_call {tk : Tok} {R : Result → Shared → Prop} (X : (Mine.hd.heap_39 w.params).In h) (hx : h.get? x = some oe) (hc : oe.cls = .ref 61) (hdi : oe.dict = some d) (hns : h.Ns1 d md) (hm : md "at" = some v) {vs : Array Value} (hda : oe.data = .fields vs)
    (hq : R (.ok (.ret v)) ⟨h, g, dr, t, os⟩) : codeAny (model PR w) A (.call (.builtin "BaseException.__getattribute__") ⟨[.ref x, .str "at" tk], []⟩) R ⟨h, g, dr, t, os⟩ :=
  codeAny_call_builtin PySem.F.attrBase_Exception.ga.plain F.entry_bexc_ga (at_check X hx hc (at_entry X hx hc hdi hns hm hda hq))
theorem at_get {expr : Bool} {Q : Value → Shared → Prop} (X : (Mine.hd.heap_39 w.params).In h) (hx : h.get? x = some oe) (hc : oe.cls = .ref 61) (hdi : oe.dict = some d) (hns : h.Ns1 d md) (hm : md "at" = some v) {vs : Array Value} (hda : oe.data = .fields vs)
    (hv : handedIn v = true) (hq : Q v ⟨h, g, dr, t + 1, os⟩) : wpAny (model PR w) A (getAttr (.ref x) "at" expr) Q E ⟨h, g, dr, t, os⟩ := by
  have FB := PySem.F.attrBase_Exception
  have f3 := FB.ga.bind (.ref x)
  have hx0 : (expr && onTheHeap (Value.builtin "BaseException.__getattribute__")) = false := by cases expr <;> rfl
  have hx2 : (Value.builtin "BaseException.__getattribute__" == Value.builtin "object.__getattribute__") = false := by decide +kernel
  have hx1 : (onTheHeap (Value.ref 61) && Value.builtin "BaseException.__getattribute__" == Value.builtin "object.__getattribute__") = false := by rw [hx2]; rfl
  have l1 : Looks (model PR w) h (typeLookup (.ref 61) "__getattribute__") (some (.builtin "BaseException.__getattribute__")) := looks_findIn X (by k_is)
  have l2 : Looks (model PR w) h (typeLookup (.ref 61) "__getattr__") none := looks_findIn X (by k_is)
  unfold getAttr getAttrBy
  repeat (any_goals (first | assumption | (with_reducible refine wpAny_loadPart_at hx ?_; rw [hc]) | with_reducible refine l1.at ?_ | with_reducible refine l2.at ?_ | wp_step))
  refine at_call X hx hc hdi hns hm hda ?_
  show wpAny _ _ (handedOut v) _ _ _
  rw [handedOut_of hv]
  exact wpAny_pure hq
end
end
section
section
local macro_rules | `(tactic| walk_at "Z pad") => `(tactic| skip)
theorem top_P8 : True ∧ True := by w_top off; (try (walk1; fail)); exact ⟨True.intro, True.intro⟩
end
local macro_rules | `(tactic| walk_at "call ref") => `(tactic| ((with_reducible show wpAny _ _ (call (Value.ref _) []) _ _ _); refine stop_here ?_))
abbrev Ar (d u : Nat) (outer : List Env) (gd : Option (List Code)) : Around := { handled := none, depth := d, frames := some outer, guards := gd, units := u }
theorem heard_spec {w : World} {d0 u0 : Nat} {gd : Option (List Code)} {E : Value → Shared → Prop} {s : Shared} {base : Heap} {outer : List Env} {p : Program} {loose : List Str} {mean : ExcName → Option Value} {mg mb : Str → Option Value} {Q : Value → Shared → Prop}
    {wa : Addr} {k : Int} {wo : Obj} {fd : FuncData} {G : Heap → Value → Heap → Prop} {Bad : Prop}
    (B : Below (Ar d0 u0 outer gd) base outer s.heap) (X : (Mine.hd.heap_39 w.params).In base) (T : Top p loose mean mg mb base) (hd : d0 ≤ 880) (hu : u0 ≤ 1800)
    (hwo : s.heap.get? wa = some wo) (hwd : wo.data = .func fd)
    (hG : ∀ h0 h0' v h1 h2 L, (∀ b o, h0'.get? b = some o → h0.get? b = some o) → (∃ o, h0.get? L = some o) → h0'.get? L = none → (∀ b o, b ≠ L → h1.get? b = some o → h2.get? b = some o) → G h0 v h1 → G h0' v h2)
    (hwork : ∀ env b3 hh tk Q' E', Below (Ar (d0 + 1) (u0 + 3) (env :: outer) gd) b3 (env :: outer) hh → base.StaysIn b3 → (∀ b o, s.heap.get? b = some o → hh.get? b = some o) →
      (∀ v h' tk', G hh v h' → (∀ b o, hh.get? b = some o → h'.get? b = some o) → Q' v { s with heap := h', toks := tk' }) →
      (∀ e h' tk', Bad → Raised b3 (env :: outer) e k h' → hh.UpToSlots h' → E' (.ref e) { s with heap := h', toks := tk' }) →
      wpAny (model PR w) (Ar (d0 + 1) (u0 + 3) (env :: outer) gd) (call (.ref wa) []) Q' E' { s with heap := hh, toks := tk })
    (ret : ∀ v h' tk', G s.heap v h' → (∀ b o, s.heap.get? b = some o → h'.get? b = some o) → Q v { s with heap := h', toks := tk' })
    (exc : Bad → ∀ D t t' h' tk', base.StaysIn h' → s.heap.UpToSlots h' → s.heap.get? D = none → h'.get? D = some (faultO k t t') → Q (.ref D) { s with heap := h', toks := tk' }) :
    wpAny (model PR w) (Ar d0 u0 outer gd) (call (.ref 396) [.ref wa]) Q E s := by
  k_dflt (refine' enter_r (binds := [(Str.ofString "work", .ref wa)]) (rb := [(Str.ofString "work", .ref wa)]) ?k1 ?k2 ?k3 ?k6 ?k7 ?k8 ?k9 ?kB ?_ rfl ?c5 ?c2 ?c3 ?c4; walk_at "MY enter")
  case k8 => show d0 < 1000; omega
  intro g' L' h' hg hL F' N' B' X' T'
  show wpAny _ _ _ _ _ _
  k_fold
  have XT := And.intro X T
  clear X T
  walk_at "MY steps"
  subst hg
  rename (Fr _ _ _ _) => FE
  rename (News _ _ _ _) => NE
  refine callWith_function (o := wo) (fd := fd) ?_
  show wpAny _ _ (evalArgs (.ref _) true [] []) _ _ _
  refine PyProof.Rows.evalArgs_none ?_
  refine ⟨⟨FE.keep _ _ hwo, hwd⟩, ?_⟩
  show wpAny _ _ (call (.ref _) [] []) _ _ _
  refine below_use B' FE rfl rfl fun b3 B3 hb3 hb3' => ?_
  refine hwork _ b3 _ _ _ _ B3 hb3 FE.keep ?_ ?_
  · intro v h1 tk1 hGv hk1
    have F1 := FE.keeps hk1
    refine wpAny_storeName_local rfl F1.ns (fun h2 hn2 hs2 => ?_) rfl
    have F2 := F1.set hn2 hs2
    show wpAny _ _ _ _ _ _
    walk_at "MY steps"
    (refine ob3_2 FE.ns fun oL _ _ hoL _ => ?_)
    exact ret v h2 _ (hG _ _ v h1 h2 _ FE.keep ⟨oL, hoL⟩ (Heap.get?_none_of_le FE.above) (fun b o hb q => (hs2.2 b hb).trans q) hGv) F2.keep
  · intro e h1 tk1 hbad R U
    refine caught_fault (n := Str.ofString "error") B' FE NE hb3' hb3 R U XT.1 XT.2 ?_
    intro g₂ h2 tk oe od d tk2 U2 H2 B2 X2 T2 F2 N2 hc hdi hat hvs
    clear FE NE X' T' XT
    show wpAny _ _ _ _ _ _
    walk_at "MY steps"
    rename (Fr _ _ _ _) => FF
    rename (News _ _ _ _) => NF
    (refine ob1_2 (hat _ (NF (d, od) (.tail _ (.head _))).1) fun md hns hm => ?_)
    (refine ob1_1 hvs fun vs hda => ?_; try clear hvs)
    refine at_get (X2.keeps FF.keep) (NF (e, oe) (.head _)).1 hc hdi hns hm hda rfl ?_
    show wpAny _ _ _ _ _ _
    walk_at "MY steps"
    rename (Fr _ _ _ _) => FG
    rename (News _ _ _ _) => NG
    exact exc hbad _ _ _ _ _ (fun b o q => FG.keep b o (B2.stays b o q)) (U2.trans (Heap.UpToSlots.of_keeps FG.keep)) ((H2 _).mpr (NG _ (.head _)).2.2) (NG _ (.head _)).1
end
section
theorem top_Q1 : True := by w_top off; exact True.intro
theorem nameX_FG {M : Model} {A : Around} {E : Value → Shared → Prop} {s : Shared} {g : Heap} {L a c : Addr} {m : Str → Option Value} {cn : Str} {cs : Scope} {ccd : Value} {cl : List (Str × Addr)} {x : Str} {pos : Pos} {v : Value} {o : Obj} {Q : Value → Shared → Prop} (F : Fr g L s.heap m) (hc : cl.lookup x = some c) (hv : g.get? c = some o) (hd : o.data = .cell (some v)) (h : Q v s)
    (hk : cs.kind = .function) (hx : (envX cn cs L a ccd cl).kindOf x = some .free) (hb : (x == ("__debug__" : Str)) = false) (hn : (x == ("__classdict__" : Str)) = false) :
    wpAny M A (eval (.Name x pos) (envX cn cs L a ccd cl)) Q E s := wpAny_Name (wpAny_loadName_free hk hx hc ⟨o, F.keep _ _ hv, hd⟩ h hn) hb
section
variable {w : World} {A : Around} {E : Value → Shared → Prop} {s : Shared} {name qual : Str} {params : Arguments} {body : Expr} {scope : Scope} {cl : List (Str × Addr)} {pm cdv ctv : Value} {wa : Addr} {fo : Obj} {Q : Value → Shared → Prop}
theorem enter_lam (hroom : A.depth < recursionLimit) (ho : s.heap.get? wa = some fo) (hd : fo.data = .func (kla_fn name qual params body scope cl pm cdv ctv)) (hcd : s.heap.CodeRec cdv qual) (hlim : s.heap.NoLimit)
    (hbind : bindArgs (kla_fn name qual params body scope cl pm cdv ctv) ⟨[], []⟩ = pure [])
    (h : ∀ L' h₁, L' = s.heap.objs.size → Fr s.heap L' h₁ (fun _ => none) →
      wpAny (model PR w) (A.deeper (envX qual scope L' wa cdv cl)) (eval body (envX qual scope L' wa cdv cl)) (fun v s' => Q v s')
        (fun e s' => wpAny (model PR w) (A.deeper (envX qual scope L' wa cdv cl)) (leaving (envX qual scope L' wa cdv cl) e) (fun _ s'' => E e s'') (fun e' s'' => E e' s'') s') { s with heap := h₁, toks := s.toks + 0 })
    (hcell : ∀ x ∈ scope.names, x.2 ≠ .cell) (hco : scope.isCoroutine = false) (hgen : scope.isGenerator = false) (hk : scope.kind = .function) : wpAny (model PR w) A (call (.ref wa) []) Q E s := by
  refine wpAny_call (kla_callFunE hroom ho hd hco hgen rfl hcd ?_)
  rw [hbind]
  refine wpAny_pure (wpAny_newFunctionEnv hcell nil_all (fun h₁ hns hsb => ⟨hlim.fresh _ hsb, ?_⟩) hk)
  have hk₁ : ∀ b o, s.heap.get? b = some o → h₁.get? b = some o := fun b o e => hsb.extBut b o (Nat.ne_of_lt (Heap.lt_size e)) (Heap.get?_push_of_some _ e)
  show codeAny _ _ (.expr body (envX qual scope s.heap.objs.size wa cdv cl)) _ _
  exact kla_codeExpr (wpAny_mono (h s.heap.objs.size h₁ rfl ⟨hns, hk₁, Nat.le_refl _⟩) (fun v s' hl => hl) fun _ _ y => y)
end
section
variable {w : World} {E : Value → Shared → Prop} {s : Shared} {qual : Str} {params : Arguments} {scope : Scope} {cl : List (Str × Addr)} {pm ctv : Value} {wa c' fa : Addr} {fo : Obj} {Q : Value → Shared → Prop}
def CellOf (h : Heap) (env : Env) (q : Str × Pos × Value) : Prop :=
  ∃ c o, env.cells.lookup q.1 = some c ∧ h.get? c = some o ∧ o.data = .cell (some q.2.2) ∧ env.kindOf q.1 = some .free ∧ (q.1 == ("__debug__" : Str)) = false ∧ (q.1 == ("__classdict__" : Str)) = false
theorem spliced_cells {M : Model} {A : Around} {g : Heap} {L a : Addr} {m : Str → Option Value} {ccd : Value} {pos : Pos} (hk : scope.kind = .function) (xs : List (Str × Pos × Value)) : ∀ {Q : List Value → Shared → Prop} {s : Shared}, Fr g L s.heap m → (∀ q ∈ xs, CellOf g (envX qual scope L a ccd cl) q) → Q (xs.map (·.2.2)) s →
    wpAny M A (spliced (backTo pos (starEach (xs.map fun q => .Name q.1 q.2.1) (envX qual scope L a ccd cl)))) Q E s := by
  induction xs with
  | nil => intro Q s _ _ h; exact Calls.spliced_nil h
  | cons q r ih =>
    intro Q s F hc h
    (refine ob2_1 (hc q (List.Mem.head _)) fun c o q_59 => ob0_6 q_59 fun h1 h2 h3 h4 h5 h6 => ?_)
    have e : starEach (List.map (fun q : Str × Pos × Value => Expr.Name q.1 q.2.1) (q :: r)) (envX qual scope L a ccd cl) = (false, eval (.Name q.1 q.2.1) (envX qual scope L a ccd cl)) :: starEach (r.map fun q => .Name q.1 q.2.1) (envX qual scope L a ccd cl) := by
      rfl
    rw [e]
    unfold backTo
    rw [List.map_cons]
    refine Calls.spliced_cons ?_
    refine nameX_FG F h1 h2 h3 ?_ hk h4 h5 h6
    exact ih F (fun q hq => hc q (List.Mem.tail _ hq)) h
theorem backTo_names {p2 : Pos} {env : Env} (x0 : Str × Pos × Value) (xs : List (Str × Pos × Value)) : backTo p2 (starEach (List.map (fun q : Str × Pos × Value => Expr.Name q.1 q.2.1) (x0 :: xs)) env) = (false, eval (.Name x0.1 x0.2.1) env) :: backTo p2 (starEach (xs.map fun q => .Name q.1 q.2.1) env) := by
  have e : starEach (List.map (fun q : Str × Pos × Value => Expr.Name q.1 q.2.1) (x0 :: xs)) env = (false, eval (.Name x0.1 x0.2.1) env) :: starEach (xs.map fun q => .Name q.1 q.2.1) env := by
    rfl
  rw [e]
  unfold backTo
  rw [List.map_cons]
  rfl
theorem names_any {p2 : Pos} {env : Env} (xs : List (Str × Pos × Value)) : (backTo p2 (starEach (List.map (fun q : Str × Pos × Value => Expr.Name q.1 q.2.1) xs) env)).any (·.1) = false := by
  induction xs with
  | nil => rfl
  | cons y r ih => rw [backTo_names, List.any_cons, ih]; rfl
theorem lam_work {d0 u0 : Nat} {gd : Option (List Code)} {outer : List Env} {base : Heap} {p : Program} {loose : List Str} {mean : ExcName → Option Value} {mg mb : Str → Option Value} {k : Int} {G : Heap → Value → Heap → Prop} {Bad : Prop} {f : Str} {p1 p2 : Pos} {x0 : Str × Pos × Value} {xs : List (Str × Pos × Value)}
    (B : Below (Ar d0 u0 outer gd) base outer s.heap) (X : (Mine.hd.heap_39 w.params).In base) (T : Top p loose mean mg mb base) (hd : d0 ≤ 890)
    (ho : s.heap.get? wa = some fo) (hdat : fo.data = .func (kla_fn (Str.ofString "<lambda>") qual params (.Call (.Name f p1) ((x0 :: xs).map fun q => .Name q.1 q.2.1) [] p2) scope cl pm (.ref c') ctv)) (hcd : s.heap.CodeRec (.ref c') qual)
    (hbind : bindArgs (kla_fn (Str.ofString "<lambda>") qual params (.Call (.Name f p1) ((x0 :: xs).map fun q => .Name q.1 q.2.1) [] p2) scope cl pm (.ref c') ctv) ⟨[], []⟩ = pure [])
    (hfn : nsIn (Mine.hd.heap_39 w.params) mainGlobals f = some (some (.ref fa))) (hkeep : keepIn (Mine.hd.heap_39 w.params) (.ref fa) = true)
    (hfk : ∀ L, (envX qual scope L wa (.ref c') cl).kindOf f = some .globalImplicit) (hfd : (f == ("__debug__" : Str)) = false)
    (hcells : ∀ L, ∀ q ∈ x0 :: xs, CellOf s.heap (envX qual scope L wa (.ref c') cl) q)
    (hG : ∀ h0 h0' v h1, (∀ b o, h0'.get? b = some o → h0.get? b = some o) → G h0 v h1 → G h0' v h1)
    (hcall : ∀ env b4 h1 tk Q' E', Below (Ar (d0 + 1) (u0 + 3) (env :: outer) gd) b4 (env :: outer) h1 → base.StaysIn b4 → (∀ b o, s.heap.get? b = some o → h1.get? b = some o) →
      (∀ v h' tk', G h1 v h' → (∀ b o, h1.get? b = some o → h'.get? b = some o) → Q' v { s with heap := h', toks := tk' }) →
      (∀ e h' tk', Bad → Raised b4 (env :: outer) e k h' → h1.UpToSlots h' → E' (.ref e) { s with heap := h', toks := tk' }) →
      wpAny (model PR w) (Ar (d0 + 1) (u0 + 3) (env :: outer) gd) (call (.ref fa) (x0.2.2 :: xs.map (·.2.2))) Q' E' { s with heap := h1, toks := tk })
    (ret : ∀ v h' tk', G s.heap v h' → (∀ b o, s.heap.get? b = some o → h'.get? b = some o) → Q v { s with heap := h', toks := tk' })
    (exc : ∀ e h' tk', Bad → Raised base outer e k h' → s.heap.UpToSlots h' → E (.ref e) { s with heap := h', toks := tk' })
    (hcell : ∀ x ∈ scope.names, x.2 ≠ .cell) (hco : scope.isCoroutine = false) (hgen : scope.isGenerator = false) (hk : scope.kind = .function) : wpAny (model PR w) (Ar d0 u0 outer gd) (call (.ref wa) []) Q E s := by
  refine enter_lam (show d0 < 1000 by omega) ho hdat hcd (T.nolimit.keeps B.stays) hbind (fun L' h₁ hL F => ?_) hcell hco hgen hk
  refine wpAny_Call_ofName (nameX_K (v := .ref fa) F (X.keeps B.stays) (topRead_of (T.keeps B.stays)) hfn ?_ hk (hfk L') hfd)
  refine callWith_of (P := fun h' => (Mine.hd.heap_39 w.params).In h') ?_ (fun h hh => keeps_K hkeep h hh) ?_
  · rw [names_any]
    rfl
  rw [backTo_names]
  refine evalArgs_plain ?_
  rw [← backTo_names]
  refine spliced_cells hk (x0 :: xs) F (hcells L') ?_
  refine ⟨X.keeps fun b o q => F.keep b o (B.stays b o q), ?_⟩
  show wpAny _ _ (call (.ref fa) (x0.2.2 :: xs.map (·.2.2)) []) _ _ _
  refine below_use B F rfl hk fun b4 B4 hb4 hb4' => ?_
  refine hcall _ b4 h₁ _ _ _ B4 hb4 F.keep (fun v h' tk' hg hk1 => ret v h' tk' (hG _ _ v h' F.keep hg) fun b o q => hk1 b o (F.keep b o q)) (fun e h' tk' hb R U => ?_)
  exact leave_on B F (R.base hb4) U fun h'' R'' U'' => exc e h'' _ hb R'' U''
end
end
section
theorem top_Q2 : True := by w_top off; exact True.intro
inductive IsLam (h : Heap) (wa : Addr) (f : Str) (x0 : Str × Pos × Value) (xs : List (Str × Pos × Value)) : Prop
  | mk (fo : Obj) (qual : Str) (params : Arguments) (scope : Scope) (cl : List (Str × Addr)) (pm : Value) (c' : Addr) (ctv : Value) (p1 p2 : Pos) (h1 : h.get? wa = some fo) (h2 : fo.data = .func (kla_fn (Str.ofString "<lambda>") qual params (.Call (.Name f p1) ((x0 :: xs).map fun q => .Name q.1 q.2.1) [] p2) scope cl pm (.ref c') ctv)) (h3 : h.CodeRec (.ref c') qual)
    (h4 : bindArgs (kla_fn (Str.ofString "<lambda>") qual params (.Call (.Name f p1) ((x0 :: xs).map fun q => .Name q.1 q.2.1) [] p2) scope cl pm (.ref c') ctv) ⟨[], []⟩ = pure [])
    (h5 : ∀ L, (envX qual scope L wa (.ref c') cl).kindOf f = some .globalImplicit) (h6 : ∀ L, ∀ q ∈ x0 :: xs, CellOf h (envX qual scope L wa (.ref c') cl) q)
    (h7 : ∀ x ∈ scope.names, x.2 ≠ .cell) (h8 : scope.isCoroutine = false) (h9 : scope.isGenerator = false) (h10 : scope.kind = .function) : IsLam h wa f x0 xs
theorem IsLam.keeps {h h' : Heap} {wa : Addr} {f : Str} {x0 : Str × Pos × Value} {xs : List (Str × Pos × Value)} (x : IsLam h wa f x0 xs) (k : ∀ b o, h.get? b = some o → h'.get? b = some o) : IsLam h' wa f x0 xs := by
  cases x with | mk fo qual params scope cl pm c' ctv p1 p2 h1 h2 h3 h4 h5 h6 h7 h8 h9 h10 =>
  exact ⟨fo, qual, params, scope, cl, pm, c', ctv, p1, p2, k _ _ h1, h2, ob4_4 h3 fun c oc vs tq a1 a2 a3 a4 => ⟨c, oc, vs, tq, a1, k _ _ a2, a3, a4⟩, h4, h5, fun L q hq => ob2_3 (h6 L q hq) fun c o b1 b2 b3 => ⟨c, o, b1, k _ _ b2, b3⟩, h7, h8, h9, h10⟩
section
variable {w : World} {E : Value → Shared → Prop} {s : Shared} {wa : Addr} {Q : Value → Shared → Prop} {d0 u0 : Nat} {gd : Option (List Code)} {outer : List Env} {base : Heap} {p : Program} {loose : List Str} {mean : ExcName → Option Value} {mg mb : Str → Option Value} {word : Str} {most place n : Int} {t1 t2 t3 : Tok} {q1 q2 q3 : Pos}
theorem heard_lam {k : Int} {G : Heap → Value → Heap → Prop} {Bad : Prop} {f : Str} {x0 : Str × Pos × Value} {xs : List (Str × Pos × Value)} {fa : Addr}
    (B : Below (Ar d0 u0 outer gd) base outer s.heap) (X : (Mine.hd.heap_39 w.params).In base) (T : Top p loose mean mg mb base) (hd : d0 ≤ 870) (hu : u0 ≤ 1700) (I : IsLam s.heap wa f x0 xs)
    (hfn : nsIn (Mine.hd.heap_39 w.params) mainGlobals f = some (some (.ref fa))) (hkeep : keepIn (Mine.hd.heap_39 w.params) (.ref fa) = true) (hfd : (f == ("__debug__" : Str)) = false)
    (hG : ∀ h0 h0' v h1 h2 L, (∀ b o, h0'.get? b = some o → h0.get? b = some o) → (∃ o, h0.get? L = some o) → h0'.get? L = none → (∀ b o, b ≠ L → h1.get? b = some o → h2.get? b = some o) → G h0 v h1 → G h0' v h2)
    (hG0 : ∀ h0 h0' v h1, (∀ b o, h0'.get? b = some o → h0.get? b = some o) → G h0 v h1 → G h0' v h1)
    (hcall : ∀ d1 u1 o1 b4 h1 tk Q' E', d1 ≤ d0 + 10 → u1 ≤ u0 + 100 → Below (Ar d1 u1 o1 gd) b4 o1 h1 → base.StaysIn b4 → (∀ b o, s.heap.get? b = some o → h1.get? b = some o) →
      (∀ v h' tk', G h1 v h' → (∀ b o, h1.get? b = some o → h'.get? b = some o) → Q' v { s with heap := h', toks := tk' }) →
      (∀ e h' tk', Bad → Raised b4 o1 e k h' → h1.UpToSlots h' → E' (.ref e) { s with heap := h', toks := tk' }) →
      wpAny (model PR w) (Ar d1 u1 o1 gd) (call (.ref fa) (x0.2.2 :: xs.map (·.2.2))) Q' E' { s with heap := h1, toks := tk })
    (ret : ∀ v h' tk', G s.heap v h' → (∀ b o, s.heap.get? b = some o → h'.get? b = some o) → Q v { s with heap := h', toks := tk' })
    (exc : Bad → ∀ D t t' h' tk', base.StaysIn h' → s.heap.UpToSlots h' → s.heap.get? D = none → h'.get? D = some (faultO k t t') → Q (.ref D) { s with heap := h', toks := tk' }) :
    wpAny (model PR w) (Ar d0 u0 outer gd) (call (.ref 396) [.ref wa]) Q E s := by
  have I0 := I
  obtain ⟨fo, qual, params, scope, cl, pm, c', ctv, p1, p2, h1, h2, _, _, _, _, _, _, _, _⟩ := I0
  refine heard_spec (G := G) (Bad := Bad) (k := k) B X T (by omega) (by omega) h1 h2 hG (fun env b3 hh tk Q' E' B3 hb3 hk r1 r2 => ?_) ret exc
  obtain ⟨fo, qual, params, scope, cl, pm, c', ctv, p1, p2, a1, a2, a3, a4, a5, a6, a7, a8, a9, a10⟩ := I.keeps hk
  refine lam_work (s := { s with heap := hh, toks := tk }) (k := k) (G := G) (Bad := Bad) B3 (X.keeps hb3) (T.keeps hb3) (by omega) a1 a2 a3 a4 hfn hkeep a5 hfd a6 hG0 (fun env2 b4 h4 tk4 Q4 E4 B4 hb4 hk4 r3 r4 => ?_) (fun v h' tk' g kk => r1 v h' tk' g kk) (fun e h' tk' hb R U => r2 e h' tk' hb R U) a7 a8 a9 a10
  exact hcall _ _ _ b4 h4 tk4 Q4 E4 (by omega) (by omega) B4 (fun b o q => hb4 b o (hb3 b o q)) (fun b o q => hk4 b o (hk b o q)) r3 r4
def Heard (h h' : Heap) (r : Option Int) (place : Int) (v : Value) : Prop := (∃ n t, r = some n ∧ v = .int n t) ∨ (r = none ∧ ∃ D t t', v = .ref D ∧ h.get? D = none ∧ h'.get? D = some (faultO place t t'))
theorem heard_number (B : Below (Ar d0 u0 outer gd) base outer s.heap) (X : (Mine.hd.heap_39 w.params).In base) (T : Top p loose mean mg mb base) (hd : d0 ≤ 870) (hu : u0 ≤ 1700)
    (I : IsLam s.heap wa (Str.ofString "plain_number") (Str.ofString "word", q1, .str word t1) [(Str.ofString "most", q2, .int most t2), (Str.ofString "place", q3, .int place t3)])
    (hw : word.length ≤ 63) (hs : ∀ c ∈ signs word, PyData.strOk c = true)
    (hn : (word == Str.ofString "") = false → (signs word).filter (pzOf (Str.ofString "0123456789")) = [] → PySem.intText? word = some n)
    (ret : ∀ v h' tk', base.StaysIn h' → s.heap.UpToSlots h' → Heard s.heap h' (if numOk word n most = true then some n else none) place v → Q v { s with heap := h', toks := tk' }) :
    wpAny (model PR w) (Ar d0 u0 outer gd) (call (.ref 396) [.ref wa]) Q E s := by
  refine heard_lam (fa := 104) (k := place) (G := fun _ v _ => numOk word n most = true ∧ ∃ t, v = .int n t) (Bad := numOk word n most = false) B X T hd hu I (by k_is) (by k_is) (by decide) (fun _ _ _ _ _ _ _ _ _ _ g => g) (fun _ _ _ _ _ g => g)
    (fun d1 u1 o1 b4 h1 tk Q' E' l1 l2 B4 hb4 hk r1 r2 => ?_) (fun v h' tk' g kk => ?_) (fun hb D t t' h' tk' a1 a2 a3 a4 => ?_)
  · refine number_spec (n := n) (s := { s with heap := h1, toks := tk }) B4 (X.keeps hb4) (T.keeps hb4) rfl (show d1 ≤ 900 by omega) (show u1 ≤ 2000 by omega) hw hs hn (fun ok t h' tk' kk => ?_) (fun bad e h' tk' R U => ?_)
    · exact r1 _ h' tk' ⟨ok, t, rfl⟩ kk
    · exact r2 e h' tk' bad R U
  · obtain ⟨ok, t, rfl⟩ := g
    exact ret _ h' tk' (fun b o q => kk b o (B.stays b o q)) (Heap.UpToSlots.of_keeps kk) (.inl ⟨n, t, if_pos ok, rfl⟩)
  · exact ret _ h' tk' a1 a2 (.inr ⟨if_neg (by rw [hb]; decide), D, t, t', rfl, a3, a4⟩)
theorem heard_code (B : Below (Ar d0 u0 outer gd) base outer s.heap) (X : (Mine.hd.heap_39 w.params).In base) (T : Top p loose mean mg mb base) (hd : d0 ≤ 870) (hu : u0 ≤ 1700)
    (I : IsLam s.heap wa (Str.ofString "plain_code") (Str.ofString "word", q1, .str word t1) [(Str.ofString "place", q3, .int place t3)])
    (hw : word.length ≤ 63) (hs : ∀ c ∈ signs (Txt.slice word (some 2) none), PyData.strOk c = true)
    (ret : ∀ v h' tk', base.StaysIn h' → s.heap.UpToSlots h' → Heard s.heap h' (codeVal word) place v → Q v { s with heap := h', toks := tk' }) :
    wpAny (model PR w) (Ar d0 u0 outer gd) (call (.ref 396) [.ref wa]) Q E s := by
  refine heard_lam (fa := 109) (k := place) (G := fun _ v _ => ∃ n t, codeVal word = some n ∧ v = .int n t) (Bad := codeVal word = none) B X T hd hu I (by k_is) (by k_is) (by decide) (fun _ _ _ _ _ _ _ _ _ _ g => g) (fun _ _ _ _ _ g => g)
    (fun d1 u1 o1 b4 h1 tk Q' E' l1 l2 B4 hb4 hk r1 r2 => ?_) (fun v h' tk' g kk => ?_) (fun hb D t t' h' tk' a1 a2 a3 a4 => ?_)
  · refine code_spec (s := { s with heap := h1, toks := tk }) B4 (X.keeps hb4) (T.keeps hb4) rfl (show d1 ≤ 900 by omega) (show u1 ≤ 2000 by omega) hw hs (fun n ok t h' tk' kk => ?_) (fun bad e h' tk' R U => ?_)
    · exact r1 _ h' tk' ⟨n, t, ok, rfl⟩ kk
    · exact r2 e h' tk' bad R U
  · (refine ob2_2 g fun n t ok e_61 => ?_; try clear g; subst e_61)
    exact ret _ h' tk' (fun b o q => kk b o (B.stays b o q)) (Heap.UpToSlots.of_keeps kk) (.inl ⟨n, t, ok, rfl⟩)
  · exact ret _ h' tk' a1 a2 (.inr ⟨hb, D, t, t', rfl, a3, a4⟩)
def HeardL (h h' : Heap) (r : Option (List Int)) (place : Int) (v : Value) : Prop := (∃ ns D vs n, r = some ns ∧ v = .ref D ∧ h.get? D = none ∧ h'.get? D = some (listOf vs.toArray n) ∧ DatAll [] vs (ns.map Dat.int)) ∨ (r = none ∧ ∃ D t t', v = .ref D ∧ h.get? D = none ∧ h'.get? D = some (faultO place t t'))
theorem heard_text (B : Below (Ar d0 u0 outer gd) base outer s.heap) (X : (Mine.hd.heap_39 w.params).In base) (T : Top p loose mean mg mb base) (hd : d0 ≤ 870) (hu : u0 ≤ 1700)
    (I : IsLam s.heap wa (Str.ofString "text_codes") (Str.ofString "word", q1, .str word t1) [(Str.ofString "place", q3, .int place t3)])
    (hw : word.length ≤ 63) (hp : (Txt.split word (Str.ofString ",")).length ≤ 100) (hs : ∀ q ∈ Txt.split word (Str.ofString ","), ∀ c ∈ signs (Txt.slice q (some 2) none), PyData.strOk c = true)
    (ret : ∀ v h' tk', base.StaysIn h' → s.heap.UpToSlots h' → HeardL s.heap h' (textVal word) place v → Q v { s with heap := h', toks := tk' }) :
    wpAny (model PR w) (Ar d0 u0 outer gd) (call (.ref 396) [.ref wa]) Q E s := by
  refine heard_lam (fa := 114) (k := place) (G := fun h0 v h1 => ∃ ns D vs n, textVal word = some ns ∧ v = .ref D ∧ h0.get? D = none ∧ h1.get? D = some (listOf vs.toArray n) ∧ DatAll [] vs (ns.map Dat.int)) (Bad := textVal word = none) B X T hd hu I (by k_is) (by k_is) (by decide) ?_ ?_
    (fun d1 u1 o1 b4 h1 tk Q' E' l1 l2 B4 hb4 hk r1 r2 => ?_) (fun v h' tk' g kk => ?_) (fun hb D t t' h' tk' a1 a2 a3 a4 => ?_)
  · (intro h0 h0' v h1 h2 L k1 o_62 _ k2 o_63; (refine ob1_1 o_62 fun oL hL => ?_; try clear o_62); (refine ob4_5 o_63 fun ns D vs n g1 e_64 g3 g4 g5 => ?_; try clear o_63; subst e_64))
    refine mk4_5 ns D vs n g1 rfl ?_ (k2 _ _ (fun z => by subst z; rw [hL] at g3; exact nos' g3) g4) g5
    cases z : h0'.get? D with
    | none => rfl
    | some o => have := k1 _ _ z; rw [g3] at this; exact nos this
  · (intro h0 h0' v h1 k1 o_65; (refine ob4_5 o_65 fun ns D vs n g1 e_66 g3 g4 g5 => ?_; try clear o_65; subst e_66))
    refine mk4_5 ns D vs n g1 rfl ?_ g4 g5
    cases z : h0'.get? D with
    | none => rfl
    | some o => have := k1 _ _ z; rw [g3] at this; exact nos this
  · refine text_spec (s := { s with heap := h1, toks := tk }) B4 (X.keeps hb4) (T.keeps hb4) rfl (show d1 ≤ 890 by omega) (show u1 ≤ 1900 by omega) hw hp hs (fun ns ok D vs n h' tk' b1 b2 b3 kk => ?_) (fun bad e h' tk' R U => ?_)
    · exact r1 _ h' tk' ⟨ns, D, vs, n, ok, rfl, b1, b2, b3⟩ kk
    · exact r2 e h' tk' bad R U
  · (refine ob4_5 g fun ns D vs n g1 g2 g3 g4 g5 => ?_; try clear g)
    exact ret _ h' tk' (fun b o q => kk b o (B.stays b o q)) (Heap.UpToSlots.of_keeps kk) (.inl ⟨ns, D, vs, n, g1, g2, g3, g4, g5⟩)
  · exact ret _ h' tk' a1 a2 (.inr ⟨hb, D, t, t', rfl, a3, a4⟩)
end
end
section
section
local macro_rules | `(tactic| walk_at "Z pad") => `(tactic| skip)
theorem top_N1 : True ∧ True := by w_top off; (try (walk1; fail)); exact ⟨True.intro, True.intro⟩
end
theorem slice63 {vs : List Value} (h : vs.length ≤ 63) : (slicePick vs.toArray none (some 63) none).toList = vs := by
  have e : sliceBounds none (some 63) none vs.toArray.size = (((0 : Nat) : Int), ((vs.length : Nat) : Int), 1) := by
    simp only [sliceBounds, Option.getD_none, show (1 : Int) > 0 by decide, if_true, List.size_toArray]
    simp
    omega
  rw [kmk_pick_nat _ e]
  simp
local macro_rules | `(tactic| walk_at "subscriptTail Name Slice ref ref") => `(tactic| refine stop_here ?_)
theorem pen_spec {w : World} {E : Value → Shared → Prop} {s : Shared} {h₀ : Heap} {p : Program} {loose : List Str} {mean : ExcName → Option Value} {mg mb : Str → Option Value} {Q : Value → Shared → Prop} {l : Addr} {vs : List Value} {ns : List Int} {d0 u0 : Nat} {gd : Option (List Code)} {outer : List Env}
    (kh : ∀ b o, h₀.get? b = some o → s.heap.get? b = some o) (X : (Mine.hd.heap_39 w.params).In h₀) (T : Top p loose mean mg mb h₀) (hd : d0 ≤ 900) (hu : u0 ≤ 900) (hl : h₀.IsList l vs.toArray) (hi : IntsAre vs ns) (hlen : vs.length ≤ 63) {a0 : Addr} {o0 : Obj} (ha : s.heap.get? a0 = some o0) (ha0 : h₀.get? a0 = none)
    (ret : ∀ P c n nc t1 t2 t3 seed h' tk', s.heap.get? P = none → s.heap.get? c = none → c < P → h'.get? P = some (penO c 0 0 seed t1 t2 t3 n) → h'.get? c = some (listOf vs.toArray nc) → 0 ≤ seed → seed < 1009 → (∀ b o, s.heap.get? b = some o → h'.get? b = some o) → a0 < P → a0 < c → Q (.ref P) { s with heap := h', toks := tk' }) :
    wpAny (model PR w) (Ar d0 u0 outer gd) (call (.ref 389) [.ref l]) Q E s := by
  k_dflt (refine' enter_plain (news := [(a0, o0)]) (binds := [(Str.ofString "script", .ref l)]) (rb := [(Str.ofString "script", .ref l)]) ?k1 ?k2 ?k3 ?k4 ?k6 ?k7 ?k8 ?k9 ?kB ?_ rfl ?c5 ?c2 ?c3 ?c4; (case k4 => exact news1 ⟨ha, ha0⟩); walk_at "MY enter")
  case k8 => show d0 < 1000; omega
  intro g' L' h' kg kg2 kg3 F' N' X' T' hL hlt
  have nn : ∀ (h : Heap) (L : Addr) (nw : Led) (q : Addr × Obj), News g' L h nw → q ∈ nw → q.1 ≠ a0 → s.heap.get? q.1 = none := fun h L nw q N hq hne => by
    cases z : s.heap.get? q.1 with
    | none => rfl
    | some o => have := kg2 _ _ z (news1 (Ne.symm hne)); rw [(N q hq).2.2] at this; exact nos this
  have hl' : g'.IsList l vs.toArray := hl.at fun o q => kg _ _ q
  clear hl kh X T
  show wpAny _ _ _ _ _ _
  k_fold
  walk_at "MY steps"
  all_goals try (unfold Stop; (with_reducible show wpAny _ _ (subscriptTail _ (PySem.Expr.Slice _ _ none _) (Value.ref _) (Value.ref _)) _ _ _); k_dflt (refine' kmk_slice_lit (s := ⟨_, _, _, _, _⟩) ?F ?N ?l ?p ?q ?e ?_ ?s ?t ?z; (case F | N => k_asm); (case l => exact Heap.IsList.at (by assumption) (Fr.keep (by assumption) _)); (case p | q => kmk_part); (case e => exact slice63 (by assumption)); (case s => with_unfolding_all rfl); (case t => kmk_pure); (case z => rw [List.size_toArray, sizeLine_eq]; omega)); intro D' h' F' N' l1; (try k_lt l1); (try dsimp only); all_goals walk_at "MY steps")
  all_goals try (unfold Stop; (with_reducible show wpAny _ _ (subscriptTail _ (PySem.Expr.Slice _ _ none _) (Value.ref _) (Value.ref _)) _ _ _); k_dflt (refine' kmk_slice_lit (s := ⟨_, _, _, _, _⟩) ?F ?N ?l ?p ?q ?e ?_ ?s ?t ?z; (case F | N => k_asm); (case l => exact Heap.IsList.at (by assumption) (Fr.keep (by assumption) _)); (case p | q => kmk_part); (case e => exact slice63 (by assumption)); (case s => with_unfolding_all rfl); (case t => kmk_pure); (case z => rw [List.size_toArray, sizeLine_eq]; omega)); intro D' h' F' N' l1; (try k_lt l1); (try dsimp only); all_goals walk_at "MY steps")
  rename (Fr _ _ _ _) => FE
  rename (News _ _ _ _) => NE
  have kp : ∀ b o, s.heap.get? b = some o → _ := fun b o q => keep_of (P := fun _ => False) (news1 ha) kg2 FE NE (news1 (.inr (by k_mem))) b o id q
  refine ret _ _ _ _ _ _ _ _ _ _ (nn _ _ _ _ NE (.head _) (Nat.ne_of_gt (by omega))) (nn _ _ _ _ NE (.tail _ (.tail _ (.head _))) (Nat.ne_of_gt (by omega))) ?_ (NE _ (.head _)).1 (NE _ (.tail _ (.tail _ (.head _)))).1 (Int.fmod_nonneg_of_pos _ (by omega)) (Int.fmod_lt_of_pos _ (by omega)) kp ?_ ?_
  · show (_ : Nat) < _; omega
  · show (_ : Nat) < _; omega
  · show (_ : Nat) < _; omega
end
abbrev Sub (h h' : Heap) : Prop := ∀ b o, h.get? b = some o → h'.get? b = some o
theorem ms {n i : Nat} (h : i < n) : n + 1 - (i + 1) < n + 1 - i := by omega
theorem Sub.rfl' {h : Heap} : Sub h h := fun _ _ e => e
theorem Sub.trans {a b c : Heap} (x : Sub a b) (y : Sub b c) : Sub a c := fun p o e => y p o (x p o e)
theorem hide_sub {h : Heap} {H : List Addr} : Sub (hideAll h H) h := fun _ _ e => of_hideAll _ e
theorem hide_notin {h : Heap} {H : List Addr} {b : Addr} {o : Obj} (e : (hideAll h H).get? b = some o) : b ∉ H := fun m => by
  rw [hideAll_none _ m] at e; exact nos e
theorem sub_hide {h h' : Heap} {H : List Addr} (x : Sub h h') : Sub (hideAll h H) (hideAll h' H) := fun b o e => hideAll_get _ (x b o (hide_sub _ _ e)) (hide_notin e)
theorem sub_into {K h : Heap} {H : List Addr} (x : Sub K h) (o : ∀ b ∈ H, K.get? b = none) : Sub K (hideAll h H) := fun b ob e => hideAll_get _ (x b ob e) fun m => by
  rw [o b m] at e; exact nos e
def Kp (s s' : Shared) : Prop := ∃ h' tk, s' = { s with heap := h', toks := tk } ∧ ∀ b o, s.heap.get? b = some o → h'.get? b = some o
theorem Kp.rfl' {s : Shared} : Kp s s := ⟨s.heap, s.toks, rfl, fun _ _ e => e⟩
theorem Kp.trans' {a b c : Shared} (x : Kp a b) (y : Kp b c) : Kp a c := by
  (refine ob2_2 x fun h1 t1 e_67 k1 => ?_; try clear x; subst e_67)
  (refine ob2_2 y fun h2 t2 e_68 k2 => ?_; try clear y; subst e_68)
  exact mk2_2 h2 t2 rfl (fun b o e => k2 b o (k1 b o e))
theorem Kp.sub {a b : Shared} (x : Kp a b) : Sub a.heap b.heap := by
  (refine ob2_2 x fun h1 t1 e_69 k1 => ?_; try clear x; subst e_69)
  exact k1
theorem keeps_with {s : Shared} {h' : Heap} {tk : Nat} (k : Sub s.heap h') : Kp s { s with heap := h', toks := tk } := ⟨h', tk, rfl, k⟩
theorem keeps_tok {s : Shared} {tk : Nat} : Kp s { s with toks := tk } := ⟨s.heap, tk, rfl, fun _ _ e => e⟩
theorem keeps_push {s : Shared} {o : Obj} {tk : Nat} : Kp s { s with heap := s.heap.push o, toks := tk } := ⟨_, tk, rfl, fun _ _ e => Heap.get?_push_of_some _ e⟩

structure KP (α : Type) where
  p : Heap → α → Prop
  mono : ∀ {h h' : Heap} {a : α}, Sub h h' → p h a → p h' a

def Live (H : List Addr) (h : Heap) : Prop := ∀ b ∈ H, ∃ o, h.get? b = some o
theorem Live.mono {H : List Addr} {h h' : Heap} (x : Live H h) (k : Sub h h') : Live H h' := fun b hb => let ⟨o, e⟩ := x b hb; ⟨o, k b o e⟩

def Op {α : Type} (w : World) (A : Around) (H : List Addr) (s : Shared) (t : Sem α) (P : KP α) : Prop :=
  wpAny (model PR w) A t (fun a s' => Kp s s' ∧ P.p (hideAll s'.heap H) a) (fun _ _ => False) s
section
variable {α β : Type} {w : World} {A : Around} {H : List Addr} {s : Shared} {t : Sem α} {f : α → Sem β} {P P' : KP α} {R : KP β}
theorem Op.use {Q : α → Shared → Prop} {E : Value → Shared → Prop} (h : Op w A H s t P) (k : ∀ a s1, Kp s s1 → P.p (hideAll s1.heap H) a → Q a s1) : wpAny (model PR w) A t Q E s :=
  wpAny_mono h (fun a s1 x => k a s1 x.1 x.2) fun _ _ e => e.elim
theorem Op.bind (h : Op w A H s t P) (k : ∀ a s1, Kp s s1 → P.p (hideAll s1.heap H) a → Op w A H s1 (f a) R) : Op w A H s (t >>= f) R :=
  wpAny_bind (h.use fun a s1 x y => (k a s1 x y).use fun b s2 x2 y2 => ⟨x.trans' x2, y2⟩)
theorem Op.weak (h : Op w A H s t P) (k : ∀ h' a, P.p h' a → P'.p h' a) : Op w A H s t P' := h.use fun a s1 x y => ⟨x, k _ a y⟩
theorem Op.hold {vs : List Value} (h : Op w A H s t P) : Op w A H s (holding vs t) P := wpAny_holding h
theorem Op.stand {pos : Pos} {k : Sem α} (h : Op w A H s k P) : Op w A H s (standAt pos >>= fun _ => k) P := wpAny_bind (wpAny_standAt h)
end

structure Fm where
  s0 : Shared
  B : Heap
  H : List Addr
  L : Addr
  m : Str → Option Value
  mu : Led
abbrev Fm.hid (F : Fm) : List Addr := F.L :: (F.mu.map (·.1) ++ F.H)

structure G (w : World) (K : Heap) : Prop where
  X : (Mine.hd.heap_39 w.params).In K
  T : ∃ (p : Program) (loose : List Str) (mg mb : Str → Option Value), TopRead p loose mg mb K
theorem G.mono {w : World} {K K' : Heap} (x : G w K) (k : Sub K K') : G w K' := ⟨x.X.keeps k, let ⟨p, l, a, b, q⟩ := x.T; ⟨p, l, a, b, q.keeps k⟩⟩

def Rl (a b : Shared) : Prop := ∃ h tk, b = { a with heap := h, toks := tk }
theorem Rl.trans {a b c : Shared} (x : Rl a b) (y : Rl b c) : Rl a c := by
  (refine ob2_1 x fun h1 t1 e_70 => ?_; try clear x; subst e_70)
  (refine ob2_1 y fun h2 t2 e_71 => ?_; try clear y; subst e_71)
  exact mk2_1 h2 t2 rfl
theorem Kp.rl {a b : Shared} (x : Kp a b) : Rl a b := let ⟨h, t, e, _⟩ := x; ⟨h, t, e⟩

structure St (w : World) (F : Fm) (K : Heap) (s : Shared) : Prop where
  g : G w F.B
  rl : Rl F.s0 s
  base : Sub F.B s.heap
  sub : Sub K s.heap
  ns : s.heap.Ns F.L F.m
  mus : ∀ q ∈ F.mu, s.heap.get? q.1 = some q.2
  live : Live F.H s.heap
  out : ∀ b ∈ F.hid, K.get? b = none
  bL : F.B.get? F.L = none
  bmu : ∀ q ∈ F.mu, F.B.get? q.1 = none
  muL : ∀ q ∈ F.mu, q.1 ≠ F.L
  mnd : (F.mu.map (·.1)).Nodup
section
variable {w : World} {F : Fm} {K K' : Heap} {s s' : Shared}
theorem St.gh (x : St w F K s) : G w s.heap := x.g.mono x.base
theorem St.lives (x : St w F K s) : Live F.hid s.heap := fun b hb => by
  rcases List.mem_cons.mp hb with rfl | hb
  · (refine ob3_2 x.ns fun o _ _ e _ => ?_)
    exact ⟨o, e⟩
  rcases List.mem_append.mp hb with hb | hb
  · (refine ob1_2 (List.mem_map.mp hb) fun q hq e_72 => ?_; subst e_72)
    exact ⟨_, x.mus q hq⟩
  · exact x.live b hb
theorem St.grow (x : St w F K s) (k : Kp s s') : St w F K s' := ⟨x.g, x.rl.trans k.rl, x.base.trans k.sub, x.sub.trans k.sub, x.ns.keeps k.sub, fun q hq => k.sub _ _ (x.mus q hq), x.live.mono k.sub, x.out, x.bL, x.bmu, x.muL, x.mnd⟩
theorem St.know (x : St w F K s) : St w F (hideAll s.heap F.hid) s := ⟨x.g, x.rl, x.base, hide_sub, x.ns, x.mus, x.live, fun b hb => hideAll_none _ hb, x.bL, x.bmu, x.muL, x.mnd⟩
theorem St.in (x : St w F K s) : Sub K (hideAll s.heap F.hid) := sub_into x.sub x.out
theorem St.up (x : St w F K s) (k : Kp s s') : St w F (hideAll s'.heap F.hid) s' := (x.grow k).know
theorem St.less (x : St w F K' s) (k : Sub K K') : St w F K s := ⟨x.g, x.rl, x.base, k.trans x.sub, x.ns, x.mus, x.live, fun b hb => (by
  cases q : K.get? b with
  | none => rfl
  | some o => have := k _ _ q; rw [x.out b hb] at this; exact nos this), x.bL, x.bmu, x.muL, x.mnd⟩
end

def Ev (w : World) (A : Around) (F : Fm) (K : Heap) (env : Env) (e : PySem.Expr) (P : KP Value) : Prop := ∀ s, St w F K s → Op w A F.hid s (eval e env) P
def Tr (w : World) (A : Around) (F : Fm) (K : Heap) (env : Env) (e : PySem.Expr) (b : Bool) : Prop := ∀ s, St w F K s → Op w A F.hid s (isTrue e env (eval e env)) ⟨fun _ a => a = b, fun _ x => x⟩
section
variable {w : World} {A : Around} {F : Fm} {K K' : Heap} {env : Env} {e : PySem.Expr} {P P' : KP Value}
theorem Ev.weak (x : Ev w A F K env e P) (k : ∀ h v, P.p h v → P'.p h v) : Ev w A F K env e P' := fun s st => (x s st).weak k
end

inductive All2 {α β : Type} (R : α → β → Prop) : List α → List β → Prop
  | nil : All2 R [] []
  | cons {a b as bs} : R a b → All2 R as bs → All2 R (a :: as) (b :: bs)
theorem All2.imp {α β : Type} {R R' : α → β → Prop} (k : ∀ a b, R a b → R' a b) {as : List α} {bs : List β} (h : All2 R as bs) : All2 R' as bs := by
  induction h with
  | nil => exact .nil
  | cons x r ih => exact .cons (k _ _ x) ih
section
variable {α β : Type} {R : α → β → Prop} {vs : List β} {G : Prop}
theorem all2_nil (h : All2 R [] vs) : vs = [] := by cases h; rfl
theorem all2_1c {p1 : α} {ps : List α} (h : All2 R (p1 :: ps) vs) (f : ∀ v1 us, vs = v1 :: us → R p1 v1 → All2 R ps us → G) : G := by cases h; exact f _ _ rfl (by assumption) (by assumption)
theorem all2_1 {p1 : α} (h : All2 R [p1] vs) (f : ∀ v1, vs = [v1] → R p1 v1 → G) : G := all2_1c h fun v1 us e h1 r => f v1 (by rw [e, all2_nil r]) h1
theorem all2_2 {p1 p2 : α} (h : All2 R [p1, p2] vs) (f : ∀ v1 v2, vs = [v1, v2] → R p1 v1 → R p2 v2 → G) : G := all2_1c h fun v1 us e h1 r => all2_1 r fun v2 e2 h2 => f v1 v2 (by rw [e, e2]) h1 h2
theorem all2_2c {p1 p2 : α} {ps : List α} (h : All2 R (p1 :: p2 :: ps) vs) (f : ∀ v1 v2 us, vs = v1 :: v2 :: us → R p1 v1 → R p2 v2 → All2 R ps us → G) : G := all2_1c h fun v1 us e h1 r => all2_1c r fun v2 ws e2 h2 r2 => f v1 v2 ws (by rw [e, e2]) h1 h2 r2
theorem all2_3 {p1 p2 p3 : α} (h : All2 R [p1, p2, p3] vs) (f : ∀ v1 v2 v3, vs = [v1, v2, v3] → R p1 v1 → R p2 v2 → R p3 v3 → G) : G := all2_1c h fun v1 us e h1 r => all2_2 r fun v2 v3 e2 h2 h3 => f v1 v2 v3 (by rw [e, e2]) h1 h2 h3
theorem all2_3c {p1 p2 p3 : α} {ps : List α} (h : All2 R (p1 :: p2 :: p3 :: ps) vs) (f : ∀ v1 v2 v3 us, vs = v1 :: v2 :: v3 :: us → R p1 v1 → R p2 v2 → R p3 v3 → All2 R ps us → G) : G := all2_1c h fun v1 us e h1 r => all2_2c r fun v2 v3 ws e2 h2 h3 r2 => f v1 v2 v3 ws (by rw [e, e2]) h1 h2 h3 r2
theorem all2_4 {p1 p2 p3 p4 : α} (h : All2 R [p1, p2, p3, p4] vs) (f : ∀ v1 v2 v3 v4, vs = [v1, v2, v3, v4] → R p1 v1 → R p2 v2 → R p3 v3 → R p4 v4 → G) : G := all2_1c h fun v1 us e h1 r => all2_3 r fun v2 v3 v4 e2 h2 h3 h4 => f v1 v2 v3 v4 (by rw [e, e2]) h1 h2 h3 h4
theorem all2_5 {p1 p2 p3 p4 p5 : α} (h : All2 R [p1, p2, p3, p4, p5] vs) (f : ∀ v1 v2 v3 v4 v5, vs = [v1, v2, v3, v4, v5] → R p1 v1 → R p2 v2 → R p3 v3 → R p4 v4 → R p5 v5 → G) : G := all2_1c h fun v1 us e h1 r => all2_4 r fun v2 v3 v4 v5 e2 h2 h3 h4 h5 => f v1 v2 v3 v4 v5 (by rw [e, e2]) h1 h2 h3 h4 h5
theorem all2_6 {p1 p2 p3 p4 p5 p6 : α} (h : All2 R [p1, p2, p3, p4, p5, p6] vs) (f : ∀ v1 v2 v3 v4 v5 v6, vs = [v1, v2, v3, v4, v5, v6] → R p1 v1 → R p2 v2 → R p3 v3 → R p4 v4 → R p5 v5 → R p6 v6 → G) : G := all2_1c h fun v1 us e h1 r => all2_5 r fun v2 v3 v4 v5 v6 e2 h2 h3 h4 h5 h6 => f v1 v2 v3 v4 v5 v6 (by rw [e, e2]) h1 h2 h3 h4 h5 h6
theorem all2_7 {p1 p2 p3 p4 p5 p6 p7 : α} (h : All2 R [p1, p2, p3, p4, p5, p6, p7] vs) (f : ∀ v1 v2 v3 v4 v5 v6 v7, vs = [v1, v2, v3, v4, v5, v6, v7] → R p1 v1 → R p2 v2 → R p3 v3 → R p4 v4 → R p5 v5 → R p6 v6 → R p7 v7 → G) : G := all2_1c h fun v1 us e h1 r => all2_6 r fun v2 v3 v4 v5 v6 v7 e2 h2 h3 h4 h5 h6 h7 => f v1 v2 v3 v4 v5 v6 v7 (by rw [e, e2]) h1 h2 h3 h4 h5 h6 h7
end
theorem cells_none {m : Str → Option Value} {cells : Led} (h : PyProof.Rows.CellsAre m [] cells) : cells = [] := by cases h; rfl
section
variable {cm : Str → Option Value} {cells : List (Addr × Obj)} {G : Prop}
theorem cells_1c {n1 : Str} {c1 : Addr} {cs : List (Str × Addr)} (h : PyProof.Rows.CellsAre cm ((n1, c1) :: cs) cells) (f : ∀ o1 us, cells = (c1, o1) :: us → o1.data = .cell (cm n1) → PyProof.Rows.CellsAre cm cs us → G) : G := by cases h; exact f _ _ rfl (by assumption) (by assumption)
theorem cells_1 {n1 : Str} {c1 : Addr} (h : PyProof.Rows.CellsAre cm [(n1, c1)] cells) (f : ∀ o1, cells = [(c1, o1)] → o1.data = .cell (cm n1) → G) : G := cells_1c h fun o1 us e h1 q => f o1 (by rw [e, cells_none q]) h1
theorem cells_2 {n1 : Str} {c1 : Addr} {n2 : Str} {c2 : Addr} (h : PyProof.Rows.CellsAre cm [(n1, c1), (n2, c2)] cells) (f : ∀ o1 o2, cells = [(c1, o1), (c2, o2)] → o1.data = .cell (cm n1) → o2.data = .cell (cm n2) → G) : G := cells_1c h fun o1 us e h1 q => cells_1 q fun o2 e2 h2 => f o1 o2 (by rw [e, e2]) h1 h2
theorem cells_3 {n1 : Str} {c1 : Addr} {n2 : Str} {c2 : Addr} {n3 : Str} {c3 : Addr} (h : PyProof.Rows.CellsAre cm [(n1, c1), (n2, c2), (n3, c3)] cells) (f : ∀ o1 o2 o3, cells = [(c1, o1), (c2, o2), (c3, o3)] → o1.data = .cell (cm n1) → o2.data = .cell (cm n2) → o3.data = .cell (cm n3) → G) : G := cells_1c h fun o1 us e h1 q => cells_2 q fun o2 o3 e2 h2 h3 => f o1 o2 o3 (by rw [e, e2]) h1 h2 h3
theorem cells_4 {n1 : Str} {c1 : Addr} {n2 : Str} {c2 : Addr} {n3 : Str} {c3 : Addr} {n4 : Str} {c4 : Addr} (h : PyProof.Rows.CellsAre cm [(n1, c1), (n2, c2), (n3, c3), (n4, c4)] cells) (f : ∀ o1 o2 o3 o4, cells = [(c1, o1), (c2, o2), (c3, o3), (c4, o4)] → o1.data = .cell (cm n1) → o2.data = .cell (cm n2) → o3.data = .cell (cm n3) → o4.data = .cell (cm n4) → G) : G := cells_1c h fun o1 us e h1 q => cells_3 q fun o2 o3 o4 e2 h2 h3 h4 => f o1 o2 o3 o4 (by rw [e, e2]) h1 h2 h3 h4
theorem cells_5 {n1 : Str} {c1 : Addr} {n2 : Str} {c2 : Addr} {n3 : Str} {c3 : Addr} {n4 : Str} {c4 : Addr} {n5 : Str} {c5 : Addr} (h : PyProof.Rows.CellsAre cm [(n1, c1), (n2, c2), (n3, c3), (n4, c4), (n5, c5)] cells) (f : ∀ o1 o2 o3 o4 o5, cells = [(c1, o1), (c2, o2), (c3, o3), (c4, o4), (c5, o5)] → o1.data = .cell (cm n1) → o2.data = .cell (cm n2) → o3.data = .cell (cm n3) → o4.data = .cell (cm n4) → o5.data = .cell (cm n5) → G) : G := cells_1c h fun o1 us e h1 q => cells_4 q fun o2 o3 o4 o5 e2 h2 h3 h4 h5 => f o1 o2 o3 o4 o5 (by rw [e, e2]) h1 h2 h3 h4 h5
theorem cells_6 {n1 : Str} {c1 : Addr} {n2 : Str} {c2 : Addr} {n3 : Str} {c3 : Addr} {n4 : Str} {c4 : Addr} {n5 : Str} {c5 : Addr} {n6 : Str} {c6 : Addr} (h : PyProof.Rows.CellsAre cm [(n1, c1), (n2, c2), (n3, c3), (n4, c4), (n5, c5), (n6, c6)] cells) (f : ∀ o1 o2 o3 o4 o5 o6, cells = [(c1, o1), (c2, o2), (c3, o3), (c4, o4), (c5, o5), (c6, o6)] → o1.data = .cell (cm n1) → o2.data = .cell (cm n2) → o3.data = .cell (cm n3) → o4.data = .cell (cm n4) → o5.data = .cell (cm n5) → o6.data = .cell (cm n6) → G) : G := cells_1c h fun o1 us e h1 q => cells_5 q fun o2 o3 o4 o5 o6 e2 h2 h3 h4 h5 h6 => f o1 o2 o3 o4 o5 o6 (by rw [e, e2]) h1 h2 h3 h4 h5 h6
end
def KPs (Ps : List (KP Value)) : KP (List Value) := ⟨fun h vs => All2 (fun (P : KP Value) v => P.p h v) Ps vs, fun k x => x.imp fun P _ y => P.mono k y⟩
def Evs (w : World) (A : Around) (F : Fm) (K : Heap) (env : Env) (es : List PySem.Expr) (Ps : List (KP Value)) : Prop := ∀ pos s, St w F K s → Op w A F.hid s (spliced (backTo pos (starEach es env))) (KPs Ps)
section
variable {w : World} {A : Around} {F : Fm} {K : Heap} {env : Env} {e : PySem.Expr} {es : List PySem.Expr} {P : KP Value} {Ps : List (KP Value)}
theorem Evs.nil : Evs w A F K env [] [] := fun _ _ _ => wpAny_pure ⟨.rfl', .nil⟩
theorem Evs.cons (x : Ev w A F K env e P) (r : Evs w A F K env es Ps) (hs : starEach (e :: es) env = (false, eval e env) :: starEach es env := by rfl) : Evs w A F K env (e :: es) (P :: Ps) := fun pos s st => by
  rw [hs]
  show Op w A F.hid s (eval e env >>= fun v => (pure [v] : Sem (List Value)) >>= fun here => holding here (spliced (backTo pos (starEach es env))) >>= fun r => pure (here ++ r)) _
  refine (x s st).bind fun v s1 k1 y1 => ?_
  refine wpAny_bind (wpAny_pure (wpAny_bind (wpAny_holding ((r pos s1 (st.grow k1)).use fun vs s2 k2 y2 => wpAny_pure ⟨k2, .cons (P.mono (sub_hide k2.sub) y1) y2⟩))))
end
theorem All2.length {α β : Type} {R : α → β → Prop} {as : List α} {bs : List β} (h : All2 R as bs) : as.length = bs.length := by
  induction h with
  | nil => rfl
  | cons _ _ ih => exact congrArg (· + 1) ih
theorem All2.get {α β : Type} {R : α → β → Prop} {as : List α} {bs : List β} (h : All2 R as bs) : ∀ {i : Nat} {b : β}, bs[i]? = some b → ∃ a, as[i]? = some a ∧ R a b := by
  induction h with
  | nil => exact fun e => nomatch e
  | cons x r ih =>
    intro i b e
    match i, e with
    | 0, e => exact ⟨_, rfl, Option.some.inj e ▸ x⟩
    | i + 1, e => exact ih (i := i) e
theorem All2.get' {α β : Type} {R : α → β → Prop} {as : List α} {bs : List β} (h : All2 R as bs) : ∀ {i : Nat} {a : α}, as[i]? = some a → ∃ b, bs[i]? = some b ∧ R a b := by
  induction h with
  | nil => exact fun e => nomatch e
  | cons x r ih =>
    intro i b e
    match i, e with
    | 0, e => exact ⟨_, rfl, Option.some.inj e ▸ x⟩
    | i + 1, e => exact ih (i := i) e
theorem All2.append {α β : Type} {R : α → β → Prop} {as as' : List α} {bs bs' : List β} (h : All2 R as bs) (q : All2 R as' bs') : All2 R (as ++ as') (bs ++ bs') := by
  induction h with
  | nil => exact q
  | cons x _ ih => exact .cons x ih
theorem All2.map_left {α β γ : Type} {R : α → β → Prop} {f : γ → α} {cs : List γ} {bs : List β} (h : All2 (fun c b => R (f c) b) cs bs) : All2 R (cs.map f) bs := by
  induction h with
  | nil => exact .nil
  | cons x _ ih => exact .cons x ih
theorem All2.of_map_left {α β γ : Type} {R : α → β → Prop} {f : γ → α} {cs : List γ} : ∀ {bs : List β}, All2 R (cs.map f) bs → All2 (fun c b => R (f c) b) cs bs := by
  induction cs with
  | nil => exact fun h => all2_nil (R := R) h ▸ .nil
  | cons c cs ih => exact fun h => all2_1c (R := R) h fun v us e x r => e ▸ .cons x (ih r)
theorem All2.take {α β : Type} {R : α → β → Prop} (n : Nat) {as : List α} {bs : List β} (h : All2 R as bs) : All2 R (as.take n) (bs.take n) := by
  induction h generalizing n with
  | nil => rw [List.take_nil, List.take_nil]; exact .nil
  | cons x r ih =>
    match n with
    | 0 => exact .nil
    | n + 1 => exact .cons x (ih n)

def kd (d : PyData) : KP Value := ⟨fun h v => ∃ as, Reads h v d as, fun k ⟨as, r⟩ => ⟨as, Reads.keeps k r⟩⟩
def kv (v : Value) : KP Value := ⟨fun _ a => a = v, fun _ x => x⟩
theorem kd_int {h : Heap} {v : Value} {i : Int} (x : (kd (.int i)).p h v) : ∃ t, v = .int i t := by
  (refine ob1_1 x fun as r => ?_; try clear x)
  cases r; exact ⟨_, rfl⟩
theorem kd_str {h : Heap} {v : Value} {x : Str} (q : (kd (.str x)).p h v) : ∃ t, v = .str x t := by
  (refine ob1_1 q fun as r => ?_; try clear q)
  cases r; exact ⟨_, rfl⟩
theorem kd_bool {h : Heap} {v : Value} {b : Bool} (x : (kd (.bool b)).p h v) : v = .bool b := by
  (refine ob1_1 x fun as r => ?_; try clear x)
  cases r; rfl
theorem kd_none {h : Heap} {v : Value} (x : (kd .none).p h v) : v = .none := by
  (refine ob1_1 x fun as r => ?_; try clear x)
  cases r; rfl
theorem is_int {h : Heap} {i : Int} {t : Tok} : (kd (.int i)).p h (.int i t) := ⟨[], .int _ _⟩
theorem is_str {h : Heap} {x : Str} {t : Tok} : (kd (.str x)).p h (.str x t) := ⟨[], .str _ _⟩
theorem is_bool {h : Heap} {b : Bool} : (kd (.bool b)).p h (.bool b) := ⟨[], .bool _⟩
theorem is_none {h : Heap} : (kd .none).p h .none := ⟨[], .none⟩
theorem readsAll_of {h : Heap} {ds : List PyData} {vs : List Value} (q : All2 (fun d v => (kd d).p h v) ds vs) : ∃ as, ReadsAll h vs ds as := by
  induction q with
  | nil => exact ⟨[], .nil⟩
  | cons x _ ih => obtain ⟨as, x⟩ := x; obtain ⟨bs, y⟩ := ih; exact ⟨as ++ bs, .cons x y⟩
theorem of_readsAll {h : Heap} {ds : List PyData} {vs : List Value} {as : List Addr} (x : ReadsAll h vs ds as) : All2 (fun d v => (kd d).p h v) ds vs := by
  induction ds generalizing vs as with
  | nil => cases x; exact .nil
  | cons d ds ih => cases x with | cons x r => exact .cons ⟨_, x⟩ (ih r)
def kSeq (T : String) (Ps : List (KP Value)) : KP Value := ⟨fun h v => ∃ a o vs n, v = .ref a ∧ h.get? a = some o ∧ o.cls = .type T ∧ o.data = .seq vs n ∧ All2 (fun (P : KP Value) v => P.p h v) Ps vs.toList, fun k x_ => ob4_5 x_ fun a o vs n e g c d q => mk4_5 a o vs n e (k _ _ g) c d (q.imp fun P _ y => P.mono k y)⟩
abbrev kTup (Ps : List (KP Value)) : KP Value := kSeq "tuple" Ps
abbrev kLst (Ps : List (KP Value)) : KP Value := kSeq "list" Ps
theorem tup_kd {ds : List PyData} {h : Heap} {v : Value} (x : (kTup (ds.map kd)).p h v) : (kd (.tuple ds)).p h v := by
  (refine ob4_5 x fun a o vs n e_73 g c d q => ?_; try clear x; subst e_73)
  (refine ob1_1 (readsAll_of q.of_map_left) fun as r => ?_)
  exact ⟨as, .tuple g c d r⟩
theorem lst_kd {ds : List PyData} {h : Heap} {v : Value} (x : (kLst (ds.map kd)).p h v) : (kd (.list ds)).p h v := by
  (refine ob4_5 x fun a o vs n e_74 g c d q => ?_; try clear x; subst e_74)
  (refine ob1_1 (readsAll_of q.of_map_left) fun as r => ?_)
  exact ⟨a :: as, .list g c d r⟩
theorem kd_tup {ds : List PyData} {h : Heap} {v : Value} (q : (kd (.tuple ds)).p h v) : (kTup (ds.map kd)).p h v := by
  (refine ob1_1 q fun as r => ?_; try clear q)
  cases r with | tuple h1 h2 h3 h4 => exact ⟨_, _, _, _, rfl, h1, h2, h3, (of_readsAll h4).map_left⟩
theorem kd_lst {ds : List PyData} {h : Heap} {v : Value} (q : (kd (.list ds)).p h v) : (kLst (ds.map kd)).p h v := by
  (refine ob1_1 q fun as r => ?_; try clear q)
  cases r with | list h1 h2 h3 h4 => exact ⟨_, _, _, _, rfl, h1, h2, h3, (of_readsAll h4).map_left⟩

section
variable {w : World} {A : Around} {F : Fm} {K : Heap} {env : Env} {P P' P₁ P₂ : KP Value} {e e₁ e₂ e₃ : PySem.Expr} {pos : Pos} {x : Str} {v : Value}
theorem ev_local (hm : F.m x = some v) (h : P.p K v) (hk : env.scope.kind = .function := by rfl) (hx : env.kindOf x = some .local := by rfl) (hL : env.locals = F.L := by rfl) (hd : (x == ("__debug__" : Str)) = false := by decide) :
    Ev w A F K env (.Name x pos) P := fun s st => wpAny_Name (wpAny_loadName_local hk hx (by rw [hL]; exact st.ns) hm ⟨.rfl', P.mono st.in h⟩) hd
theorem ev_cell {c : Addr} {o : Obj} (hc : env.cells.lookup x = some c) (hm : (c, o) ∈ F.mu) (hd : o.data = .cell (some v)) (h : P.p K v) (hk : env.scope.kind = .function := by rfl) (hx : env.kindOf x = some .cell := by rfl) (hb : (x == ("__debug__" : Str)) = false := by decide) :
    Ev w A F K env (.Name x pos) P := fun s st => wpAny_Name (wpAny_loadName_cell hk hx hc ⟨o, st.mus _ hm, hd⟩ ⟨.rfl', P.mono st.in h⟩) hb
theorem ev_free {c : Addr} {o : Obj} (hc : env.cells.lookup x = some c) (hm : (c, o) ∈ F.mu) (hd : o.data = .cell (some v)) (h : P.p K v) (hk : env.scope.kind = .function := by rfl) (hx : env.kindOf x = some .free := by rfl) (hb : (x == ("__debug__" : Str)) = false := by decide)
    (hn : (x == ("__classdict__" : Str)) = false := by decide) :
    Ev w A F K env (.Name x pos) P := fun s st => wpAny_Name (wpAny_loadName_free hk hx hc ⟨o, st.mus _ hm, hd⟩ ⟨.rfl', P.mono st.in h⟩ hn) hb
theorem ev_global (e : nsIn (Mine.hd.heap_39 w.params) mainGlobals x = some (some v)) (hg : env.globals = mainGlobals := by rfl) (hk : env.scope.kind = .function := by rfl) (hx : env.kindOf x = some .globalImplicit := by rfl) (hd : (x == ("__debug__" : Str)) = false := by decide) :
    Ev w A F K env (.Name x pos) (kv v) := fun s st => by
  obtain ⟨X, p, loose, mg, mb, T⟩ := st.gh
  exact Name_function_global hk hx (loadGlobal_global (by rw [hg]; exact T.g) (mg_of X T.g e) ⟨.rfl', rfl⟩) hd
theorem ev_builtin (e : nsIn (Mine.hd.heap_39 w.params) mainGlobals x = some none) (hv : bootBuiltins x = some v) (hn : x ≠ "__name__") (hg : env.globals = mainGlobals := by rfl) (hbn : env.builtins = builtinsNs := by rfl) (hk : env.scope.kind = .function := by rfl) (hx : env.kindOf x = some .globalImplicit := by rfl) (hd : (x == ("__debug__" : Str)) = false := by decide) :
    Ev w A F K env (.Name x pos) (kv v) := fun s st => by
  obtain ⟨X, p, loose, mg, mb, T⟩ := st.gh
  exact Name_function_global hk hx (loadGlobal_builtin (by rw [hg]; exact T.g) (mg_none_of X T.g e) (by rw [hbn]; exact T.b) ((T.builtins x hn).trans hv) ⟨.rfl', rfl⟩) hd
theorem ev_int {i : Int} {k : Nat} : Ev w A F K env (.Constant (.int i) k pos) (kd (.int i)) := fun s st => wpAny_Constant_int ⟨keeps_tok, is_int⟩
theorem ev_str {i : Str} {k : Nat} : Ev w A F K env (.Constant (.str i) k pos) (kd (.str i)) := fun s st => Constant_str ⟨keeps_tok, is_str⟩
theorem ev_bool {b : Bool} {k : Nat} : Ev w A F K env (.Constant (.bool b) k pos) (kd (.bool b)) := fun s st => fun _ _ _ => ⟨.rfl', is_bool⟩
theorem ev_none {k : Nat} : Ev w A F K env (.Constant .none k pos) (kd .none) := fun s st => fun _ _ _ => ⟨.rfl', is_none⟩

def O1 {α β : Type} (w : World) (A : Around) (f : α → Sem β) (P : KP α) (R : KP β) : Prop := ∀ s v H, G w s.heap → Live H s.heap → P.p (hideAll s.heap H) v → Op w A H s (f v) R
def O2 (w : World) (A : Around) (f : Value → Value → Sem Value) (P Q R : KP Value) : Prop := ∀ s v u H, G w s.heap → Live H s.heap → P.p (hideAll s.heap H) v → Q.p (hideAll s.heap H) u → Op w A H s (f v u) R
theorem ev_bin {o : Operator} {R : KP Value} (x : Ev w A F K env e₁ P₁) (y : Ev w A F K env e₂ P₂) (q : O2 w A (binaryOp o) P₁ P₂ R) : Ev w A F K env (.BinOp e₁ o e₂ pos) R := fun s st =>
  wpAny_BinOp ((x s st).use fun v s1 k1 p1 => (y s1 (st.grow k1)).use fun u s2 k2 p2 => (q s2 v u _ ((st.grow k1).grow k2).gh ((st.grow k1).grow k2).lives (P₁.mono (sub_hide k2.sub) p1) p2).use fun r s3 k3 p3 => ⟨k1.trans' (k2.trans' k3), p3⟩)
theorem ev_cmp {o : CmpOp} {R : KP Value} (x : Ev w A F K env e₁ P₁) (y : Ev w A F K env e₂ P₂) (q : O2 w A (compareOp o) P₁ P₂ R) (hm : behindInMarks o e₂ = false := by with_unfolding_all rfl) : Ev w A F K env (.Compare e₁ [o] [e₂] pos) R := fun s st =>
  wpAny_Compare1 ((x s st).use fun v s1 k1 p1 => (y s1 (st.grow k1)).use fun u s2 k2 p2 => (q s2 v u _ ((st.grow k1).grow k2).gh ((st.grow k1).grow k2).lives (P₁.mono (sub_hide k2.sub) p1) p2).use fun r s3 k3 p3 => ⟨k1.trans' (k2.trans' k3), p3⟩) hm
def Tru (w : World) (A : Around) (P : KP Value) (b : Bool) : Prop := O1 w A truthy P ⟨fun _ c => c = b, fun _ x => x⟩
theorem tr_cmp {o : CmpOp} {b : Bool} (x : Ev w A F K env e₁ P₁) (y : Ev w A F K env e₂ P₂) (q : O2 w A (compareOp o) P₁ P₂ (kd (.bool b))) (hm : behindInMarks o e₂ = false := by with_unfolding_all rfl) : Tr w A F K env (.Compare e₁ [o] [e₂] pos) b := fun s st =>
  wpAny_isTrue_Compare1 ((x s st).use fun v s1 k1 p1 => (y s1 (st.grow k1)).use fun u s2 k2 p2 => (q s2 v u _ ((st.grow k1).grow k2).gh ((st.grow k1).grow k2).lives (P₁.mono (sub_hide k2.sub) p1) p2).use fun r s3 k3 p3 => by
    rw [kd_bool p3]; exact wpAny_truthy_bool ⟨k1.trans' (k2.trans' k3), rfl⟩) hm
theorem tr_plain {b : Bool} (x : Ev w A F K env e P) (q : Tru w A P b) (he : ∀ whole, isTrue e env whole = (do let v ← whole; standAt e.pos; holding [v] (truthy v)) := by intro _; rfl) : Tr w A F K env e b := fun s st =>
  isTrue_plain ((x s st).use fun v s1 k1 p1 => (q s1 v _ (st.grow k1).gh (st.grow k1).lives p1).use fun r s2 k2 p2 => ⟨k1.trans' k2, p2⟩) (he _)
theorem tr_not {b : Bool} (x : Tr w A F K env e b) : Tr w A F K env (.UnaryOp .Not e pos) (!b) := fun s st => isTrue_not ((x s st).use fun c s1 k1 p1 => ⟨k1, by rw [show c = b from p1]⟩)
inductive TrL (w : World) (A : Around) (F : Fm) (K : Heap) (env : Env) (op : BoolOp) : List PySem.Expr → Bool → Prop
  | nil : TrL w A F K env op [] (op == .And)
  | stop {e es b} : Tr w A F K env e b → b = (op == .Or) → TrL w A F K env op (e :: es) b
  | go {e es b c} : Tr w A F K env e b → b = (op == .And) → TrL w A F K env op es c → TrL w A F K env op (e :: es) c
theorem tr_list {op : BoolOp} {es : List PySem.Expr} {b : Bool} (x : TrL w A F K env op es b) : ∀ s, St w F K s → Op w A F.hid s (allTrue op es env) ⟨fun _ a => a = b, fun _ x => x⟩ := by
  induction x with
  | nil => exact fun s st => wpAny_pure ⟨.rfl', rfl⟩
  | @stop e es b x hb =>
    intro s st
    show Op w A F.hid s (isTrue e env (eval e env) >>= fun c => match op, c with | .And, false => pure false | .Or, true => pure true | _, _ => allTrue op es env) _
    refine (x s st).bind fun c s1 k1 p1 => ?_
    rw [show c = b from p1, hb]
    cases op <;> exact wpAny_pure ⟨.rfl', rfl⟩
  | @go e es b c x hb r ih =>
    intro s st
    show Op w A F.hid s (isTrue e env (eval e env) >>= fun c => match op, c with | .And, false => pure false | .Or, true => pure true | _, _ => allTrue op es env) _
    refine (x s st).bind fun d s1 k1 p1 => ?_
    rw [show d = b from p1, hb]
    cases op <;> exact ih s1 (st.grow k1)
theorem tr_bool {op : BoolOp} {es : List PySem.Expr} {b : Bool} (x : TrL w A F K env op es b) : Tr w A F K env (.BoolOp op es pos) b := fun s st => by
  show Op w A F.hid s (allTrue op es env) _
  exact tr_list x s st
theorem ev_ite {b : Bool} {e₀ : PySem.Expr} (t : Tr w A F K env e₀ b) (x : b = true → Ev w A F K env e₁ P) (y : b = false → Ev w A F K env e₂ P) : Ev w A F K env (.IfExp e₀ e₁ e₂ pos) P := fun s st =>
  wpAny_IfExp ((t s st).use fun c s1 k1 p1 => by
    have p1 : c = b := p1
    subst p1
    cases c with
    | true => exact (x rfl s1 (st.grow k1)).use fun v s2 k2 p2 => ⟨k1.trans' k2, p2⟩
    | false => exact (y rfl s1 (st.grow k1)).use fun v s2 k2 p2 => ⟨k1.trans' k2, p2⟩)
theorem live_ne {s : Shared} {H : List Addr} (l : Live H s.heap) : s.heap.objs.size ∉ H := fun hm => by
  (refine ob1_1 (l _ hm) fun o e => ?_)
  exact Nat.lt_irrefl _ (Heap.lt_size e)
theorem push_known {s : Shared} {H : List Addr} {o : Obj} (l : Live H s.heap) (hf : o.isFreed = false := by rfl) : (hideAll (s.heap.push o) H).get? s.heap.objs.size = some o := hideAll_get _ (Heap.get?_push_size _ hf) (live_ne l)
theorem push_sub {s : Shared} {H : List Addr} {o : Obj} : Sub (hideAll s.heap H) (hideAll (s.heap.push o) H) := sub_hide fun _ _ e => Heap.get?_push_of_some _ e
theorem ev_tup {es : List PySem.Expr} {Ps : List (KP Value)} {k : Nat} (x : Evs w A F K env es Ps) (hz : Ps.length ≤ 10000 := by decide) : Ev w A F K env (.Tuple es k pos) (kTup Ps) := fun s st => by
  show Op w A F.hid s (standAt pos >>= fun _ => spliced (backTo pos (starEach es env)) >>= fun vs => newTuple vs) _
  refine Op.stand ((x pos s st).bind fun vs s1 k1 p1 => ?_)
  refine wpAny_newTuple ⟨keeps_push, s1.heap.objs.size, _, vs.toArray, 0, rfl, push_known (st.grow k1).lives, rfl, rfl, by simpa using p1.imp fun P _ y => P.mono push_sub y⟩ ?_
  have := All2.length p1
  rw [sizeLine_eq]; omega
theorem ev_lst {es : List PySem.Expr} {Ps : List (KP Value)} (x : Evs w A F K env es Ps) (hz : Ps.length ≤ 10000 := by decide) : Ev w A F K env (.List es pos) (kLst Ps) := fun s st => by
  show Op w A F.hid s (standAt pos >>= fun _ => spliced (backTo pos (starEach es env)) >>= fun vs => newList vs) _
  refine Op.stand ((x pos s st).bind fun vs s1 k1 p1 => ?_)
  refine wpAny_newList ⟨keeps_push, s1.heap.objs.size, _, vs.toArray, 0, rfl, push_known (st.grow k1).lives, rfl, rfl, by simpa using p1.imp fun P _ y => P.mono push_sub y⟩ ?_
  have := All2.length p1
  rw [sizeLine_eq]; omega
end
def KeepOk (w : World) (f : Value) : Prop := ∀ h, G w h → ∃ k, (k = Keeper.frame ∨ k = Keeper.machine ∨ k = Keeper.boundFrame) ∧ Looks (model PR w) h (keeperOf f) k
theorem keep_ref {w : World} {f : Value} (hk : keepIn (Mine.hd.heap_39 w.params) f = true) : KeepOk w f := fun h g => keeps_K hk h g.X
theorem keep_b {w : World} {i : String} : KeepOk w (.builtin i) := fun _ _ => ⟨.machine, .inr (.inl rfl), Looks.of_pure rfl⟩
theorem keep_t {w : World} {i : String} : KeepOk w (.type i) := fun _ _ => ⟨.machine, .inr (.inl rfl), Looks.of_pure rfl⟩
def On (w : World) (A : Around) (f : Value) (Ps : List (KP Value)) (P : KP Value) : Prop := ∀ s vs H, G w s.heap → Live H s.heap → (KPs Ps).p (hideAll s.heap H) vs → Op w A H s (call f vs) P
def kArgs (Ps : List (KP Value)) : KP Args := ⟨fun h a => a.kw = [] ∧ (KPs Ps).p h a.pos, fun k x => ⟨x.1, (KPs Ps).mono k x.2⟩⟩
section
variable {w : World} {A : Around} {F : Fm} {K : Heap} {env : Env} {P P₀ : KP Value} {Ps : List (KP Value)} {es : List PySem.Expr} {e fe eo : PySem.Expr} {pos apos : Pos} {f : Value}
theorem args_of (x : Evs w A F K env es Ps) (hs : (es = [] ∧ Ps = []) ∨ ∃ t r, starEach es env = (false, t) :: r) {s : Shared} (st : St w F K s) : Op w A F.hid s (evalArgs f true (backTo pos (starEach es env)) []) (kArgs Ps) := by
  have y := x pos s st
  rcases hs with ⟨rfl, rfl⟩ | ⟨t, r, h⟩
  · exact evalArgs_nil3 ⟨.rfl', rfl, .nil⟩
  · rw [h] at y ⊢
    exact evalArgs_plain (y.use fun vs s1 k1 p1 => ⟨k1, rfl, p1⟩)
theorem call_of {s : Shared} {first : List Value} (x : Evs w A F K env es Ps) (q : ∀ s1 vs, St w F K s1 → Kp s s1 → (KPs Ps).p (hideAll s1.heap F.hid) vs → Op w A F.hid s1 (call f (first ++ vs)) P) (kp : KeepOk w f) (hs : (es = [] ∧ Ps = []) ∨ ∃ t r, starEach es env = (false, t) :: r) (hp : (starEach es env).any (·.1) = false)
    (st : St w F K s) : Op w A F.hid s (callWith pos f first (backTo pos (starEach es env)) []) P := by
  refine callWith_of (P := G w) ?_ kp ((args_of x hs st).use fun a s1 k1 p1 => ?_)
  · rw [List.any_nil, Bool.or_false]
    unfold backTo
    rw [List.any_map]
    exact hp
  · obtain ⟨pos, kw⟩ := a
    obtain ⟨rfl, p1⟩ := p1
    exact ⟨(st.grow k1).gh, (q s1 pos (st.grow k1) k1 p1).use fun v s2 k2 p2 => ⟨k1.trans' k2, p2⟩⟩
theorem ev_call (hf : Ev w A F K env fe (kv f)) (x : Evs w A F K env es Ps) (q : On w A f Ps P) (kp : KeepOk w f) (hs : (es = [] ∧ Ps = []) ∨ ∃ t r, starEach es env = (false, t) :: r) (hp : (starEach es env).any (·.1) = false := by rfl)
    (he : eval (.Call fe es [] pos) env = (do callWith pos (← eval fe env) [] (backTo pos (starEach es env)) []) := by rfl) : Ev w A F K env (.Call fe es [] pos) P := fun s st => by
  rw [he]
  refine (hf s st).bind fun v s1 k1 p1 => ?_
  rw [show v = f from p1]
  exact call_of x (fun s2 vs st2 _ p2 => q s2 vs _ st2.gh st2.lives p2) kp hs hp (st.grow k1)
def kMeth (f : Value) (P : KP Value) : KP (Value × List Value) := ⟨fun h x => x.1 = f ∧ ∃ v, x.2 = [v] ∧ P.p h v, fun k ⟨a, v, b, c⟩ => ⟨a, v, b, P.mono k c⟩⟩
theorem ev_meth {name : Str} {pl : Sem Bool} (o : Ev w A F K env eo P₀) (gm : O1 w A (fun v => getMethod v name pl) P₀ (kMeth f P₀)) (x : Evs w A F K env es Ps) (q : On w A f (P₀ :: Ps) P) (kp : KeepOk w f) (hs : (es = [] ∧ Ps = []) ∨ ∃ t r, starEach es env = (false, t) :: r) (hp : (starEach es env).any (·.1) = false := by rfl)
    (he : eval (.Call (.Attribute eo name apos) es [] pos) env = (do
      let ov ← eval eo env
      standAt apos.atName
      let (f, first) ← holding [ov] (getMethod ov name pl)
      callWith pos f first (backTo pos (starEach es env)) []) := by rfl) : Ev w A F K env (.Call (.Attribute eo name apos) es [] pos) P := fun s st => by
  rw [he]
  refine (o s st).bind fun v s1 k1 p1 => Op.stand ?_
  refine Op.bind (Op.hold (gm s1 v _ (st.grow k1).gh (st.grow k1).lives p1)) fun y s2 k2 p2 => ?_
  obtain ⟨g, fi⟩ := y
  obtain ⟨rfl, v2, rfl, p2⟩ := p2
  refine call_of x (fun s3 vs st3 k3 p3 => q s3 _ _ st3.gh st3.lives (.cons (P₀.mono (sub_hide k3.sub) p2) p3)) kp hs hp ((st.grow k1).grow k2)
end
def Run (w : World) (A : Around) (env : Env) (F : Fm) (K : Heap) (body : List Stmt) (R : Flow → Shared → Prop) (E : Value → Shared → Prop) : Prop := ∀ s, St w F K s → wpAny (model PR w) A (execs body env) R E s
def retOf : Flow → Value
  | .ret v => v
  | _ => .none
def FinE (s : Shared) (H : List Addr) (P : KP Value) (fl : Flow) (s' : Shared) : Prop := Kp s s' ∧ P.p (hideAll s'.heap H) (retOf fl)
abbrev Fm.up (F : Fm) (x : Str) (v : Value) : Fm := { F with m := fun y => if y = x then some v else F.m y }
section
variable {w : World} {A : Around} {F : Fm} {K : Heap} {env : Env} {P P₀ : KP Value} {e : PySem.Expr} {rest b1 b2 : List Stmt} {pos xp : Pos} {x : Str} {R : Flow → Shared → Prop} {E : Value → Shared → Prop}
theorem run_nil (h : ∀ s, St w F K s → R .next s) : Run w A env F K [] R E := fun s st => wpAny_execs_nil (h s st)
theorem run_return (x : Ev w A F K env e P) (k : ∀ v s K', Sub K K' → St w F K' s → P.p K' v → R (.ret v) s) : Run w A env F K (.Return (some e) pos :: rest) R E := fun s st =>
  wpAny_execs_cons (wpAny_Return_some ((x s st).use fun v s1 k1 p1 => k v s1 _ (st.in.trans (sub_hide k1.sub)) (st.up k1) p1))
theorem fin_of {K' : Heap} {v : Value} {s : Shared} (hB : F.B = F.s0.heap) (st : St w F K' s) (p : P.p K' v) : FinE F.s0 F.H P (.ret v) s := by
  refine ⟨?_, P.mono (sub_into st.sub fun b hb => st.out b (List.mem_cons_of_mem _ (List.mem_append_right _ hb))) p⟩
  (refine ob2_1 st.rl fun h tk e => ?_)
  have := st.base
  rw [hB] at this
  subst e
  exact mk2_2 h tk rfl this
theorem run_return' (hB : F.B = F.s0.heap := by rfl) (x : Ev w A F K env e P) : Run w A env F K (.Return (some e) pos :: rest) (FinE F.s0 F.H P) E := run_return x fun v s K' _ st p => fin_of hB st p
theorem run_assign (x' : Ev w A F K env e P) (k : ∀ K' v, Sub K K' → P.p K' v → Run w A env (F.up x v) K' rest R E) (hk : env.scope.kind = .function := by rfl) (hl : env.kindOf x = some .local := by rfl) (hL : env.locals = F.L := by rfl)
    (hs : swapsWith e (some (.Name x xp)) pos.line env = pure false := by rfl) : Run w A env F K (.Assign [.Name x xp] e pos :: rest) R E := fun s st => by
  refine wpAny_execs_cons (wpAny_Assign_Name ((x' s st).use fun v s1 k1 p1 => ?_) hs)
  have st1 := st.up k1
  refine wpAny_storeName_local hl (by rw [hL]; exact st1.ns) (fun h' hn hsb => ?_) (by rw [hk]; rfl)
  rw [hL] at hn hsb
  have keepL : ∀ {b o}, b ≠ F.L → s1.heap.get? b = some o → h'.get? b = some o := fun hb q => (hsb.2 _ hb).trans q
  refine k _ v (st.in.trans (sub_hide k1.sub)) p1 _ ⟨st1.g, st1.rl.trans ⟨_, _, rfl⟩, fun b o q => keepL (fun z => by rw [z, st.bL] at q; exact nos q) (st1.base b o q), fun b o q => keepL (fun z => by rw [z, st1.out _ (.head _)] at q; exact nos q) (st1.sub b o q),
    hn, fun q hq => keepL (st.muL q hq) (st1.mus q hq), fun b hb => ?_, st1.out, st.bL, st.bmu, st.muL, st.mnd⟩
  by_cases hbL : b = F.L
  · subst hbL
    (refine ob3_2 hn fun o _ _ q _ => ?_; try clear hn)
    exact ⟨o, q⟩
  · (refine ob1_1 (st1.live b hb) fun o q => ?_)
    exact ⟨o, keepL hbL q⟩
theorem run_if {b : Bool} (t : Tr w A F K env e b) (y : b = true → Run w A env F K b1 (fun fl s' => match fl with | .next => wpAny (model PR w) A (execs rest env) R E s' | fl => R fl s') E) (n : b = false → Run w A env F K b2 (fun fl s' => match fl with | .next => wpAny (model PR w) A (execs rest env) R E s' | fl => R fl s') E) :
    Run w A env F K (.If e b1 b2 pos :: rest) R E := fun s st => by
  refine wpAny_execs_cons (wpAny_If ((t s st).use fun c s1 k1 p1 => ?_))
  have p1 : c = b := p1
  subst p1
  cases c with
  | true => exact y rfl s1 (st.grow k1)
  | false => exact n rfl s1 (st.grow k1)
end
theorem cellsFrom_nd : ∀ (names : List (Str × NameKind)) (n : Nat) (acc : List (Str × Addr)), (∀ q ∈ acc, q.2 < n) → (acc.map (·.2)).Nodup → ((cellsFrom n names acc).map (·.2)).Nodup
  | [], _, _, _, h => h
  | (x, k) :: r, n, acc, h1, h2 => by
    unfold cellsFrom
    split
    · refine cellsFrom_nd r (n + 1) _ (fun q hq => ?_) ?_
      · rcases List.mem_cons.mp hq with rfl | hq
        · exact Nat.lt_succ_self _
        · exact Nat.lt_succ_of_lt (h1 q hq)
      · rw [List.map_cons, List.nodup_cons]
        refine ⟨fun hm => ?_, h2⟩
        (refine ob1_2 (List.mem_map.mp hm) fun q hq e => ?_)
        exact Nat.lt_irrefl n (Nat.lt_of_le_of_lt (Nat.le_of_eq e.symm) (h1 q hq))
    · exact cellsFrom_nd r n acc h1 h2
theorem cells_addr {cm : Str → Option Value} {cs : List (Str × Addr)} {cells : Led} (x : PyProof.Rows.CellsAre cm cs cells) : cells.map (·.1) = cs.map (·.2) := by
  induction cs generalizing cells with
  | nil => cases x; rfl
  | cons c cs ih => cases x with | cons _ r => rw [List.map_cons, List.map_cons, ih r]
section
variable {w : World} {A : Around} {s : Shared} {H : List Addr} {B K : Heap} {mu0 : Led} {R : Result → Shared → Prop}
  {name qual : Str} {params : Arguments} {body : List Stmt} {scope : Scope} {dV kV doc pm cdv ct oc : Value} {an od : Option Addr} {osl : Array (Option Value)} {f : Addr} {vs : List Value} {binds : List (Str × Value)}
theorem fn_enterG (g : G w B) (hB : Sub B s.heap) (hK : Sub K s.heap) (l : Live H s.heap) (hm0 : ∀ q ∈ mu0, s.heap.get? q.1 = some q.2 ∧ B.get? q.1 = none ∧ K.get? q.1 = none) (hKH : ∀ b ∈ H, K.get? b = none) (hnd0 : (mu0.map (·.1)).Nodup)
    (ho : (Mine.hd.heap_39 w.params).lookup f = some ⟨oc, od, .func (fnX name qual params body scope [] dV kV doc pm an cdv ct), osl⟩) (hcd : codeIn (Mine.hd.heap_39 w.params) cdv qual = true) (hroom : A.depth < recursionLimit)
    (hbind : BindsTo s (fnX name qual params body scope [] dV kV doc pm an cdv ct) ⟨vs, []⟩ binds)
    (hkind : (binds.all fun y => scope.names.lookup y.1 == some .local || scope.names.lookup y.1 == some .cell) = true)
    (hnd : ((cellsFrom 0 scope.names []).map (·.1)).Nodup)
    (h : ∀ L cells, s.heap.objs.size ≤ L → (∀ q ∈ mu0, q.1 < L) → (∀ b ∈ H, b < L) → CellsAre (bindC (envOfC qual scope L f cdv).kindOf binds fun _ => none) (cellsFrom (L + 1) scope.names []) cells →
      Run w (A.deeper (envOfC qual scope L f cdv)) (envOfC qual scope L f cdv) ⟨s, B, H, L, bindL (envOfC qual scope L f cdv).kindOf binds fun _ => none, cells ++ mu0⟩ K body (fun fl s' => R (.ok (.ret (retOf fl))) s')
        (fun e s' => wpAny (model PR w) (A.deeper (envOfC qual scope L f cdv)) (leaving (envOfC qual scope L f cdv) e) (fun _ s'' => R (.error e) s'') (fun e' s'' => R (.error e') s'') s'))
    (hco : scope.isCoroutine = false := by rfl) (hgen : scope.isGenerator = false := by rfl) (hk : scope.kind = .function := by rfl) : codeAny (model PR w) A (.call (.ref f) ⟨vs, []⟩) R s := by
  obtain ⟨X, p, loose, mg, mb, T⟩ := g.mono hB
  refine codeAny_call_function hroom (X _ _ ho) rfl hco hgen rfl (codeRec_of X hcd) (hbind _ _ _ _ ?_)
  refine wpAny_newFunctionEnv_cells hk (kindsX hkind _) fun env' he s' x => ?_
  subst he
  refine ⟨T.nolimit.keeps x.toInCall.keep, codeAny_func ?_⟩
  (refine ob2_2 x.done fun h₁ tk e_78 _ => ?_; subst e_78)
  have hk₁ := x.toInCall.keep
  (refine ob1_2 (Cl.news (h₀ := s.heap) (Nat.le_refl _) fun n c hm => ⟨x.cell n c (lookup_of_mem_nodup (cellsFrom_names scope.names 0 (s.heap.objs.size + 1) [] [] rfl ▸ hnd) hm), x.above n c hm⟩) fun cells NC Y => ?_)
  have lt0 : ∀ q ∈ mu0, q.1 < s.heap.objs.size := fun q hq => Heap.lt_size (hm0 q hq).1
  have oldn : ∀ {D : Heap} {b : Addr}, Sub D s.heap → s.heap.get? b = none → D.get? b = none := fun hD q => by
    rename_i D b
    cases z : D.get? b with
    | none => rfl
    | some o => rw [hD _ _ z] at q; exact nos' q
  refine wpAny_mono (h s.heap.objs.size cells (Nat.le_refl _) lt0 (fun b hb => let ⟨o, q⟩ := l b hb; Heap.lt_size q) Y _ ⟨g, ⟨_, _, rfl⟩, hB.trans hk₁, hK.trans hk₁, x.toInCall.ns, fun q hq => ?_, l.mono hk₁, fun b hb => ?_, oldn hB (Heap.get?_none_of_le (Nat.le_refl _)), fun q hq => ?_, fun q hq => ?_, ?_⟩) (fun fl s' hl => ?_) fun _ _ y => y
  · rcases List.mem_append.mp hq with hq | hq
    · exact (NC q hq).1
    · exact hk₁ _ _ (hm0 q hq).1
  · rcases List.mem_cons.mp hb with rfl | hb
    · exact oldn hK (Heap.get?_none_of_le (Nat.le_refl _))
    rcases List.mem_append.mp hb with hb | hb
    · (refine ob1_2 (List.mem_map.mp hb) fun q' hq' e_79 => ?_; subst e_79)
      rcases List.mem_append.mp hq' with hq' | hq'
      · exact oldn hK (NC q' hq').2.2
      · exact (hm0 q' hq').2.2
    · exact hKH b hb
  · rcases List.mem_append.mp hq with hq | hq
    · exact oldn hB (NC q hq).2.2
    · exact (hm0 q hq).2.1
  · rcases List.mem_append.mp hq with hq | hq
    · exact (NC q hq).2.1
    · exact Nat.ne_of_lt (lt0 q hq)
  · rw [List.map_append, List.nodup_append]
    refine ⟨?_, hnd0, fun a ha b hb e => ?_⟩
    · rw [cells_addr Y]
      exact cellsFrom_nd _ _ _ (fun q hq => by cases hq) List.nodup_nil
    · (refine ob1_2 (List.mem_map.mp ha) fun q hq e_80 => ?_; subst e_80)
      (refine ob1_2 (List.mem_map.mp hb) fun q2 hq2 e_81 => ?_; subst e_81)
      have := (NC q hq).2.2
      rw [e, (hm0 q2 hq2).1] at this; exact nos' this
  · cases fl <;> exact hl
end
section
variable {w : World} {n : Nat} {s : Shared} {H : List Addr} {P : KP Value}
  {name qual : Str} {params : Arguments} {body : List Stmt} {scope : Scope} {dV kV doc pm cdv ct oc : Value} {an od : Option Addr} {osl : Array (Option Value)} {f : Addr} {vs : List Value} {binds : List (Str × Value)}
theorem fn_enter (g : G w s.heap) (l : Live H s.heap) (ho : (Mine.hd.heap_39 w.params).lookup f = some ⟨oc, od, .func (fnX name qual params body scope [] dV kV doc pm an cdv ct), osl⟩) (hcd : codeIn (Mine.hd.heap_39 w.params) cdv qual = true) (hroom : n < recursionLimit)
    (hbind : BindsTo s (fnX name qual params body scope [] dV kV doc pm an cdv ct) ⟨vs, []⟩ binds)
    (hkind : (binds.all fun y => scope.names.lookup y.1 == some .local || scope.names.lookup y.1 == some .cell) = true)
    (hnd : ((cellsFrom 0 scope.names []).map (·.1)).Nodup)
    (h : ∀ L cells, CellsAre (bindC (envOfC qual scope L f cdv).kindOf binds fun _ => none) (cellsFrom (L + 1) scope.names []) cells →
      Run w ((Al n n).deeper (envOfC qual scope L f cdv)) (envOfC qual scope L f cdv) ⟨s, s.heap, H, L, bindL (envOfC qual scope L f cdv).kindOf binds fun _ => none, cells⟩ (hideAll s.heap H) body (FinE s H P) fun _ _ => False)
    (hco : scope.isCoroutine = false := by rfl) (hgen : scope.isGenerator = false := by rfl) (hk : scope.kind = .function := by rfl) : Op w (Al n n) H s (call (.ref f) vs) P := by
  refine wpAny_call (fn_enterG (mu0 := []) g Sub.rfl' hide_sub l nil_all (fun b hb => hideAll_none _ hb) List.nodup_nil ho hcd hroom hbind hkind hnd (fun L cells _ _ _ Y s1 st => ?_) hco hgen hk)
  rw [List.append_nil] at st
  exact wpAny_mono (h L cells Y s1 st) (fun fl s' q => q) fun _ _ q => q.elim
end
open PySem.Builtin PySem.Builtin.ObjectAttr
def EntryIs (h : Heap) (f : Str × KP Value) (e : DictEntry) : Prop := (∃ t, e.key = .str f.1 t) ∧ f.2.p h e.val
theorem EntryIs.mono {h h' : Heap} {f : Str × KP Value} {e : DictEntry} (k : Sub h h') (x : EntryIs h f e) : EntryIs h' f e := ⟨x.1, f.2.mono k x.2⟩
def kInst (C : Addr) (fs : List (Str × KP Value)) : KP Value := ⟨fun h v => ∃ x dx es n, v = .ref x ∧ h.get? x = some (instObj C dx) ∧ h.get? dx = some (dictOf es n) ∧ All2 (EntryIs h) fs es,
  fun k x_ => ob4_4 x_ fun x dx es n a b c d => mk4_4 x dx es n a (k _ _ b) (k _ _ c) (d.imp fun _ _ y => y.mono k)⟩
theorem look_fields {h : Heap} {name : Str} {P : KP Value} {fs : List (Str × KP Value)} {es : List DictEntry} (x : All2 (EntryIs h) fs es) (q : fs.lookup name = some P) : ∃ v, getL name es = some (some v) ∧ P.p h v := by
  induction x with
  | nil => exact nos q
  | @cons f e fs es x r ih =>
    (first | (refine ob1_1 f fun y P' => ?_; try clear f) | (refine ob0_2 f fun y P' => ?_; try clear f) | (obtain ⟨y, P'⟩ := f))
    have isS : e.key.isStr name = (y == name) := x.1.elim fun t hk => by rw [hk]; rfl
    rw [List.lookup_cons] at q
    unfold getL
    rw [List.find?_cons, isS]
    by_cases hy : y = name
    · subst hy
      rw [beq_self_eq_true] at q ⊢
      obtain rfl := Option.some.inj q
      exact ⟨_, rfl, x.2⟩
    · rw [beq_false_of_ne fun z => hy z.symm] at q
      rw [beq_false_of_ne hy]
      refine ob1_2 (ih q) fun v hv hp2 => ⟨v, ?_, hp2⟩
      unfold getL at hv
      cases z : es.find? (fun x => x.key.isStr name) with
      | some e' => rw [z] at hv; exact hv
      | none =>
        rw [z] at hv
        by_cases h3 : (es.any fun x => x.refKey) = true
        · rw [if_pos h3] at hv; exact nos hv
        · rw [if_neg h3] at hv; cases hv
def Handed (P : KP Value) : Prop := ∀ h v, P.p h v → handedIn v = true
theorem handed_kd {d : PyData} : Handed (kd d) := fun h v ⟨as, r⟩ => by cases r <;> rfl
theorem handed_seq {T : String} {Ps : List (KP Value)} : Handed (kSeq T Ps) := fun h v x_ => ob4_2 x_ fun a o vs n e _ => by rw [e]; rfl
theorem handed_inst {C : Addr} {fs : List (Str × KP Value)} : Handed (kInst C fs) := fun h v x_ => ob4_2 x_ fun x dx es n e _ => by rw [e]; rfl
section
variable {w : World} {A : Around} {F : Fm} {K : Heap} {env : Env} {P : KP Value} {e : PySem.Expr} {pos : Pos} {C : Addr} {fs : List (Str × KP Value)} {name : Str}
theorem get_inst {attr : Option Value} {expr : Bool} (hfs : fs.lookup name = some P) (hh : Handed P) (hga : findIn (Mine.hd.heap_39 w.params) (.ref C) "__getattribute__" = some (some (.builtin "object.__getattribute__")))
    (hd : hasDictIn (Mine.hd.heap_39 w.params) C = true) (ha : findIn (Mine.hd.heap_39 w.params) (.ref C) name = some attr) (hn : noGet (Mine.hd.heap_39 w.params) attr = true) : O1 w A (fun v => getAttr v name expr) (kInst C fs) P := by
  (intro s v H g l o_82; (refine ob4_4 o_82 fun x dx es n e_83 hx hdx q => ?_; try clear o_82; subst e_83))
  (refine ob1_2 (look_fields q hfs) fun u hu hp => ?_)
  exact get_value g.X (⟨hide_sub _ _ hx, rfl, rfl, hide_sub _ _ hdx⟩ : InstAt s.heap x (instObj C dx) C (some (dictOf es n))) hga (findObj_own hd ha hn ((lookIn_dict _ _ _).trans hu)) (hh _ _ hp) ⟨keeps_tok, hp⟩
theorem ev_attr {attr : Option Value} (x : Ev w A F K env e (kInst C fs)) (hfs : fs.lookup name = some P) (hh : Handed P) (hga : findIn (Mine.hd.heap_39 w.params) (.ref C) "__getattribute__" = some (some (.builtin "object.__getattribute__")))
    (hd : hasDictIn (Mine.hd.heap_39 w.params) C = true) (ha : findIn (Mine.hd.heap_39 w.params) (.ref C) name = some attr) (hn : noGet (Mine.hd.heap_39 w.params) attr = true)
    (he : eval (.Attribute e name pos) env = (do
      let o ← eval e env
      standAt pos.atName
      let r ← holding [o] (getAttr o name true)
      letTemporaryGo e o r
      pure r) := by with_unfolding_all rfl) : Ev w A F K env (.Attribute e name pos) P := fun s st =>
  Attribute_any_ ((x s st).use fun v s1 k1 p1 => (get_inst hfs hh hga hd ha hn s1 v _ (st.grow k1).gh (st.grow k1).lives p1).use fun u s2 k2 p2 => ⟨k1.trans' k2, p2⟩) he
end

theorem dict_update {h : Heap} {dx : Addr} {es es' : List DictEntry} {n n' : Nat} {name : Str} {hsh : Int} {key v : Value} (hd : h.get? dx = some (dictOf es n)) (e1 : putL name hsh key v es = es') (e2 : putN name es n = n') :
    (h.update dx (Obj.putName name hsh key v)).get? dx = some (dictOf es' n') := by
  rw [Heap.get?_update_self _ hd (by rw [putName_dict]; rfl), putName_dict, e1, e2]
theorem store_attr {w : World} {A : Around} {E : Value → Shared → Prop} {s : Shared} {x C dx : Addr} {es es' : List DictEntry} {n n' : Nat} {name : Str} {v : Value} {Q : Unit → Shared → Prop}
    (X : (Mine.hd.heap_39 w.params).In s.heap) (hx : s.heap.get? x = some (instObj C dx)) (hd : s.heap.get? dx = some (dictOf es n))
    (hs : findIn (Mine.hd.heap_39 w.params) (.ref C) "__setattr__" = some (some (.builtin "object.__setattr__"))) (hp : plainOver (Mine.hd.heap_39 w.params) C = true) (ht : takerIn (Mine.hd.heap_39 w.params) C name = some none) (hh : hasDictIn (Mine.hd.heap_39 w.params) C = true)
    (hl : (getL name es).isSome = true) (e : (putL name (PyData.keyHash w.params name) (.str name (s.toks + 1)) v es, putN name es n) = (es', n')) (hz : es'.length ≤ 1000)
    (h : ∀ h', h'.get? dx = some (dictOf es' n') → (∀ b o, b ≠ dx → s.heap.get? b = some o → h'.get? b = some o) → Q () { s with heap := h', toks := s.toks + 2 }) : wpAny (model PR w) A (setAttr (.ref x) name v) Q E s := by
  obtain ⟨hp0, g0, d0, t0, o0⟩ := s
  dsimp only at *
  (refine ob0_2 (Prod.mk.inj e) fun e1 e2 => ?_)
  have I : InstAt hp0 x (instObj C dx) C (some (dictOf es n)) := ⟨hx, rfl, rfl, hd⟩
  refine set_plain X I hs (osa_open (s := ⟨hp0, g0, d0, t0 + 1, o0⟩) X I hp ht fun b => ?_)
  have D' := dict_update (name := name) hd e1 e2
  have hh : (clsIn (Mine.hd.heap_39 w.params) C).any (·.hasDict) = true := hh
  (refine ob1_2 (any_some hh) fun cd hc hd' => ?_)
  refine wpAny_bind (wpAny_pure (wpAny_bind (wpAny_bind (wpAny_loadPart hx (wpAny_bind ((looks_clsIn X hc).at ?_))))))
  rw [hd']
  refine wpAny_pure (a := some dx) (wpAny_bind (wpAny_pure (wpAny_bind ?_)))
  unfold nsSet
  refine wpAny_bind (wpAny_bind (wpAny_askSetting (wpAny_pure (wpAny_bind (wpAny_mkText (wpAny_bind (wpAny_loadPart hd ?_)))))))
  have c : (!es.toArray.any (·.key.isStr name) && es.toArray.any (·.refKey)) = false := by
    rw [← Array.any_toList, ← Array.any_toList]
    unfold getL at hl
    split at hl
    · rename_i en he
      rw [List.any_eq_true.mpr ⟨en, List.mem_of_find?_eq_some he, List.find?_some he⟩]; rfl
    · split at hl
      · exact nob hl
      · rename_i z; rw [Bool.not_eq_true] at z; rw [z, Bool.and_false]
  rw [show (dictOf es n).data = .dict es.toArray n from rfl]
  dsimp only
  rw [aRefKeyMayBeTheName_at, c]
  refine wpAny_updatePart hd ?_
  refine wpAny_bind (wpAny_lookBehind D' (pastItsLine_dict (by rw [List.size_toArray, sizeLine_eq]; omega)) ?_)
  exact wpAny_pure (h _ D' fun b o hb q => (Heap.get?_update_other _ _ (Ne.symm hb)).trans q)
section
variable {w : World} {F : Fm} {K : Heap} {s : Shared} {pre post : Led} {a : Addr} {o o' : Obj} {h' : Heap} {tk : Nat}
theorem St.setMu (st : St w F K s) (hmu : F.mu = pre ++ (a, o) :: post) (h1 : h'.get? a = some o') (h2 : ∀ b ob, b ≠ a → s.heap.get? b = some ob → h'.get? b = some ob) :
    St w { F with mu := pre ++ (a, o') :: post } K { s with heap := h', toks := tk } := by
  have hm : (a, o) ∈ F.mu := by rw [hmu]; exact List.mem_append_right _ (.head _)
  have nd := st.mnd
  rw [hmu, List.map_append, List.map_cons] at nd
  have ndp : ∀ q ∈ pre ++ post, q.1 ≠ a := fun q hq e => by
    rw [List.nodup_append] at nd
    (refine ob0_3 nd fun _ n2 n3 => ?_; try clear nd)
    rw [List.nodup_cons] at n2
    rcases List.mem_append.mp hq with hq | hq
    · exact n3 q.1 (List.mem_map_of_mem hq) a (.head _) e
    · have m : q.1 ∈ post.map (fun z => z.1) := List.mem_map.mpr ⟨q, hq, rfl⟩
      rw [e] at m
      exact n2.1 m
  have mem : ∀ q ∈ pre ++ (a, o') :: post, q = (a, o') ∨ (q ∈ F.mu ∧ q.1 ≠ a) := fun q hq => by
    rcases List.mem_append.mp hq with hq | hq
    · exact .inr ⟨by rw [hmu]; exact List.mem_append_left _ hq, ndp q (List.mem_append_left _ hq)⟩
    rcases List.mem_cons.mp hq with rfl | hq
    · exact .inl rfl
    · exact .inr ⟨by rw [hmu]; exact List.mem_append_right _ (.tail _ hq), ndp q (List.mem_append_right _ hq)⟩
  have hidE : Fm.hid { F with mu := pre ++ (a, o') :: post } = F.hid := by
    show F.L :: ((pre ++ (a, o') :: post).map (·.1) ++ F.H) = F.L :: (F.mu.map (·.1) ++ F.H)
    rw [hmu]; simp
  refine ⟨st.g, st.rl.trans ⟨_, _, rfl⟩, fun b ob q => h2 b ob (fun z => ?_) (st.base b ob q), fun b ob q => h2 b ob (fun z => ?_) (st.sub b ob q), ?_, fun q hq => ?_, fun b hb => ?_, fun b hb => st.out b (by rw [hidE] at hb; exact hb), st.bL, fun q hq => ?_, fun q hq => ?_, ?_⟩
  · rw [z, st.bmu _ hm] at q; exact nos q
  · rw [z, st.out a (List.mem_cons_of_mem _ (List.mem_append_left _ (List.mem_map_of_mem (f := (·.1)) hm)))] at q; exact nos q
  · exact st.ns.at' fun ob q => h2 _ ob (fun z => st.muL _ hm z.symm) q
  · rcases mem q hq with rfl | ⟨hq, hne⟩
    · exact h1
    · exact h2 _ _ hne (st.mus q hq)
  · by_cases z : b = a
    · subst z; exact ⟨_, h1⟩
    · (refine ob1_1 (st.live b hb) fun ob q => ?_)
      exact ⟨ob, h2 b ob z q⟩
  · rcases mem q hq with rfl | ⟨hq, hne⟩
    · exact st.bmu (a, o) hm
    · exact st.bmu q hq
  · rcases mem q hq with rfl | ⟨hq, hne⟩
    · exact st.muL (a, o) hm
    · exact st.muL q hq
  · show ((pre ++ (a, o') :: post).map (·.1)).Nodup
    rw [List.map_append, List.map_cons]
    exact nd
end
theorem getL_none {h : Heap} {name : Str} {fs : List (Str × KP Value)} {es : List DictEntry} (x : All2 (EntryIs h) fs es) (q : fs.lookup name = none) : es.find? (·.key.isStr name) = none ∧ es.any (·.refKey) = false := by
  induction x with
  | nil => exact ⟨rfl, rfl⟩
  | @cons f e fs es x r ih =>
    (first | (refine ob1_1 f fun y P' => ?_; try clear f) | (refine ob0_2 f fun y P' => ?_; try clear f) | (obtain ⟨y, P'⟩ := f))
    rw [List.lookup_cons] at q
    by_cases hy : y = name
    · subst hy; rw [beq_self_eq_true] at q; exact nos' q
    · rw [beq_false_of_ne fun z => hy z.symm] at q
      have ab := ih q
      refine x.1.elim fun t hk => ⟨?_, ?_⟩
      · rw [List.find?_cons, hk]
        show (match y == name with | true => some e | false => es.find? _) = none
        rw [beq_false_of_ne hy]; exact ab.1
      · rw [List.any_cons, ab.2, Bool.or_false]
        unfold DictEntry.refKey
        rw [hk]
theorem put_new {name : Str} {hsh : Int} {key v : Value} {es : List DictEntry} {n : Nat} (h : es.find? (·.key.isStr name) = none) : putL name hsh key v es = es ++ [⟨hsh, key, v⟩] ∧ putN name es n = n + 1 := by
  have hi : es.findIdx? (fun x => x.key.isStr name) = none := by
    rw [List.findIdx?_eq_none_iff]
    intro x hx
    have := List.find?_eq_none.mp h x hx
    simpa using this
  have h1 := putL_find name hsh key v es
  have h2 := any_of_findIdx name es
  rw [hi] at h1 h2
  exact ⟨h1.symm, by unfold putN; rw [← h2]; rfl⟩
section
variable {w : World} {A : Around} {F : Fm} {K : Heap} {env : Env} {P : KP Value} {e : PySem.Expr} {rest : List Stmt} {pos xp ap : Pos} {self name : Str} {R : Flow → Shared → Prop} {E : Value → Shared → Prop} {x dx C : Addr} {es : List DictEntry} {n : Nat} {pre post : Led} {fs : List (Str × KP Value)}
theorem run_setattr (ev : Ev w A F K env e P) (hself : F.m self = some (.ref x)) (hK : K.get? x = some (instObj C dx)) (hmu : F.mu = pre ++ (dx, dictOf es n) :: post) (q : All2 (EntryIs K) fs es) (hn : fs.lookup name = none)
    (hs : findIn (Mine.hd.heap_39 w.params) (.ref C) "__setattr__" = some (some (.builtin "object.__setattr__"))) (hp : plainOver (Mine.hd.heap_39 w.params) C = true) (ht : takerIn (Mine.hd.heap_39 w.params) C name = some none) (hh : hasDictIn (Mine.hd.heap_39 w.params) C = true) (hz : fs.length ≤ 100)
    (k : ∀ K' v es', Sub K K' → P.p K' v → All2 (EntryIs K') (fs ++ [(name, P)]) es' → Run w A env { F with mu := pre ++ (dx, dictOf es' (n + 1)) :: post } K' rest R E)
    (hk : env.scope.kind = .function := by rfl) (hx : env.kindOf self = some .local := by rfl) (hL : env.locals = F.L := by rfl) (hd : (self == ("__debug__" : Str)) = false := by decide) (hsw : swapsWith e (some (.Attribute (.Name self xp) name ap)) pos.line env = pure false := by rfl) :
    Run w A env F K (.Assign [.Attribute (.Name self xp) name ap] e pos :: rest) R E := fun s st => by
  refine wpAny_execs_cons (plainObj_wpAny_Assign_Attribute ((ev s st).use fun v s1 k1 p1 => ?_) hsw)
  have st1 := st.grow k1
  refine wpAny_Name (wpAny_loadName_local hk hx (by rw [hL]; exact st1.ns) hself ?_) hd
  (refine ob0_2 (getL_none q hn) fun g1 g2 => ?_)
  have gl : getL name es = some none := by unfold getL; rw [g1, g2]; rfl
  (refine ob0_2 (put_new (hsh := PyData.keyHash w.params name) (key := .str name (s1.toks + 1)) (v := v) (n := n) g1) fun e1 e2 => ?_)
  have hl := q.length
  refine store_attr st1.gh.X (st1.sub _ _ hK) (st1.mus _ (by rw [hmu]; exact List.mem_append_right _ (.head _))) hs hp ht hh (by rw [gl]; rfl) (by rw [e1, e2]) (by rw [List.length_append, List.length_singleton]; omega) fun h' h1 h2 => ?_
  have st2 := (st.up k1).setMu (h' := h') (tk := s1.toks + 2) hmu h1 h2
  exact k _ v _ (st.in.trans (sub_hide k1.sub)) p1 ((q.imp fun _ _ y => y.mono (st.in.trans (sub_hide k1.sub))).append (.cons ⟨⟨_, rfl⟩, p1⟩ .nil)) _ st2
end

def InitOk (w : World) (n : Nat) (fI C : Addr) (Ps : List (KP Value)) (fs : List (Str × KP Value)) : Prop :=
  ∀ s x dx vs H B, G w B → Sub B s.heap → B.get? dx = none → Live (dx :: H) s.heap → s.heap.get? dx = some (dictOf [] 0) → (hideAll s.heap (dx :: H)).get? x = some (instObj C dx) → (KPs Ps).p (hideAll s.heap (dx :: H)) vs →
    codeAny (model PR w) (Al n n) (.call (.ref fI) ⟨.ref x :: vs, []⟩) (fun r s' => r = .ok (.ret .none) ∧ Rl s s' ∧ Sub B s'.heap ∧
      ∃ K' es k, Sub (hideAll s.heap (dx :: H)) K' ∧ Sub K' s'.heap ∧ (∀ b ∈ dx :: H, K'.get? b = none) ∧ s'.heap.get? dx = some (dictOf es k) ∧ All2 (EntryIs K') fs es) s
theorem code_weak {M : Model} {A B : Around} {c : Code} {R : Result → Shared → Prop} {s : Shared} (h : codeAny M B c R s) (hh : A.handled = B.handled) (hd : A.depth ≤ B.depth) (hf : ∀ l, B.frames = some l → A.frames = some l) (hg : ∀ l, B.guards = some l → A.guards = some l) (hu : A.units ≤ B.units) : codeAny M A c R s :=
  fun Γ p e q => h Γ p e ⟨q.1.trans hh, Nat.le_trans q.2.1 hd, fun l hl => q.2.2.1 l (hf l hl), fun g hl => q.2.2.2.1 g (hg g hl), Nat.le_trans q.2.2.2.2 hu⟩
theorem on_class {w : World} {n k : Nat} {fI C : Addr} {Ps : List (KP Value)} {fs : List (Str × KP Value)} (init : InitOk w k fI C Ps fs) (hk : n + 4 ≤ k) (hm : makesIn (Mine.hd.heap_39 w.params) C = true) (hi : findIn (Mine.hd.heap_39 w.params) (.ref C) "__init__" = some (some (.ref fI))) (hf : typeIn (Mine.hd.heap_39 w.params) (.ref fI) = some (.type "function")) :
    On w (Al n n) (.ref C) Ps (kInst C fs) := by
  intro s vs H g l hv
  obtain ⟨hp, g0, d0, t0, o0⟩ := s
  have X := g.X
  refine wpAny_call (make_core (makes_of X hm) (looks_findIn X hi) (fun self => bind_fn X self hf) (.inl rfl) ?_)
  have kp : Sub hp ((hp.push emptyDict).push (instObj C hp.objs.size)) := fun b o e => Heap.get?_push_of_some _ (Heap.get?_push_of_some _ e)
  have hd : ((hp.push emptyDict).push (instObj C hp.objs.size)).get? hp.objs.size = some (dictOf [] 0) := Heap.get?_push_of_some _ (Heap.get?_push_size _ rfl)
  have hx : ((hp.push emptyDict).push (instObj C hp.objs.size)).get? (hp.objs.size + 1) = some (instObj C hp.objs.size) := by heap_get
  have notH : ∀ b, hp.objs.size ≤ b → b ∉ H := fun b hb hm => by
    (refine ob1_1 (l b hm) fun o e => ?_)
    exact Nat.lt_irrefl _ (Nat.lt_of_lt_of_le (Heap.lt_size e) hb)
  have into : ∀ {b o}, b ≠ hp.objs.size → (hideAll hp H).get? b = some o → (hideAll ((hp.push emptyDict).push (instObj C hp.objs.size)) (hp.objs.size :: H)).get? b = some o := fun hb q => hideAll_get _ (kp _ _ (hide_sub _ _ q)) fun hm => by
    rcases List.mem_cons.mp hm with rfl | hm
    · exact hb rfl
    · exact hide_notin q hm
  have subK : Sub (hideAll hp H) (hideAll ((hp.push emptyDict).push (instObj C hp.objs.size)) (hp.objs.size :: H)) := fun b o q => into (Nat.ne_of_lt (Heap.lt_size (hide_sub _ _ q))) q
  have y := init ⟨(hp.push emptyDict).push (instObj C hp.objs.size), g0, d0, t0, o0⟩ (hp.objs.size + 1) hp.objs.size vs H hp g kp (Heap.get?_none_of_le (Nat.le_refl _)) (fun b hb => by
    rcases List.mem_cons.mp hb with rfl | hb
    · exact ⟨_, hd⟩
    · obtain ⟨o, e⟩ := l b hb; exact ⟨o, kp _ _ e⟩) hd (hideAll_get _ hx fun hm => by
    rcases List.mem_cons.mp hm with e | hm
    · exact absurd e (Nat.succ_ne_self _)
    · exact notH _ (Nat.le_succ _) hm) ((KPs Ps).mono subK hv)
  refine code_weak (B := Al k k) (codeAny_mono y fun r s' z => ?_) rfl (by show n + 1 ≤ k; omega) (fun _ e => nomatch e) (fun _ e => nomatch e) (by first | (show n + 0 ≤ k; omega) | (show n + 1 ≤ k; omega) | (show n + 3 ≤ k; omega))
  obtain ⟨rfl, rl, sb, K', es, kk, k1, k2, k3, k4, k5⟩ := z
  refine ⟨rfl, ?_⟩
  (refine ob2_1 rl fun h' tk e_85 => ?_; try clear rl; subst e_85)
  have toH : Sub K' (hideAll h' H) := sub_into k2 fun b hb => k3 b (List.mem_cons_of_mem _ hb)
  refine ⟨⟨h', tk, rfl, sb⟩, hp.objs.size + 1, hp.objs.size, es, kk, rfl, toH _ _ (k1 _ _ (hideAll_get _ hx fun hm => ?_)), hideAll_get _ k4 (notH _ (Nat.le_refl _)), k5.imp fun _ _ q => q.mono toH⟩
  rcases List.mem_cons.mp hm with e | hm
  · exact absurd e (Nat.succ_ne_self _)
  · exact notH _ (Nat.le_succ _) hm
theorem init_end {w : World} {F : Fm} {K K0 : Heap} {s : Shared} {dx : Addr} {es : List DictEntry} {k : Nat} {fs : List (Str × KP Value)} (st : St w F K s) (S : Sub K0 K) (hm : (dx, dictOf es k) ∈ F.mu) (q : All2 (EntryIs K) fs es) :
    Rl F.s0 s ∧ Sub F.B s.heap ∧ ∃ K' es k, Sub K0 K' ∧ Sub K' s.heap ∧ (∀ b ∈ dx :: F.H, K'.get? b = none) ∧ s.heap.get? dx = some (dictOf es k) ∧ All2 (EntryIs K') fs es :=
  ⟨st.rl, st.base, K, es, k, S, st.sub, fun b hb => (by
    rcases List.mem_cons.mp hb with rfl | hb
    · exact st.out _ (List.mem_cons_of_mem _ (List.mem_append_left _ (List.mem_map.mpr ⟨_, hm, rfl⟩)))
    · exact st.out b (List.mem_cons_of_mem _ (List.mem_append_right _ hb))), st.mus _ hm, q⟩
theorem init_enter {w : World} {s : Shared} {x dx : Addr} {vs : List Value} {H : List Addr} {B : Heap} {fI : Addr} {fs : List (Str × KP Value)} {A : Around}
  {name qual : Str} {params : Arguments} {body : List Stmt} {scope : Scope} {dV kV doc pm cdv ct oc : Value} {an od : Option Addr} {osl : Array (Option Value)} {binds : List (Str × Value)}
    (g : G w B) (hB : Sub B s.heap) (hdx : B.get? dx = none) (l : Live (dx :: H) s.heap) (hd : s.heap.get? dx = some (dictOf [] 0))
    (ho : (Mine.hd.heap_39 w.params).lookup fI = some ⟨oc, od, .func (fnX name qual params body scope [] dV kV doc pm an cdv ct), osl⟩) (hcd : codeIn (Mine.hd.heap_39 w.params) cdv qual = true) (hroom : A.depth < recursionLimit)
    (hbind : BindsTo s (fnX name qual params body scope [] dV kV doc pm an cdv ct) ⟨.ref x :: vs, []⟩ binds)
    (hkind : (binds.all fun y => scope.names.lookup y.1 == some .local || scope.names.lookup y.1 == some .cell) = true)
    (hnd : ((cellsFrom 0 scope.names []).map (·.1)).Nodup)
    (h : ∀ L cells, dx < L → CellsAre (bindC (envOfC qual scope L fI cdv).kindOf binds fun _ => none) (cellsFrom (L + 1) scope.names []) cells → All2 (EntryIs (hideAll s.heap (dx :: H))) ([] : List (Str × KP Value)) [] →
      Run w (A.deeper (envOfC qual scope L fI cdv)) (envOfC qual scope L fI cdv) ⟨s, B, H, L, bindL (envOfC qual scope L fI cdv).kindOf binds fun _ => none, cells ++ (dx, dictOf [] 0) :: []⟩ (hideAll s.heap (dx :: H)) body
        (fun fl s' => fl = .next ∧ Rl s s' ∧ Sub B s'.heap ∧ ∃ K' es k, Sub (hideAll s.heap (dx :: H)) K' ∧ Sub K' s'.heap ∧ (∀ b ∈ dx :: H, K'.get? b = none) ∧ s'.heap.get? dx = some (dictOf es k) ∧ All2 (EntryIs K') fs es) (fun _ _ => False))
    (hco : scope.isCoroutine = false := by rfl) (hgen : scope.isGenerator = false := by rfl) (hk : scope.kind = .function := by rfl) :
    codeAny (model PR w) A (.call (.ref fI) ⟨.ref x :: vs, []⟩) (fun r s' => r = .ok (.ret .none) ∧ Rl s s' ∧ Sub B s'.heap ∧
      ∃ K' es k, Sub (hideAll s.heap (dx :: H)) K' ∧ Sub K' s'.heap ∧ (∀ b ∈ dx :: H, K'.get? b = none) ∧ s'.heap.get? dx = some (dictOf es k) ∧ All2 (EntryIs K') fs es) s := by
  refine fn_enterG (H := H) (mu0 := [(dx, dictOf [] 0)]) (K := hideAll s.heap (dx :: H)) g hB hide_sub (fun b hb => l b (.tail _ hb)) (fun q hq => ?_) (fun b hb => hideAll_none _ (.tail _ hb)) (List.nodup_cons.mpr ⟨by simp, List.nodup_nil⟩) ho hcd hroom hbind hkind hnd (fun L cells _ l1 l2 Y s1 st => ?_) hco hgen hk
  · cases List.mem_singleton.mp hq
    exact mk0_3 hd hdx (hideAll_none _ (.head _))
  · exact wpAny_mono (h L cells (l1 _ (.head _)) Y .nil s1 st) (fun fl s' q => by obtain ⟨rfl, q⟩ := q; exact ⟨rfl, q⟩) fun _ _ q => q.elim
def KvIs {K : Type} (h : Heap) (p : K × PyData) (q : K × Value) : Prop := q.1 = p.1 ∧ (kd p.2).p h q.2
theorem KvIs.mono {K : Type} {h h' : Heap} {p : K × PyData} {q : K × Value} (k : Sub h h') (x : KvIs h p q) : KvIs h' p q := ⟨x.1, (kd p.2).mono k x.2⟩
def kdct {K : Type} [DecidableEq K] {w : World} (knd : PySem.KeyKind PR w K) (kvs : List (K × PyData)) : KP Value := ⟨fun h v => ∃ a vs, v = .ref a ∧ (a == sysModules) = false ∧ h.DictOf knd a vs ∧ All2 (KvIs h) kvs vs,
  fun k x_ => ob2_4 x_ fun a vs e l d q => mk2_4 a vs e l (d.keep k) (q.imp fun _ _ y => y.mono k)⟩
abbrev ksd (w : World) (kvs : List (Str × PyData)) : KP Value := kdct (PySem.strKind PR w) kvs
abbrev kid (w : World) (kvs : List (Int × PyData)) : KP Value := kdct (PySem.intKind PR w) kvs
theorem handed_dct {K : Type} [DecidableEq K] {w : World} {knd : PySem.KeyKind PR w K} {kvs : List (K × PyData)} : Handed (kdct knd kvs) := fun h v x_ => ob2_2 x_ fun a vs e _ => by rw [e]; rfl
def dget {K : Type} [DecidableEq K] (kvs : List (K × PyData)) (k : K) : Option PyData := (kvs.find? fun p => p.1 = k).map (·.2)
theorem dget_some {K : Type} [DecidableEq K] {h : Heap} {k : K} {d : PyData} {kvs : List (K × PyData)} {vs : List (K × Value)} (x : All2 (KvIs h) kvs vs) (e : dget kvs k = some d) : ∃ v, valueAt vs k = some v ∧ (kd d).p h v := by
  induction x with
  | nil => exact nos e
  | @cons p q kvs vs x r ih =>
    unfold dget at e
    unfold valueAt
    rw [List.find?_cons] at e ⊢
    rw [x.1]
    by_cases z : p.1 = k
    · rw [decide_eq_true z] at e ⊢
      obtain rfl := Option.some.inj e; exact ⟨_, rfl, x.2⟩
    · rw [decide_eq_false z] at e ⊢
      exact ih e
theorem dget_none {K : Type} [DecidableEq K] {h : Heap} {k : K} {kvs : List (K × PyData)} {vs : List (K × Value)} (x : All2 (KvIs h) kvs vs) (e : dget kvs k = none) : valueAt vs k = none := by
  induction x with
  | nil => rfl
  | @cons p q kvs vs x r ih =>
    unfold dget at e
    unfold valueAt
    rw [List.find?_cons] at e ⊢
    rw [x.1]
    by_cases z : p.1 = k
    · rw [decide_eq_true z] at e; exact nos' e
    · rw [decide_eq_false z] at e ⊢
      exact ih e
theorem dget_isSome {K : Type} [DecidableEq K] {h : Heap} {k : K} {kvs : List (K × PyData)} {vs : List (K × Value)} (q : All2 (KvIs h) kvs vs) : (valueAt vs k).isSome = (dget kvs k).isSome := by
  cases e : dget kvs k with
  | none => rw [dget_none q e]; rfl
  | some d => obtain ⟨v, hv, _⟩ := dget_some q e; rw [hv]; rfl
structure KeyE {K : Type} [DecidableEq K] {w : World} (knd : PySem.KeyKind PR w K) (enc : K → PyData) : Prop where
  is : ∀ {h : Heap} {v : Value} {k : K}, (kd (enc k)).p h v → knd.is k v = true
  of : ∀ {h : Heap} {v : Value} {k : K}, knd.is k v = true → (kd (enc k)).p h v
theorem keyS {w : World} : KeyE (PySem.strKind PR w) PyData.str := ⟨fun q => by obtain ⟨t, rfl⟩ := kd_str q; exact strKind_is _ _ _ _, fun q => by obtain ⟨t, rfl⟩ := Value.isStrOf_shape q; exact is_str⟩
theorem keyI {w : World} : KeyE (PySem.intKind PR w) PyData.int := ⟨fun q => by obtain ⟨t, rfl⟩ := kd_int q; exact intKind_is _ _ _ _, fun q => by obtain ⟨t, rfl⟩ := Value.isInt_shape q; exact is_int⟩

section
variable {w : World} {A : Around} {P P' : KP Value} {K : Type} [DecidableEq K] {knd : PySem.KeyKind PR w K} {enc : K → PyData} {kvs : List (K × PyData)} {k : K}
theorem op_in (E : KeyE knd enc) : O2 w A (compareOp .In) (kd (enc k)) (kdct knd kvs) (kd (.bool (dget kvs k).isSome)) := by
  (intro s v u H g l hv o_86; (refine ob2_4 o_86 fun a vs e_87 lo hd q => ?_; try clear o_86; subst e_87))
  refine wpAny_in_of (E.is hv) lo (hd.keep hide_sub).mapOf ⟨keeps_tok, ?_⟩
  rw [dget_isSome q]; exact is_bool
theorem sub_dict {d : PyData} {value slice : PySem.Expr} (E : KeyE knd enc) (hd : dget kvs k = some d) (hs : ∀ (o i : Value), subscripted slice false o i = operate [o, i] (getItem o i)) : O2 w A (subscriptTail value slice) (kdct knd kvs) (kd (enc k)) (kd d) := by
  (intro s v u H g l o_90 hu; (refine ob2_4 o_90 fun a vs e_91 lo hD q => ?_; try clear o_90; subst e_91))
  (refine ob1_2 (dget_some q hd) fun x hx hp => ?_)
  have hD' := hD.keep (h' := s.heap) hide_sub
  exact tail_any hD'.typeIs slot_dict_getitem.lookup (wpAny_getItem_of (E.is hu) hD'.mapOf hx ⟨keeps_tok, hp⟩) (hs _ _)
theorem op_eq {d e : PyData} (hd : d.canLay0 = true) (he : e.canLay0 = true) (hu : A.units + min d.depth e.depth < cLine) : O2 w A (compareOp .Eq) (kd d) (kd e) (kd (.bool (PyData.eqv d e))) := by
  (intro s v u H g l o_92 o_93; (refine ob1_1 o_92 fun as r1 => ?_; try clear o_92); (refine ob1_1 o_93 fun bs r2 => ?_; try clear o_93))
  exact SeqAt.compareEq_reads (Reads.keeps hide_sub r1) (Reads.keeps hide_sub r2) hd he hu ⟨.rfl', is_bool⟩
theorem op_ne {d e : PyData} (hd : d.canLay0 = true) (he : e.canLay0 = true) (hu : A.units + min d.depth e.depth < cLine) : O2 w A (compareOp .NotEq) (kd d) (kd e) (kd (.bool (!PyData.eqv d e))) := by
  (intro s v u H g l o_94 o_95; (refine ob1_1 o_94 fun as r1 => ?_; try clear o_94); (refine ob1_1 o_95 fun bs r2 => ?_; try clear o_95))
  exact SeqAt.compareNe_reads (Reads.keeps hide_sub r1) (Reads.keeps hide_sub r2) hd he hu ⟨.rfl', is_bool⟩
theorem op_gt {a b : Int} : O2 w A (compareOp .Gt) (kd (.int a)) (kd (.int b)) (kd (.bool (decide (b < a)))) := by
  intro s v u H g l hv hu
  (refine ob1_1 (kd_int hv) fun t e_96 => ?_; subst e_96)
  (refine ob1_1 (kd_int hu) fun t' e_97 => ?_; subst e_97)
  exact PyProof.Rows.gt_int ⟨.rfl', is_bool⟩
theorem op_lt {a b : Int} : O2 w A (compareOp .Lt) (kd (.int a)) (kd (.int b)) (kd (.bool (decide (a < b)))) := by
  intro s v u H g l hv hu
  (refine ob1_1 (kd_int hv) fun t e_98 => ?_; subst e_98)
  (refine ob1_1 (kd_int hu) fun t' e_99 => ?_; subst e_99)
  exact PyProof.Rows.lt_int ⟨.rfl', is_bool⟩
theorem op_addI {a b : Int} : O2 w A (binaryOp .Add) (kd (.int a)) (kd (.int b)) (kd (.int (a + b))) := by
  intro s v u H g l hv hu
  (refine ob1_1 (kd_int hv) fun t e_100 => ?_; subst e_100)
  (refine ob1_1 (kd_int hu) fun t' e_101 => ?_; subst e_101)
  exact PyProof.Rows.add_int ⟨keeps_tok, is_int⟩
theorem op_addS {a b : Str} (hz : a.length + b.length ≤ 100000) : O2 w A (binaryOp .Add) (kd (.str a)) (kd (.str b)) (kd (.str (a ++ b))) := by
  intro s v u H g l hv hu
  (refine ob1_1 (kd_str hv) fun t e_102 => ?_; subst e_102)
  (refine ob1_1 (kd_str hu) fun t' e_103 => ?_; subst e_103)
  exact PyProof.Rows.add_str (fun _ _ => ⟨keeps_tok, is_str⟩) (by rw [sizeLine_eq]; omega)
def kRef : KP Value := ⟨fun _ v => ∃ a, v = .ref a, fun _ x => x⟩
theorem handed_ref : Handed kRef := fun h v ⟨a, e⟩ => by rw [e]; rfl
def plainNone (P : KP Value) (b : Bool) : Prop := ∀ h v, P.p h v → (∀ i, v ≠ .builtin i) ∧ (v = .none ↔ b = true)
theorem pn_none : plainNone (kd .none) true := fun h v q => by rw [kd_none q]; simp
theorem pn_int {i : Int} : plainNone (kd (.int i)) false := fun h v q => by obtain ⟨t, rfl⟩ := kd_int q; simp
theorem pn_inst {C : Addr} {fs : List (Str × KP Value)} : plainNone (kInst C fs) false := fun h v x_ => ob4_2 x_ fun x dx es n e _ => by rw [e]; simp
theorem plainIs_none {v : Value} (h : ∀ i, v ≠ .builtin i) : plainIs v .none = true := by cases v <;> first | rfl | exact absurd rfl (h _)
theorem op_is {b : Bool} (h : plainNone P b) : O2 w A (compareOp .Is) P (kd .none) (kd (.bool b)) := by
  intro s v u H g l hv hu
  rw [kd_none hu]
  have := h _ _ hv
  obtain ⟨nb, this⟩ := this
  refine wpAny_is_plain (plainIs_none nb) ⟨.rfl', ?_⟩
  have e : (v == Value.none) = b := by
    cases b with
    | true => rw [this.mpr rfl]; rfl
    | false => rw [beq_eq_false_iff_ne]; intro z; have := this.mp z; exact nob this
  rw [e]; exact is_bool
theorem op_isnot {b : Bool} (h : plainNone P b) : O2 w A (compareOp .IsNot) P (kd .none) (kd (.bool (!b))) := by
  intro s v u H g l hv hu
  rw [kd_none hu]
  have := h _ _ hv
  obtain ⟨nb, this⟩ := this
  refine wpAny_isNot_plain (plainIs_none nb) ⟨.rfl', ?_⟩
  have e : (v == Value.none) = b := by
    cases b with
    | true => rw [this.mpr rfl]; rfl
    | false => rw [beq_eq_false_iff_ne]; intro z; have := this.mp z; exact nob this
  rw [e]; exact is_bool
theorem op_addT {Ps Qs : List (KP Value)} (hz : Ps.length + Qs.length ≤ 10000) : O2 w A (binaryOp .Add) (kTup Ps) (kTup Qs) (kTup (Ps ++ Qs)) := by
  (intro s v u H g l o_104 o_106; (refine ob4_5 o_104 fun a o vs n e_105 ha hc hd qa => ?_; try clear o_104; subst e_105); (refine ob4_5 o_106 fun b o2 us m e_107 hb hc2 hd2 qb => ?_; try clear o_106; subst e_107))
  have ha' := hide_sub _ _ ha
  have hb' := hide_sub _ _ hb
  have e1 : Ps.length = vs.size := qa.length.trans Array.length_toList
  have e2 : Qs.length = us.size := qb.length.trans Array.length_toList
  have hsz : vs.size + us.size ≤ sizeLine := by rw [sizeLine_eq, ← e1, ← e2]; exact Nat.le_trans hz (by decide)
  obtain ⟨cls, dd, data, sl⟩ := o
  obtain ⟨cls2, dd2, data2, sl2⟩ := o2
  dsimp only at hc hd hc2 hd2
  subst hc hd hc2 hd2
  by_cases hv : vs.isEmpty = true
  · refine concat_meets ⟨_, ha', rfl⟩ ⟨_, hb', rfl⟩ noFill_tuple_add seq_tuple_add PySem.F.slot_tuple_add PySem.F.entry_tuple_add (PySem.F.args_tuple_add_2 _ _)
      (tuple_addW0 a b vs us n m dd dd2 sl sl2 hv) ⟨ha', hb', .rfl', b, _, us, m, rfl, hb, rfl, rfl, ?_⟩
    have hv' : vs.toList = [] := by simpa using hv
    rw [hv'] at qa
    cases qa with | nil => exact qb
  · by_cases hw : us.isEmpty = true
    · refine concat_meets ⟨_, ha', rfl⟩ ⟨_, hb', rfl⟩ noFill_tuple_add seq_tuple_add PySem.F.slot_tuple_add PySem.F.entry_tuple_add (PySem.F.args_tuple_add_2 _ _)
        (tuple_addW1 a b vs us n m dd dd2 sl sl2 hv hw) ⟨ha', hb', .rfl', a, _, vs, n, rfl, ha, rfl, rfl, ?_⟩
      have hw' : us.toList = [] := by simpa using hw
      rw [hw'] at qb
      cases qb with | nil => rw [List.append_nil]; exact qa
    · refine concat_meets ⟨_, ha', rfl⟩ ⟨_, hb', rfl⟩ noFill_tuple_add seq_tuple_add PySem.F.slot_tuple_add PySem.F.entry_tuple_add (PySem.F.args_tuple_add_2 _ _)
        (tuple_addW2 a b vs us n m dd dd2 sl sl2 hv hw hsz) ⟨ha', hb', ?_⟩
      refine ⟨keeps_push, s.heap.objs.size, _, vs ++ us, 0, rfl, push_known l, rfl, rfl, ?_⟩
      rw [Array.toList_append]
      exact (qa.imp fun P _ y => P.mono push_sub y).append (qb.imp fun P _ y => P.mono push_sub y)
theorem op_addL {Ps Qs : List (KP Value)} (hz : Ps.length + Qs.length ≤ 10000) : O2 w A (binaryOp .Add) (kLst Ps) (kLst Qs) (kLst (Ps ++ Qs)) := by
  (intro s v u H g l o_108 o_110; (refine ob4_5 o_108 fun a o vs n e_109 ha hc hd qa => ?_; try clear o_108; subst e_109); (refine ob4_5 o_110 fun b o2 us m e_111 hb hc2 hd2 qb => ?_; try clear o_110; subst e_111))
  have ha' := hide_sub _ _ ha
  have hb' := hide_sub _ _ hb
  have e1 : Ps.length = vs.size := qa.length.trans Array.length_toList
  have e2 : Qs.length = us.size := qb.length.trans Array.length_toList
  have hsz : vs.size + us.size ≤ sizeLine := by rw [sizeLine_eq, ← e1, ← e2]; exact Nat.le_trans hz (by decide)
  obtain ⟨cls, dd, data, sl⟩ := o
  obtain ⟨cls2, dd2, data2, sl2⟩ := o2
  dsimp only at hc hd hc2 hd2
  subst hc hd hc2 hd2
  refine concat_meets ⟨_, ha', rfl⟩ ⟨_, hb', rfl⟩ noFill_list_add seq_list_add PySem.F.slot_list_add PySem.F.entry_list_add (PySem.F.args_list_add_2 _ _) (list_addW a b vs us n m dd dd2 sl sl2 hsz) ⟨ha', hb', ?_⟩
  refine ⟨keeps_push, s.heap.objs.size, _, vs ++ us, 0, rfl, push_known l, rfl, rfl, ?_⟩
  rw [Array.toList_append]
  exact (qa.imp fun P _ y => P.mono push_sub y).append (qb.imp fun P _ y => P.mono push_sub y)
end
section
variable {w : World} {A : Around} {F : Fm} {K : Heap} {env : Env} {P Q R : KP Value} {e i : PySem.Expr} {pos : Pos}
theorem ev_sub (x : Ev w A F K env e P) (y : Ev w A F K env i Q) (q : O2 w A (subscriptTail e i) P Q R) : Ev w A F K env (.Subscript e i pos) R := fun s st =>
  Subscript_ ((x s st).use fun v s1 k1 p1 => (y s1 (st.grow k1)).use fun u s2 k2 p2 => (q s2 v u _ ((st.grow k1).grow k2).gh ((st.grow k1).grow k2).lives (P.mono (sub_hide k2.sub) p1) p2).use fun r s3 k3 p3 => ⟨k1.trans' (k2.trans' k3), p3⟩)
end
local macro_rules | `(tactic| walk_at "E fn") => `(tactic| ((case k6 | k7 => k_is); (case k8 => first | decide | (show (_ : Nat) < 1000; omega)); (case k9 => first | exact BindsTo.of_eq rfl | exact binds_K (by assumption) rfl (by k_is) rfl rfl rfl); (case kB => rfl); (case kD => decide +kernel); (case c2 | c3 | c4 => rfl)))
local macro_rules | `(tactic| walk_at "E sub") => `(tactic| repeat' (first | assumption | exact Sub.rfl' | refine Sub.trans ?_ (by assumption)))
local macro_rules | `(tactic| walk_at "E fact") => `(tactic| first | assumption | (refine' KP.mono _ ?eS ?eH; (case eH => assumption); (case eS => walk_at "E sub")))
local macro_rules | `(tactic| walk_at "E get") => `(tactic| first | assumption | (refine' (?eS : Sub _ _) _ _ ?eH; (case eH => assumption); (case eS => walk_at "E sub")))
local macro_rules | `(tactic| walk_at "E r") => `(tactic| ((case h2 | h1 => exact rfl); (case h3 => first | exact rfl | decide)))
local macro_rules | `(tactic| walk_at "E k") => `(tactic| ((case h1 | h2 | h3 | h4 => k_is)))
local macro_rules | `(tactic| walk_at "E c") => `(tactic| (walk_at "E r"; (case c => rfl); (case m => first | assumption | k_mem); (case d => assumption); (case p => walk_at "E fact")))
local macro_rules | `(tactic| walk_at "E name") => `(tactic| first
  | ((with_reducible refine' ev_local ?m ?p ?h1 ?h2 ?h3 ?h4); walk_at "E r"; (case h4 => decide); (case m => first | assumption | rfl); (case p => walk_at "E fact"))
  | ((with_reducible refine' ev_cell ?c ?m ?d ?p ?h1 ?h2 ?h3); walk_at "E c")
  | ((with_reducible refine' ev_global ?e ?h1 ?h2 ?h3 ?h4); walk_at "E r"; (case h4 => decide); (case e => k_is))
  | ((with_reducible refine' ev_builtin ?e ?v ?n ?h1 ?h2 ?h3 ?h4 ?h5); walk_at "E r"; (case h4 => exact rfl); (case h5 => decide); (case e => k_is); (case v => boot_by_name); (case n => decide)))
local macro_rules | `(tactic| walk_at "E args") => `(tactic| first | exact Evs.nil | ((with_reducible refine' Evs.cons ?x ?r ?hse); (case hse => exact rfl); (case x => walk_at "E ev"); (case r => walk_at "E args")))
local macro_rules | `(tactic| walk_at "E ev") => `(tactic| first
  | ((with_reducible show Ev _ _ _ _ _ (PySem.Expr.Name _ _) _); walk_at "E name")
  | ((with_reducible show Ev _ _ _ _ _ (PySem.Expr.Constant _ _ _) _); first | exact ev_int | exact ev_str | exact ev_none | exact ev_bool)
  | ((with_reducible refine' ev_attr ?x ?fs ?hh ?h1 ?h2 ?h3 ?h4 ?h5); (case x => walk_at "E ev"); (case fs => rfl); (case hh => first | exact handed_dct | exact handed_kd | exact handed_ref | exact handed_inst | exact handed_seq | assumption); walk_at "E k"; (case h5 => with_unfolding_all rfl))
  | ((with_reducible refine' ev_tup ?x ?hz); (case x => walk_at "E args"); (case hz => exact of_decide_eq_true rfl))
  | ((with_reducible refine' ev_lst ?x ?hz); (case x => walk_at "E args"); (case hz => exact of_decide_eq_true rfl)))
local macro_rules | `(tactic| walk_at "E set") => `(tactic| (refine' run_setattr ?ev ?self ?K ?mu ?q ?n ?h1 ?h2 ?h3 ?h4 ?z ?_ rfl rfl rfl (by decide) rfl; (case self => rfl); (case K => walk_at "E get"); (case mu => first | exact (List.nil_append _).symm | rfl); (case q => assumption); (case n => rfl); walk_at "E k"; (case z => exact of_decide_eq_true rfl); (case ev => walk_at "E ev"); intro K' v' es' S' p' q'; dsimp only [List.nil_append, List.cons_append]))
local macro_rules | `(tactic| walk_at "E initend") => `(tactic| (refine run_nil fun s2 st => ?_; refine' And.intro rfl (init_end st ?sS ?m ?q); (case sS => walk_at "E sub"); (case m => first | exact .head _ | k_mem); (case q => assumption)))
theorem bench_init {w : World} {P1 P2 P3 P4 P5 P6 : KP Value} : InitOk w 890 85 88 [P1, P2, P3, P4, P5, P6] [("names", P1), ("codes", P2), ("advances", P3), ("marks", P4), ("rows", P5), ("font", P6)] := by
  intro s x dx vs H B g hB hdx l hd hx hv
  (refine all2_6 hv fun v1 v2 v3 v4 v5 v6 e_112 h1 h2 h3 h4 h5 h6 => ?_; clear hv; subst e_112)
  k_dflt (refine' init_enter (binds := [("self", .ref x), ("names", v1), ("codes", v2), ("advances", v3), ("marks", v4), ("rows", v5), ("font", v6)]) g hB hdx l hd ?k6 ?k7 ?k8 ?k9 ?kB ?kD ?_ ?c2 ?c3 ?c4; walk_at "E fn")
  intro L cells l1 Y q0
  have hY : cells = [] := cells_none Y
  subst hY
  rw [List.nil_append]
  walk_at "E set"
  walk_at "E set"
  walk_at "E set"
  walk_at "E set"
  walk_at "E set"
  walk_at "E set"
  walk_at "E initend"
def kB (w : World) (N : List (Str × PyData)) (C : List (Int × PyData)) (D : List (Str × PyData)) (M R : List PyData) (f : KP Value) : KP Value := kInst 88 [("names", ksd w N), ("codes", kid w C), ("advances", ksd w D), ("marks", kd (.tuple M)), ("rows", kd (.tuple R)), ("font", f)]
theorem on_bench {w : World} {n : Nat} (hn : n ≤ 880) {P1 P2 P3 P4 P5 P6 : KP Value} : On w (Al n n) (.ref 88) [P1, P2, P3, P4, P5, P6] (kInst 88 [("names", P1), ("codes", P2), ("advances", P3), ("marks", P4), ("rows", P5), ("font", P6)]) :=
  on_class bench_init (by omega) (by k_is) (by k_is) (by k_is)
theorem on_deeper {w : World} {n k : Nat} {env : Env} {f : Value} {Ps : List (KP Value)} {P : KP Value} (h : On w (Al k k) f Ps P) (hk : n + 3 ≤ k) : On w ((Al n n).deeper env) f Ps P := fun s vs H g l hv =>
  wp_al (h s vs H g l hv) rfl (by show n + 1 ≤ k; omega) (by show n + 3 ≤ k; omega)
theorem ev_tadd {w : World} {A : Around} {F : Fm} {K : Heap} {env : Env} {M : List PyData} {a b : PySem.Expr} {pos : Pos} {ds : List PyData} (x : Ev w A F K env a (kd (.tuple M))) (y : Ev w A F K env b (kTup (ds.map kd))) (hz : M.length + ds.length ≤ 10000) :
    Ev w A F K env (.BinOp a .Add b pos) (kd (.tuple (M ++ ds))) :=
  (ev_bin (x.weak fun _ _ q => kd_tup q) y (op_addT (by simpa using hz))).weak fun h v q => tup_kd (by rw [List.map_append]; exact q)
theorem with_row_spec {w : World} {N C D M R f r} (hf : Handed f) (hz : R.length ≤ 1000) : On w (Al 860 860) (.ref 128) [kB w N C D M R f, kd r] (kB w N C D M (R ++ [r]) (kd .none)) := by
  intro s vs H g l hv
  (refine all2_2 hv fun v1 v2 e_113 h1 h2 => ?_; clear hv; subst e_113)
  unfold kB at h1
  k_dflt (refine' fn_enter (binds := [("bench", v1), ("row", v2)]) g l ?k6 ?k7 ?k8 ?k9 ?kB ?kD ?_ ?c2 ?c3 ?c4; walk_at "E fn")
  intro L cells Y
  have hY : cells = [] := cells_none Y
  subst hY
  refine run_return' rfl ?_
  refine ev_call (by walk_at "E ev") (Evs.cons (by walk_at "E ev") (Evs.cons (by walk_at "E ev") (Evs.cons (by walk_at "E ev") (Evs.cons (by walk_at "E ev") (Evs.cons (ev_tadd (ds := [r]) (by walk_at "E ev") (by show Ev _ _ _ _ _ _ (kTup [kd r]); walk_at "E ev") (by simp; omega)) (Evs.cons (by walk_at "E ev") Evs.nil)))))) (on_deeper (on_bench (n := 870) (by decide)) (by decide)) (keep_ref (by k_is)) (.inr ⟨_, _, rfl⟩) rfl rfl
theorem with_font_spec {w : World} {N C D M R f} {f2 : KP Value} (hf : Handed f) (hf2 : Handed f2) : On w (Al 860 860) (.ref 135) [kB w N C D M R f, f2] (kB w N C D M R f2) := by
  intro s vs H g l hv
  (refine all2_2 hv fun v1 v2 e_114 h1 h2 => ?_; clear hv; subst e_114)
  unfold kB at h1
  k_dflt (refine' fn_enter (binds := [("bench", v1), ("font", v2)]) g l ?k6 ?k7 ?k8 ?k9 ?kB ?kD ?_ ?c2 ?c3 ?c4; walk_at "E fn")
  intro L cells Y
  have hY : cells = [] := cells_none Y
  subst hY
  refine run_return' rfl ?_
  refine ev_call (by walk_at "E ev") (by walk_at "E args") (on_deeper (on_bench (n := 870) (by decide)) (by decide)) (keep_ref (by k_is)) (.inr ⟨_, _, rfl⟩) rfl rfl
open PySem.Builtin
theorem keys_none {w : World} {A : Around} {E : Value → Shared → Prop} {s : Shared} {a : Addr} {xs : Array Value} {k : Nat} {Q : Option Value → Shared → Prop} (hx : s.heap.get? a = some (seqObj "list" xs k)) (hA : A.handled = none)
    (h : ∀ h' tk, Sub s.heap h' → Q none { s with heap := h', toks := tk }) : wpAny (model PR w) A (getAttr? (.ref a) "keys") Q E s := by
  have hmiss : typeLookup (.type "list") "keys" = pure none := am_miss_of_fast (by decide +kernel)
  have hname : (["__module__", "__name__", "__qualname__", "__doc__", "__annotations__"] : List Str).contains "keys" = false := by decide +kernel
  have hsz : ("keys" : Str).length + 100 ≤ sizeLine := by rw [PySem.ofString_length, sizeLine_eq]; decide
  obtain ⟨hp, g, d, tk, os⟩ := s
  have hT : ∀ tk', (⟨hp, g, d, tk', os⟩ : Shared).TypeIs (.ref a) "list" := fun _ => ⟨_, hx, rfl⟩
  have f1 := sub_AttributeError
  have f3 := F.slot_list_getattribute.lookup
  have f4 := F.slot_list_getattribute.bind (.ref a)
  have f5 := am_list_getattr_none
  unfold getAttr? getAttrBy? getAttrBy
  repeat (any_goals (first | assumption | exact hT _ | ((with_reducible show wpAny _ _ (call (Value.builtin "list.__getattribute__") _ _) _ _ _); refine call_meets F.slot_list_getattribute (hT _) am_entry_list_getattribute (F.args_list_getattribute_2 _ _) (meets_getattribute_miss_list a xs k #[] _ _ hmiss hname hsz) ⟨hx, hA, fun h' tk' e hx' => ?_⟩) | wp_step))
  (refine ob2_1 hx'.there fun t' u' he => ?_)
  show wpAny _ _ (getattributeRaised _ _ _ _ _ _ _) _ _ _
  unfold getattributeRaised
  repeat (any_goals (first | assumption | wp_step))
  exact h _ _ hx'.keeps
theorem entry_upd_loop : entryFor table "dict.update.loop" = some Builtin.«dict.update.loop» := entryFor_of_tree (by kernel_rfl)
theorem plain_upd_loop : plainId "dict.update.loop" = true := by decide +kernel
def PairAt (h : Heap) (v key x : Value) : Prop := ∃ T o n, v = .ref T ∧ h.get? T = some o ∧ o.cls = .type "tuple" ∧ o.data = .seq #[key, x] n
section
variable {w : World} {K : Type} [DecidableEq K] {knd : PySem.KeyKind PR w K} {A : Around} {R : Result → Shared → Prop} {I D : Addr} {fp wr : List Addr} {n : Nat} {P : Nat → Value → Prop} {St : Nat → Heap → Prop}
theorem upd_loop (W : Walks PR w A.in1 I fp wr n P St) (hDf : D ∉ fp) (h0 : Heap) (pairs : List (K × Value)) (hn : n = pairs.length) (hz : n ≤ 10000)
    (hP : ∀ i v, P i v → ∃ k key x, pairs[i]? = some (k, x) ∧ knd.is k key = true ∧ ∃ T o m, v = .ref T ∧ T ≠ D ∧ T ∉ wr ∧ h0.get? T = some o ∧ o.cls = .type "tuple" ∧ o.data = .seq #[key, x] m) :
    ∀ (k i : Nat) (s : Shared), n - i = k → i ≤ n → St i s.heap → s.heap.DictOf knd D (merged [] (pairs.take i)) → (∀ b o, b ≠ D → b ∉ wr → h0.get? b = some o → s.heap.get? b = some o) →
      (∀ h' tk, h'.DictOf knd D (merged [] pairs) → (∀ b o, b ≠ D → b ∉ wr → s.heap.get? b = some o → h'.get? b = some o) → R (.ok (.ret .none)) { s with heap := h', toks := tk }) →
      codeAny (model PR w) A (.builtin "dict.update.loop" ⟨[.ref D, .ref I, rawInt i, .none], []⟩) R s := by
  have hDw : D ∉ wr := fun h => hDf (W.sub _ h)
  intro k
  induction k with
  | zero =>
    intro i s hk hi hst hS h0s hR
    have hin : i = n := Nat.le_antisymm hi (Nat.le_of_sub_eq_zero hk)
    subst hin
    refine codeAny_builtin entry_upd_loop ?_
    rw [Around.under_plainId plain_upd_loop _]
    show wpAny _ A.in1 (pyNext (.ref I) >>= _) _ _ s
    refine wpAny_bind (W.done s _ _ hst fun h' tk hk' => ?_)
    show wpAny _ A.in1 (Builtin.Dict.addKeywords D [] >>= fun _ => ret Value.none) _ _ _
    refine wpAny_bind (wpAny_pure (wpAny_pure (hR h' tk ?_ fun b o hb hw q => hk' b o hw q)))
    rw [hn, List.take_length] at hS
    exact hS.at fun o q => hk' _ o hDw q
  | succ k ih =>
    intro i s hk hi hst hS h0s hR
    have hlt : i < n := Nat.lt_of_sub_eq_succ hk
    refine codeAny_builtin entry_upd_loop ?_
    rw [Around.under_plainId plain_upd_loop _]
    show wpAny _ A.in1 (pyNext (.ref I) >>= _) _ _ s
    refine wpAny_bind (W.item i s _ _ hlt hst fun v h' tk hPv hst' hk' => ?_)
    obtain ⟨kk, key, x, hpi, hkey, T, o, m, rfl, hTD, hTw, hT, hc, hd⟩ := hP i v hPv
    have hT' : h'.get? T = some o := hk' _ _ hTw (h0s _ _ hTD hTw hT)
    show wpAny _ A.in1 (holding [Value.ref T] ((Builtin.Dict.pairItems (.ref T)).tryCatch _ >>= _) >>= _) _ _ _
    refine wpAny_bind (wpAny_holding (wpAny_bind (wpAny_tryCatch ?_)))
    unfold Builtin.Dict.pairItems
    refine wpAny_bind (wpAny_typeOf (T := "tuple") ⟨o, hT', hc⟩ ?_)
    simp only [show ((Value.type "tuple" == Value.type "list") || (Value.type "tuple" == Value.type "tuple")) = true from by decide +kernel, if_true]
    refine wpAny_bind (wpAny_seqItems hT' hd (wpAny_pure ?_))
    have hDict : h'.DictOf knd D (merged [] (pairs.take i)) := hS.at fun o q => hk' _ o hDw q
    show wpAny _ A.in1 (holding [key, x] (dictSet D key x)) _ _ _
    have hlen : (merged [] (pairs.take i)).length ≤ sizeLine := by
      have e1 := merged_length_le [] (pairs.take i)
      have e2 : (pairs.take i).length ≤ pairs.length := (List.take_sublist _ _).length_le
      rw [sizeLine_eq]; simp at e1; omega
    refine wpAny_holding (wpAny_dictSet_pairs (hsz := hlen) hkey hDict fun h'' hd'' hs'' => ?_)
    have hk3 : ∀ b o, b ≠ D → b ∉ wr → s.heap.get? b = some o → h''.get? b = some o := fun b o hb hw q => (hs''.2 b hb).trans (hk' b o hw q)
    refine wpAny_pure ⟨plainId_quiet plain_upd_loop _, ?_⟩
    refine ih (i + 1) _ (by rw [← Nat.sub_sub, hk]; rfl) hlt (W.frame _ _ _ hst' fun b hb ob q => (hs''.2 b (fun z => hDf (z ▸ hb))).trans q) ?_ (fun b ob hb hw q => hk3 b ob hb hw (h0s b ob hb hw q)) fun h3 tk3 hd3 hk4 => ?_
    · show h''.DictOf knd D _
      rw [merged_take_succ [] pairs i (kk, x) hpi]; exact hd''
    · exact hR h3 tk3 hd3 fun b ob hb hw q => hk4 b ob hb hw (hk3 b ob hb hw q)
end
theorem dict_of_pairs {w : World} {K : Type} [DecidableEq K] {knd : PySem.KeyKind PR w K} {A : Around} {E : Value → Shared → Prop} {s : Shared} {l : Addr} {items : Array Value} {n : Nat} {pairs : List (K × Value)} {Q : Value → Shared → Prop}
    (hA : A.handled = none) (hl : s.heap.get? l = some (seqObj "list" items n)) (hp : All2 (fun (q : K × Value) v => ∃ key, knd.is q.1 key = true ∧ PairAt s.heap v key q.2) pairs items.toList) (hz : items.size ≤ 10000)
    (h : ∀ D h' tk, D = s.heap.objs.size → h'.DictOf knd D (merged [] pairs) → Sub s.heap h' → Q (.ref D) { s with heap := h', toks := tk }) : wpAny (model PR w) A (call (.type "dict") [.ref l]) Q E s := by
  refine callType_codes (Q₁ := fun obj s₁ => obj = .ref s.heap.objs.size ∧ s₁ = { s with heap := s.heap.push { cls := .type "dict", data := .dict #[] } }) F.kt_called_dict (F.kt_typeCall_dict_1 _) F.entry_dict_init (kt_code_dict_new _ ⟨rfl, rfl⟩) ?_
  (intro obj s₁ o_116; (refine ob0_2 o_116 fun e_117 e_118 => ?_; try clear o_116; subst e_117; subst e_118))
  have hnew : (s.heap.push { cls := .type "dict", data := .dict #[] }).DictOf knd s.heap.objs.size [] := Heap.DictOf.new s.heap
  refine mk0_3 hnew.typeIs (F.args_dict_init_2 _ _) ?_
  have hl1 : (s.heap.push { cls := .type "dict", data := .dict #[] }).get? l = some (seqObj "list" items n) := Heap.get?_push_of_some _ hl
  unfold Builtin.«dict.__init__»
  refine wpAny_bind ?_
  unfold Builtin.Dict.selfAndRest
  refine wpAny_bind (wpAny_notOrdered_dict hnew.typeIs ?_)
  show wpAny _ _ (pure (s.heap.objs.size, [Value.ref l])) _ _ _
  refine wpAny_pure ?_
  show wpAny _ _ (Builtin.Dict.updateFrom "dict.__init__" s.heap.objs.size (.ref l) [] .none) _ _ _
  unfold Builtin.Dict.updateFrom
  refine wpAny_bind (wpAny_typeOf (T := "list") ⟨_, hl1, rfl⟩ ?_)
  rw [if_pos (by decide +kernel)]
  refine wpAny_bind (keys_none hl1 hA fun h2 tk2 k2 => ?_)
  simp only [Option.isNone_none, if_true]
  refine wpAny_bind (wpAny_rule (wpAny_bind ?_))
  have hl2 : h2.get? l = some (seqObj "list" items n) := k2 _ _ hl1
  refine wpAny_pyIter_list (s := { s with heap := h2, toks := tk2 }) ⟨_, hl2, rfl, n, rfl⟩ ?_
  have hne : l ≠ h2.objs.size := Nat.ne_of_lt (Heap.lt_size hl2)
  have hDl : s.heap.objs.size < h2.objs.size := by
    (refine ob3_2 (hnew.keep k2) fun o _ _ q _ => ?_)
    exact Heap.lt_size q
  have hlD : l < s.heap.objs.size := Heap.lt_size hl
  refine wpAny_pure ⟨plainId_quiet plain_upd_loop _, ?_⟩
  have kk : ∀ b o, s.heap.get? b = some o → (h2.push { cls := .type "list_iterator", data := .fields #[.ref l, .int 0 0] }).get? b = some o := fun b o q => Heap.get?_push_of_some _ (k2 _ _ (Heap.get?_push_of_some _ q))
  refine upd_loop (knd := knd) (n := items.size) (Walks.list (A := A.in1.in1) (show A.in1.in1.handled = none from hA) h2.objs.size l hne items) (D := s.heap.objs.size) ?_ s.heap pairs ?_ hz (fun i v q => ?_) items.size 0 _ (by omega) (Nat.zero_le _) ⟨⟨_, Heap.get?_push_size _ rfl, rfl, rfl⟩, ⟨_, Heap.get?_push_of_some _ hl2, rfl, n, rfl⟩⟩ ?_ (fun b o _ _ q => kk b o q) fun h3 tk3 hd3 hk3 => ?_
  · intro hm
    rcases List.mem_cons.mp hm with e | hm
    · exact absurd hDl (by rw [e]; exact Nat.lt_irrefl _)
    · exact absurd hlD (by rw [List.mem_singleton.mp hm]; exact Nat.lt_irrefl _)
  · have := hp.length
    rw [Array.length_toList] at this; exact this.symm
  · have q' : items.toList[i]? = some v := by simpa using q
    obtain ⟨p, hp1, key, hkey, T, o, m, rfl, hT, hc, hd⟩ := hp.get q'
    refine ⟨p.1, key, p.2, hp1, hkey, T, o, m, rfl, Nat.ne_of_lt (Heap.lt_size hT), fun hm => ?_, hT, hc, hd⟩
    have := Heap.lt_size hT
    rw [List.mem_singleton.mp hm] at this
    exact absurd (Nat.lt_trans this hDl) (Nat.lt_irrefl _)
  · exact (hnew.keep k2).push _
  · refine ⟨rfl, h _ h3 tk3 rfl hd3 fun b o q => hk3 b o (Nat.ne_of_lt (Heap.lt_size q)) (fun hm => ?_) (kk b o q)⟩
    have := Heap.lt_size q
    rw [List.mem_singleton.mp hm] at this
    exact absurd (Nat.lt_trans this hDl) (Nat.lt_irrefl _)
def kPl (Ps : List (KP Value)) : KP Value := ⟨fun h v => ∃ a vs n, v = .ref a ∧ h.get? a = some (seqObj "list" vs n) ∧ All2 (fun (P : KP Value) v => P.p h v) Ps vs.toList, fun k x_ => ob3_3 x_ fun a vs n e g q => mk3_3 a vs n e (k _ _ g) (q.imp fun P _ y => P.mono k y)⟩
theorem pl_lst {Ps : List (KP Value)} {h : Heap} {v : Value} (q : (kPl Ps).p h v) : (kLst Ps).p h v := by
  obtain ⟨a, vs, n, rfl, g, q⟩ := q
  exact mk4_5 a _ vs n rfl g rfl rfl q
def Iter (w : World) (P : KP Value) (Ps : List (KP Value)) : Prop := ∀ (A : Around) (s : Shared) (v : Value) (H : List Addr) (Q : Value → Shared → Prop) (E : Value → Shared → Prop), A.handled = none → G w s.heap → Live H s.heap → P.p (hideAll s.heap H) v →
  (∀ I fp wr n Pi Stt h' tk, Walks PR w A I fp wr n Pi Stt → n = Ps.length → Stt 0 h' → Sub s.heap h' → (∀ b ∈ wr, s.heap.get? b = none) → (∀ b ∈ fp, ∃ o, h'.get? b = some o) → (∀ i h, Stt i h → ∀ b ∈ wr, ∃ o, h.get? b = some o) →
    (∀ i v, i < n → Pi i v → ∃ Pk, Ps[i]? = some Pk ∧ Pk.p (hideAll s.heap H) v) → Q (.ref I) { s with heap := h', toks := tk }) → wpAny (model PR w) A (pyIter v) Q E s
theorem filterMap_snoc {α : Type} (l : List (Option α)) (i : Nat) (b : Option α) (h : l[i]? = some b) : (l.take (i + 1)).filterMap id = (l.take i).filterMap id ++ b.toList := by
  rw [List.take_add_one, h, List.filterMap_append]
  cases b <;> simp
abbrev testsOf (ifs : List PySem.Expr) (cenv : Env) : Sem Bool := forIn ifs true fun c r => if r = true then do let ok ← isTrue c cenv (eval c cenv); pure (ForInStep.yield ok) else pure (ForInStep.yield r)
inductive CJ (s : Shared) (L D : Addr) (wr Hh : List Addr) (Stt : Nat → Heap → Prop) (bs : List (Option (KP Value))) (n k : Nat) (s' : Shared) : Prop
  | mk (h' : Heap) (tk : Nat) (m' : Str → Option Value) (ys : Array Value) (i : Nat) (e : s' = { s with heap := h', toks := tk }) (h1 : Stt i h') (h2 : h'.PlainList D ys) (h3 : h'.Ns L m') (h4 : All2 (fun (P : KP Value) v => P.p (hideAll h' Hh) v) ((bs.take i).filterMap id) ys.toList) (h5 : i ≤ n) (h6 : k = n + 1 - i)
    (h7 : ∀ b o, b ≠ L → b ∉ wr → b ≠ D → s.heap.get? b = some o → h'.get? b = some o) : CJ s L D wr Hh Stt bs n k s'
theorem comp_loop {w : World} {A : Around} {s : Shared} {R : Result → Shared → Prop} {elt iter : PySem.Expr} {x : Str} {px : Pos} {ifs : List PySem.Expr} {scope : Scope} {pos : Pos} {I D : Addr} {fp wr : List Addr} {n : Nat} {P : Nat → Value → Prop} {Stt : Nat → Heap → Prop}
    {cenv : Env} {m : Str → Option Value} (W : Walks PR w A I fp wr n P Stt) (bs : List (Option (KP Value))) (Hh : List Addr) (hnb : n = bs.length)
    (hHC : cenv.locals ∈ Hh) (hHD : D ∈ Hh) (hHw : ∀ b ∈ wr, b ∈ Hh)
    (hx : cenv.kindOf x = some .local) (hp : (cenv.scope.kind == .class || (cenv.scope.kind == .module && cenv.locals != cenv.globals)) = false)
    (hDC : D ≠ cenv.locals) (hDf : D ∉ fp) (hCf : cenv.locals ∉ fp) (hst : Stt 0 s.heap) (hacc : s.heap.PlainList D #[]) (hn : s.heap.Ns cenv.locals m)
    (turn : ∀ i v h tk m₃, i < n → P i v → Stt (i + 1) h → h.Ns cenv.locals m₃ → m₃ x = some v → (∃ o, h.get? D = some o) → (∀ b o, b ≠ cenv.locals → b ∉ wr → b ≠ D → s.heap.get? b = some o → h.get? b = some o) → ∃ b, bs[i]? = some b ∧
      wpAny (model PR w) A (testsOf ifs cenv) (fun ok s₃ => ok = b.isSome ∧ Kp { s with heap := h, toks := tk } s₃ ∧ ∀ Rk, b = some Rk → wpAny (model PR w) A (eval elt cenv) (fun y s₄ => Kp s₃ s₄ ∧ Rk.p (hideAll s₄.heap Hh) y) (fun _ _ => False) s₃) (fun _ _ => False) { s with heap := h, toks := tk })
    (hR : ∀ h' tk m' ys, h'.Ns cenv.locals m' → h'.PlainList D ys → All2 (fun (P : KP Value) v => P.p (hideAll h' Hh) v) (bs.filterMap id) ys.toList →
      (∀ b o, b ≠ cenv.locals → b ∉ wr → b ≠ D → s.heap.get? b = some o → h'.get? b = some o) → R (.ok .next) { s with heap := h', toks := tk })
    (hsz : n ≤ sizeLine) : codeAny (model PR w) A (.compLoop (.ListComp elt [⟨.Name x px, iter, ifs, 0⟩] scope pos) 0 (.ref I) (.ref D) cenv) R s := by
  refine codeAny_compLoop_tests
    (CJ s cenv.locals D wr Hh Stt bs n) ?_ (n + 1)
    ⟨s.heap, s.toks, m, #[], 0, rfl, hst, hacc, hn, by simp only [List.take_zero]; exact .nil, Nat.zero_le _, rfl, fun _ _ _ _ _ e => e⟩
  (intro k s' o_121; obtain ⟨H, tk, m', ys, i, rfl, hst', hacc', hn', hF, hi, rfl, hk⟩ := o_121)
  have hCw : cenv.locals ∉ wr := fun h => hCf (W.sub _ h)
  have hDw : D ∉ wr := fun h => hDf (W.sub _ h)
  by_cases hlt : i < n
  · refine W.item i _ _ _ hlt hst' fun v h₁ tk₁ hPv hst₁ hk₁ => ?_
    refine wpAny_assign_Name (wpAny_storeName_local hx (hn'.at' fun o e => hk₁ _ o hCw e) (fun h₂ hn₂ hs₂ => ?_) hp)
    have up₂ : ∀ b o, b ≠ cenv.locals → b ∉ wr → H.get? b = some o → h₂.get? b = some o := fun b o hbC hbf e => hs₂.extBut b o hbC (hk₁ b o hbf e)
    have hst₂ : Stt (i + 1) h₂ := W.frame _ _ _ hst₁ fun b hb o e => hs₂.extBut b o (fun h => hCf (h ▸ hb)) e
    have acc₂ : h₂.PlainList D ys := hacc'.at fun o e => up₂ D o hDC hDw e
    (refine ob1_2 (turn i v h₂ (tk₁ + 1) _ hlt hPv hst₂ hn₂ (by simp) (let ⟨n, e⟩ := acc₂; ⟨_, e⟩) fun b o hbC hbf hbD e => up₂ b o hbC hbf (hk b o hbC hbf hbD e)) fun b hb ht => ?_)
    have hilt : i + 1 ≤ n := hlt
    have kn₂ : Sub (hideAll H Hh) (hideAll h₂ Hh) := fun b o e => hideAll_get _ (up₂ b o (fun z => hide_notin e (z ▸ hHC)) (fun z => hide_notin e (hHw b z)) (hide_sub _ _ e)) (hide_notin e)
    refine wpAny_mono ht (fun ok s₃ h₃ => ?_) fun _ _ e => e.elim
    (refine ob0_3 h₃ fun e_124 k₃ helt => ?_; try clear h₃; subst e_124)
    (refine ob2_2 k₃ fun h₃ tk₃ e_125 hk₃ => ?_; try clear k₃; subst e_125)
    cases b with
    | none =>
      simp only [Option.isSome_none, Bool.false_eq_true, if_false]
      refine ⟨n + 1 - (i + 1), ms hlt, h₃, tk₃, _, ys, i + 1, rfl, W.frame _ _ _ hst₂ fun b _ o e => hk₃ b o e, acc₂.at fun o e => hk₃ _ o e, hn₂.keeps hk₃, ?_, hilt, rfl, fun b o hbC hbf hbD e => hk₃ b o (up₂ b o hbC hbf (hk b o hbC hbf hbD e))⟩
      rw [filterMap_snoc bs i none hb]
      simp only [Option.toList_none, List.append_nil]
      exact hF.imp fun P _ y => P.mono (kn₂.trans (sub_hide hk₃)) y
    | some Rk =>
      simp only [Option.isSome_some, if_true]
      refine wpAny_mono (helt Rk rfl) (fun y s₄ h₄ => ?_) fun _ _ e => e.elim
      (refine ob0_2 h₄ fun o_126 hRy => ?_; try clear h₄; (refine ob2_2 o_126 fun h₄ tk₄ e_127 hk₄ => ?_; try clear o_126; subst e_127))
      have hys : ys.size ≤ sizeLine := by
        have e1 := hF.length
        have e2 : ((bs.take i).filterMap id).length ≤ (bs.take i).length := List.length_filterMap_le _ _
        have e3 : (bs.take i).length ≤ bs.length := (List.take_sublist _ _).length_le
        rw [Array.length_toList (xs := ys)] at e1
        omega
      refine wpAny_list_append_plain (hsz := hys) (acc₂.at fun o e => hk₄ _ o (hk₃ _ o e)) fun h₅ hl₅ hs₅ => ?_
      have kn₅ : Sub (hideAll h₄ Hh) (hideAll h₅ Hh) := fun b o e => hideAll_get _ ((hs₅.2 b fun z => hide_notin e (z ▸ hHD)).trans (hide_sub _ _ e)) (hide_notin e)
      refine ⟨n + 1 - (i + 1), ms hlt, h₅, tk₄, _, ys.push y, i + 1, rfl, W.frame _ _ _ hst₂ fun b hb o e => hs₅.extBut b o (fun h => hDf (h ▸ hb)) (hk₄ b o (hk₃ b o e)), hl₅, ((hn₂.keeps hk₃).keeps hk₄).sameBut hs₅ (Ne.symm hDC), ?_, hilt, rfl,
        fun b o hbC hbf hbD e => hs₅.extBut b o hbD (hk₄ b o (hk₃ b o (up₂ b o hbC hbf (hk b o hbC hbf hbD e))))⟩
      rw [filterMap_snoc bs i (some Rk) hb, Array.toList_push]
      exact (hF.imp fun P _ y => P.mono (((kn₂.trans (sub_hide hk₃)).trans (sub_hide hk₄)).trans kn₅) y).append (.cons (Rk.mono kn₅ hRy) .nil)
  · have hin : i = n := Nat.le_antisymm hi (Nat.not_lt.mp hlt)
    subst hin
    refine W.done _ _ _ hst' fun h₁ tk₁ hk₁ => ?_
    have kn₁ : Sub (hideAll H Hh) (hideAll h₁ Hh) := fun b o e => hideAll_get _ (hk₁ b o (fun z => hide_notin e (hHw b z)) (hide_sub _ _ e)) (hide_notin e)
    rw [hnb, List.take_length] at hF
    exact hR h₁ tk₁ m' ys (hn'.at' fun o e => hk₁ _ o hCw e) (hacc'.at fun o e => hk₁ _ o hDw e) (hF.imp fun P _ y => P.mono kn₁ y) fun b o hbC hbf hbD e => hk₁ b o hbf (hk b o hbC hbf hbD e)
def CompTurn (w : World) (A : Around) (F : Fm) (K : Heap) (cenv : Env) (ifs : List PySem.Expr) (elt : PySem.Expr) (b : Option (KP Value)) : Prop :=
  (match ifs with | [] => b.isSome = true | [c] => Tr w A F K cenv c b.isSome | _ => False) ∧ ∀ R, b = some R → Ev w A F K cenv elt R
theorem comp_turn {w : World} {A : Around} {F : Fm} {K : Heap} {cenv : Env} {ifs : List PySem.Expr} {elt : PySem.Expr} {b : Option (KP Value)} (t : CompTurn w A F K cenv ifs elt b) {s : Shared} (st : St w F K s) :
    wpAny (model PR w) A (testsOf ifs cenv) (fun ok s₃ => ok = b.isSome ∧ Kp s s₃ ∧ ∀ Rk, b = some Rk → wpAny (model PR w) A (eval elt cenv) (fun y s₄ => Kp s₃ s₄ ∧ Rk.p (hideAll s₄.heap F.hid) y) (fun _ _ => False) s₃) (fun _ _ => False) s := by
  (refine ob0_2 t fun t1 t2 => ?_; try clear t)
  match ifs, t1 with
  | [], t1 => exact wpAny_tests_nil ⟨t1.symm, .rfl', fun Rk e => t2 Rk e s st⟩
  | [c], t1 => exact wpAny_tests_one ((t1 s st).use fun ok s3 k3 p3 => ⟨p3, k3, fun Rk e => t2 Rk e s3 (st.grow k3)⟩)
section
variable {w : World} {A : Around} {F : Fm} {K : Heap} {env : Env} {P : KP Value} {Ps : List (KP Value)} {bs : List (Option (KP Value))} {elt iter : PySem.Expr} {x : Str} {px pos : Pos} {ifs : List PySem.Expr} {scope : Scope} {cl : List (Str × Addr)}
theorem ev_comp (src : Ev w A F K env iter P) (it : Iter w P Ps) (hA : A.handled = none) (hlen : bs.length = Ps.length) (hz : Ps.length ≤ 10000)
    (hclos : closureFor scope env = pure cl) (hcell : ∀ y ∈ scope.names, y.2 ≠ .cell) (hkind : scope.kind = .function)
    (hnames : ∀ y ∈ scope.names, y.2 = .local → scope.names.lookup y.1 = some .local) (hx : scope.names.lookup x = some .local)
    (turn : ∀ (i : Nat) (Pk : KP Value) (b : Option (KP Value)), Ps[i]? = some Pk → bs[i]? = some b → ∀ C D wr m₃ v K1, m₃ x = some v → Sub K K1 → Pk.p K1 v → CompTurn w A ⟨F.s0, F.B, D :: (wr ++ F.L :: F.H), C, m₃, F.mu⟩ K1 (compEnvC scope cl C env) ifs elt b)
    (hs : ∀ x, foldedSetIterable iter env x = pure x := by intro _; rfl) : Ev w A F K env (.ListComp elt [⟨.Name x px, iter, ifs, 0⟩] scope pos) (kPl (bs.filterMap id)) := fun s st => by
  rw [eval_ListComp]
  refine wpAny_comprehension_free (use := none) rfl hs hclos hkind hnames ((src s st).use fun xv s₁ k₁ p₁ => ?_)
  have st1 := st.up k₁
  refine it A s₁ xv F.hid _ _ hA st1.gh st1.lives p₁ fun I fp wr n Pi Stt h2 tk2 W hn hst k2 hwr hfp hlv hPi => ?_
  refine wpAny_newObj_type (wpAny_newFunctionEnv hcell (by intro y hy; simp at hy) (fun h₁ hns₁ hsb₁ => ?_) hkind)
  dsimp only at hns₁ hsb₁ ⊢
  generalize hH2 : h2.push { cls := .type "list", dict := none, data := .seq ([] : List Value).toArray } = H2 at hns₁ hsb₁ ⊢
  have hC : H2.objs.size = h2.objs.size + 1 := by rw [← hH2, Heap.size_push]
  have lt : ∀ b o, h2.get? b = some o → b ≠ H2.objs.size ∧ b ≠ h2.objs.size := fun b o q => by
    have := Heap.lt_size q
    rw [hC]
    exact ⟨Nat.ne_of_lt (Nat.lt_succ_of_lt this), Nat.ne_of_lt this⟩
  have hDC : h2.objs.size ≠ H2.objs.size := by rw [hC]; exact Nat.ne_of_lt (Nat.lt_succ_self _)
  have old : ∀ b o, h2.get? b = some o → h₁.get? b = some o := fun b o e => hsb₁.extBut b o (lt b o e).1 (Heap.get?_push_of_some _ (hH2 ▸ Heap.get?_push_of_some _ e))
  have hacc : h₁.PlainList h2.objs.size #[] := ⟨_, hsb₁.extBut _ _ hDC (Heap.get?_push_of_some _ (hH2 ▸ Heap.get?_push_size _ rfl))⟩
  have hst₁ : Stt 0 h₁ := W.frame _ _ _ hst fun b _ o e => old b o e
  have fpn : ∀ b ∈ fp, b ≠ H2.objs.size ∧ b ≠ h2.objs.size := fun b hb => by obtain ⟨o, q⟩ := hfp b hb; exact lt b o q
  have none1 : ∀ b, h2.objs.size ≤ b → s₁.heap.get? b = none := fun b hb => by
    cases q : s₁.heap.get? b with
    | none => rfl
    | some o => exact absurd (Heap.lt_size (k2 _ _ q)) (Nat.not_lt.mpr hb)
  have hD1 : s₁.heap.get? h2.objs.size = none := none1 _ (Nat.le_refl _)
  have hC1 : s₁.heap.get? H2.objs.size = none := none1 _ (by rw [hC]; exact Nat.le_succ _)
  have subF : ∀ (Kx : Heap), Sub Kx s₁.heap → ∀ {b}, s₁.heap.get? b = none → Kx.get? b = none := fun Kx hK b q => by
    cases z : Kx.get? b with
    | none => rfl
    | some o => rw [hK _ _ z] at q; exact nos' q
  have tost : ∀ (h3 : Heap) (tk3 : Nat) (m₃ : Str → Option Value) (i : Nat), Stt i h3 → h3.Ns H2.objs.size m₃ → (∃ o, h3.get? h2.objs.size = some o) → (∀ b o, b ≠ H2.objs.size → b ∉ wr → b ≠ h2.objs.size → h₁.get? b = some o → h3.get? b = some o) →
      St w ⟨F.s0, F.B, h2.objs.size :: (wr ++ F.L :: F.H), H2.objs.size, m₃, F.mu⟩ (hideAll s₁.heap F.hid) { s₁ with heap := h3, toks := tk3 } := fun h3 tk3 m₃ i hi3 hn3 hD3 hk3 => by
    have k3 : Sub s₁.heap h3 := fun b o q => hk3 b o (fun z => by rw [z, hC1] at q; exact nos q) (fun z => by rw [hwr b z] at q; exact nos q) (fun z => by rw [z, hD1] at q; exact nos q) (old b o (k2 b o q))
    refine ⟨st.g, st1.rl.trans ⟨_, _, rfl⟩, st1.base.trans k3, hide_sub.trans k3, hn3, fun q hq => k3 _ _ (st1.mus q hq), fun b hb => ?_, fun b hb => ?_, subF F.B st1.base hC1, st.bmu, fun q hq e => ?_, st.mnd⟩
    · rcases List.mem_cons.mp hb with rfl | hb
      · exact hD3
      rcases List.mem_append.mp hb with hb | hb
      · exact hlv i h3 hi3 b hb
      · obtain ⟨o, q⟩ := st1.lives b (by
          rcases List.mem_cons.mp hb with rfl | hb
          · exact .head _
          · exact .tail _ (List.mem_append_right _ hb))
        exact ⟨o, k3 _ _ q⟩
    · have hid1 : ∀ {b}, b ∈ F.hid → (hideAll s₁.heap F.hid).get? b = none := fun h => hideAll_none _ h
      rcases List.mem_cons.mp hb with rfl | hb
      · exact subF _ hide_sub hC1
      rcases List.mem_append.mp hb with hb | hb
      · exact hid1 (.tail _ (List.mem_append_left _ hb))
      rcases List.mem_cons.mp hb with rfl | hb
      · exact subF _ hide_sub hD1
      rcases List.mem_append.mp hb with hb | hb
      · exact subF _ hide_sub (hwr b hb)
      rcases List.mem_cons.mp hb with rfl | hb
      · exact hid1 (.head _)
      · exact hid1 (.tail _ (List.mem_append_right _ hb))
    · have := st1.mus q hq
      rw [e] at this
      change s₁.heap.get? H2.objs.size = some _ at this
      rw [hC1] at this; exact nos this
  have loop : ∀ s₃ : Shared, s₃ = { s₁ with heap := h₁, toks := tk2 + ([] : List (Str × Value)).length } →
      codeAny (model PR w) A (.compLoop (.ListComp elt [⟨.Name x px, iter, ifs, 0⟩] scope pos) 0 (.ref I) (.ref h2.objs.size) (compEnvC scope cl H2.objs.size env))
        (compPost (model PR w) A (fun _ _ => False) none (fun a s' => Kp s s' ∧ (kPl (bs.filterMap id)).p (hideAll s'.heap F.hid) a) (.ref h2.objs.size) H2.objs.size) s₃ := by
    rintro s₃ rfl
    refine comp_loop (cenv := compEnvC scope cl H2.objs.size env) W bs (H2.objs.size :: (F.mu.map (·.1) ++ (h2.objs.size :: (wr ++ F.L :: F.H)))) (by rw [hn, hlen]) (.head _) (.tail _ (List.mem_append_right _ (.head _)))
      (fun b hb => .tail _ (List.mem_append_right _ (.tail _ (List.mem_append_left _ hb)))) (lookup_relabel_local hx) (by simp [compEnvC, relabel, hkind]) hDC (fun hm => (fpn _ hm).2 rfl) (fun hm => (fpn _ hm).1 rfl) hst₁ hacc hns₁
      (fun i v h3 tk3 m₃ hin hPv hst3 hn3 hm3 hD3 hk3 => ?_) (fun h' tk m' ys hn' hpl hall hk => ?_) (by rw [hn, sizeLine_eq]; omega)
    · (refine ob1_2 (hPi i v hin hPv) fun Pk hPk hpk => ?_)
      have hib : i < bs.length := by rw [hlen]; exact (List.getElem?_eq_some_iff.mp hPk).1
      refine mk1_2 (bs[i]) (List.getElem?_eq_getElem hib) ?_
      have t := turn i Pk bs[i] hPk (List.getElem?_eq_getElem hib) H2.objs.size h2.objs.size wr m₃ v (hideAll s₁.heap F.hid) hm3 (st.in.trans (sub_hide k₁.sub)) hpk
      exact comp_turn t (tost h3 tk3 m₃ (i + 1) hst3 hn3 hD3 hk3)
    · refine mk1_2 m' hn' (fun h'' sb => ?_)
      have kk : Sub s₁.heap h'' := fun b o q => sb.extBut b o (fun z => by rw [z] at q; exact absurd (q.symm.trans hC1) (by simp)) (hk b o (fun z => by rw [z] at q; exact absurd (q.symm.trans hC1) (by simp)) (fun z => by rw [hwr b z] at q; exact nos q) (fun z => by rw [z, hD1] at q; exact nos q) (old b o (k2 b o q)))
      have hDn : h2.objs.size ∉ F.hid := fun hm => by
        (refine ob1_1 (st1.lives _ hm) fun o q => ?_)
        rw [hD1] at q; exact nos q
      have kn : Sub (hideAll h' (H2.objs.size :: (F.mu.map (·.1) ++ (h2.objs.size :: (wr ++ F.L :: F.H))))) (hideAll h'' F.hid) := fun b o q => by
        have hb := hide_notin q
        refine hideAll_get _ (sb.extBut b o (fun z => hb (z ▸ .head _)) (hide_sub _ _ q)) fun hm => hb ?_
        rcases List.mem_cons.mp hm with rfl | hm
        · exact .tail _ (List.mem_append_right _ (.tail _ (List.mem_append_right _ (.head _))))
        rcases List.mem_append.mp hm with hm | hm
        · exact .tail _ (List.mem_append_left _ hm)
        · exact .tail _ (List.mem_append_right _ (.tail _ (List.mem_append_right _ (.tail _ hm))))
      (refine ob1_1 (hpl.extBut sb.extBut hDC) fun nn hpl => ?_)
      exact ⟨k₁.trans' ⟨h'', _, rfl, kk⟩, h2.objs.size, ys, nn, rfl, hideAll_get _ hpl hDn, hall.imp fun P _ y => P.mono kn y⟩
  exact codeAny_compStart_list (loop _ rfl) (W.self 0 _ _ _ hst₁ (loop _ rfl))
end
section
variable {w : World} {Ps : List (KP Value)}
theorem iter_list : Iter w (kLst Ps) Ps := by
  (intro A s v H Q E hA g l o_129 h; (refine ob4_5 o_129 fun a o vs n e_130 ha hc hd q => ?_; try clear o_129; subst e_130))
  have hl : s.heap.IsList a vs := ⟨o, hide_sub _ _ ha, hc, n, hd⟩
  have hne : a ≠ s.heap.objs.size := Nat.ne_of_lt (Heap.lt_size (hide_sub _ _ ha))
  refine wpAny_pyIter_list hl (h _ _ _ _ _ _ _ s.toks (Walks.list hA s.heap.objs.size a hne vs) (by rw [← Array.length_toList]; exact q.length.symm) ⟨⟨_, Heap.get?_push_size _ rfl, rfl, rfl⟩, hl.at fun o e => Heap.get?_push_of_some _ e⟩ (fun b o e => Heap.get?_push_of_some _ e) (fun b hb => ?_) (fun b hb => ?_) (fun i h' st b hb => ?_) fun i v hi hv => ?_)
  · rw [List.mem_singleton.mp hb]; exact Heap.get?_none_of_le (Nat.le_refl _)
  · rcases List.mem_cons.mp hb with rfl | hb
    · exact ⟨_, Heap.get?_push_size _ rfl⟩
    · rw [List.mem_singleton.mp hb]; exact ⟨o, Heap.get?_push_of_some _ (hide_sub _ _ ha)⟩
  · rw [List.mem_singleton.mp hb]
    (refine ob0_2 st fun o_131 _ => ?_; try clear st; (refine ob1_2 o_131 fun o' q' _ => ?_; try clear o_131))
    exact ⟨o', q'⟩
  · exact q.get (by simpa using hv)
theorem iter_tup : Iter w (kTup Ps) Ps := by
  (intro A s v H Q E hA g l o_132 h; (refine ob4_5 o_132 fun a o vs n e_133 ha hc hd q => ?_; try clear o_132; subst e_133))
  have hl : s.heap.IsTuple a vs := ⟨o, hide_sub _ _ ha, hc, n, hd⟩
  have hne : a ≠ s.heap.objs.size := Nat.ne_of_lt (Heap.lt_size (hide_sub _ _ ha))
  refine wpAny_pyIter_tuple hl (h _ _ _ _ _ _ _ s.toks (Walks.tuple hA s.heap.objs.size a hne vs) (by rw [← Array.length_toList]; exact q.length.symm) ⟨⟨_, Heap.get?_push_size _ rfl, rfl, rfl⟩, hl.at fun o e => Heap.get?_push_of_some _ e⟩ (fun b o e => Heap.get?_push_of_some _ e) (fun b hb => ?_) (fun b hb => ?_) (fun i h' st b hb => ?_) fun i v hi hv => ?_)
  · rw [List.mem_singleton.mp hb]; exact Heap.get?_none_of_le (Nat.le_refl _)
  · rcases List.mem_cons.mp hb with rfl | hb
    · exact ⟨_, Heap.get?_push_size _ rfl⟩
    · rw [List.mem_singleton.mp hb]; exact ⟨o, Heap.get?_push_of_some _ (hide_sub _ _ ha)⟩
  · rw [List.mem_singleton.mp hb]
    (refine ob0_2 st fun o_134 _ => ?_; try clear st; (refine ob1_2 o_134 fun o' q' _ => ?_; try clear o_134))
    exact ⟨o', q'⟩
  · exact q.get (by simpa using hv)
theorem Iter.of {P P' : KP Value} (x : Iter w P Ps) (k : ∀ h v, P'.p h v → P.p h v) : Iter w P' Ps := fun A s v H Q E hA g l hv h => x A s v H Q E hA g l (k _ _ hv) h
theorem iter_kdt {ds : List PyData} : Iter w (kd (.tuple ds)) (ds.map kd) := iter_tup.of fun _ _ q => kd_tup q
theorem iter_kdl {ds : List PyData} : Iter w (kd (.list ds)) (ds.map kd) := iter_list.of fun _ _ q => kd_lst q
theorem iter_pl : Iter w (kPl Ps) Ps := iter_list.of fun _ _ q => pl_lst q
theorem iter_dict {K : Type} [DecidableEq K] {knd : PySem.KeyKind PR w K} {enc : K → PyData} {kvs : List (K × PyData)} (E : KeyE knd enc) : Iter w (kdct knd kvs) (kvs.map fun p => kd (enc p.1)) := by
  (intro A s v H Q E' hA g l o_135 h; (refine ob2_4 o_135 fun a vs e_136 lo hd q => ?_; try clear o_135; subst e_136))
  have hd' := hd.keep (h' := s.heap) hide_sub
  (refine ob1_1 hd'.dictAt fun ep hat => ?_)
  refine wpAny_pyIter_dict lo hat (h _ _ _ _ _ _ _ s.toks (Walks.dictKeys hA s.heap.objs.size a (Nat.ne_of_lt hat.lt_size) vs ep) (by rw [List.length_map]; exact q.length.symm) ⟨⟨_, Heap.get?_push_size _ rfl, rfl, rfl⟩, hat.push _⟩ (fun b o e => Heap.get?_push_of_some _ e) (fun b hb => ?_) (fun b hb => ?_) (fun i h' st b hb => ?_) fun i v hi hv => ?_)
  · rw [List.mem_singleton.mp hb]; exact Heap.get?_none_of_le (Nat.le_refl _)
  · rcases List.mem_cons.mp hb with rfl | hb
    · exact ⟨_, Heap.get?_push_size _ rfl⟩
    · rw [List.mem_singleton.mp hb]
      (refine ob2_2 hat fun o es q2 _ => ?_; try clear hat)
      exact ⟨o, Heap.get?_push_of_some _ q2⟩
  · rw [List.mem_singleton.mp hb]
    (refine ob0_2 st fun o_137 _ => ?_; try clear st; (refine ob1_2 o_137 fun o' q' _ => ?_; try clear o_137))
    exact ⟨o', q'⟩
  · (refine ob2_2 hv fun k x hx hk => ?_; try clear hv)
    (refine ob1_3 (q.get hx) fun p hp h1 h2 => ?_)
    refine mk1_2 (kd (enc p.1)) (by rw [List.getElem?_map, hp]; rfl) ?_
    rw [← h1]
    exact E.of hk
def kRng (n : Nat) : KP Value := ⟨fun h v => ∃ r t u x, v = .ref r ∧ IsRange h r 0 n 1 t u x, fun k x_ => ob4_2 x_ fun r t u x e q => mk4_2 r t u x e (k _ _ q)⟩
theorem iter_rng {n : Nat} (hn : n ≤ 10000) : Iter w (kRng n) ((List.range n).map fun i => kd (.int (i : Nat))) := by
  (intro A s v H Q E hA g l o_138 h; (refine ob4_2 o_138 fun r t u x e_139 q => ?_; try clear o_138; subst e_139))
  have hr : IsRange s.heap r 0 n 1 t u x := hide_sub _ _ q
  have hsm : Builtin.Range.small 0 n 1 = true := small_one (by decide) (by decide) (by omega) (by omega)
  have hsz : Builtin.Range.rangeSize 0 n 1 = n := by rw [rangeSize_nat]; omega
  refine wpAny_pyIter_range hr hsm (h _ _ _ n _ _ _ s.toks (Walks.range hA s.heap.objs.size 0 1 n) (by simp) ?_ (fun b o e => Heap.get?_push_of_some _ e) (fun b hb => ?_) (fun b hb => ?_) (fun i h' st b hb => ?_) fun i v hi hv => ?_)
  · show IsRangeIter _ _ _ _ _
    have := Heap.get?_push_size (o := { cls := .type "range_iterator", data := .fields #[rawInt 0, rawInt (Builtin.Range.rangeSize 0 n 1), rawInt 1] }) s.heap rfl
    rw [hsz] at this ⊢
    simpa using this
  · rw [List.mem_singleton.mp hb]; exact Heap.get?_none_of_le (Nat.le_refl _)
  · rw [List.mem_singleton.mp hb]; exact ⟨_, Heap.get?_push_size _ rfl⟩
  · rw [List.mem_singleton.mp hb]; exact ⟨_, st⟩
  · (refine ob1_1 hv fun t e_140 => ?_; try clear hv; subst e_140)
    refine mk1_2 (kd (.int (i : Nat))) ?_ ?_
    · rw [List.getElem?_map, List.getElem?_range hi]; rfl
    · have : (0 : Int) + (i : Int) * 1 = i := by omega
      rw [this]; exact is_int
end

section
variable {w : World} {A : Around} {Ps : List (KP Value)} {K : Type} [DecidableEq K] {knd : PySem.KeyKind PR w K} {enc : K → PyData} {kvs : List (K × PyData)}
theorem on_range {n : Nat} : On w A (.type "range") [kd (.int (n : Nat))] (kRng n) := by
  intro s vs H g l hv
  (refine all2_1 hv fun _ e_141 h1 => ?_; clear hv; subst e_141)
  (refine ob1_1 (kd_int h1) fun t e_142 => ?_; subst e_142)
  exact call_range_1 ⟨keeps_push, s.heap.objs.size, s.toks, t, s.toks + 1, rfl, push_known l⟩
theorem on_len (hz : Ps.length ≤ 100000) : On w A (.builtin "len") [kLst Ps] (kd (.int Ps.length)) := by
  intro s vs H g l hv
  (refine all2_1 hv fun _ e_145 o_143 => ?_; clear hv; subst e_145; (refine ob4_5 o_143 fun a o vs n e_144 ha hc hd q => ?_; try clear o_143; subst e_144))
  have e : vs.size = Ps.length := by rw [← Array.length_toList]; exact q.length.symm
  refine call_len_list (items := vs) ⟨o, hide_sub _ _ ha, hc, n, hd⟩ (by rw [e]; omega) ⟨keeps_tok, ?_⟩
  rw [e]; exact is_int
theorem on_dict_pairs (E : KeyE knd enc) (hA : A.handled = none) (hn : (kvs.map (·.1)).Nodup) (hz : kvs.length ≤ 10000) : On w A (.type "dict") [kPl (kvs.map fun p => kTup [kd (enc p.1), kd p.2])] (kdct knd kvs) := by
  intro s vs H g l hv
  (refine all2_1 hv fun _ e_148 o_146 => ?_; clear hv; subst e_148; (refine ob3_3 o_146 fun a items n e_147 ha q => ?_; try clear o_146; subst e_147))
  have hlen : kvs.length = items.size := by have := q.length; rw [List.length_map, Array.length_toList] at this; exact this
  have key : ∀ (kvs : List (K × PyData)) (vs : List Value), All2 (fun (P : KP Value) v => P.p (hideAll s.heap H) v) (kvs.map fun p => kTup [kd (enc p.1), kd p.2]) vs →
      ∃ ps : List (K × Value), All2 (KvIs (hideAll s.heap H)) kvs ps ∧ All2 (fun (q : K × Value) v => ∃ key, knd.is q.1 key = true ∧ PairAt s.heap v key q.2) ps vs := by
    intro kvs
    induction kvs with
    | nil => intro vs q; cases q; exact ⟨[], .nil, .nil⟩
    | cons p kvs ih =>
      intro vs q
      (refine all2_1c q fun _ _ e_151 o_149 r => ?_; clear q; subst e_151; (refine ob4_5 o_149 fun T o us m e_150 hT hc hd q1 => ?_; try clear o_149; subst e_150))
      (refine ob1_2 (ih _ r) fun ps i1 i2 => ?_)
      obtain ⟨us⟩ := us
      (refine all2_2 q1 fun key x e_152 h1 h2 => ?_; clear q1; subst e_152)
      exact mk1_2 ((p.1, x) :: ps) (.cons ⟨rfl, h2⟩ i1) (.cons ⟨key, E.is h1, T, o, m, rfl, hide_sub _ _ hT, hc, hd⟩ i2)
  (refine ob1_2 (key kvs _ q) fun ps i1 i2 => ?_)
  have hps : (ps.map (·.1)) = kvs.map (·.1) := by
    clear key i2 q hn hz hlen
    induction i1 with
    | nil => rfl
    | cons h _ ih => rw [List.map_cons, List.map_cons, ih, h.1]
  refine dict_of_pairs (knd := knd) hA (hide_sub _ _ ha) i2 (by omega) fun D h' tk hD hd hk => ⟨⟨h', tk, rfl, hk⟩, D, ps, rfl, ?_, ?_, i1.imp fun _ _ y => y.mono (sub_hide hk)⟩
  · obtain ⟨X, p, loose, mg, mb, T⟩ := g
    have : sysModules < s.heap.objs.size := modules_low T.nolimit
    rw [← hD] at this
    exact beq_eq_false_iff_ne.mpr (Nat.ne_of_gt this)
  · rw [merged_nil_of_nodup ps (by rw [hps]; exact hn)] at hd
    (refine ob3_2 hd fun o es ep ho r => ?_; try clear hd)
    exact mk3_2 o es ep (hideAll_get _ ho (by rw [hD]; exact live_ne l)) r
end
theorem filterMap_map {α β : Type} (L : List α) (g : α → Option β) : (L.map g).filterMap id = L.filterMap g := by rw [List.filterMap_map]; rfl
section
variable {w : World} {A : Around} {F : Fm} {K : Heap} {env : Env} {P : KP Value} {elt iter : PySem.Expr} {x : Str} {px pos : Pos} {ifs : List PySem.Expr} {scope : Scope} {cl : List (Str × Addr)}
theorem ev_compL {α : Type} (L : List α) (f : α → KP Value) (g : α → Option (KP Value)) (src : Ev w A F K env iter P) (it : Iter w P (L.map f)) (hA : A.handled = none) (hz : L.length ≤ 10000)
    (hclos : closureFor scope env = pure cl) (hcell : ∀ y ∈ scope.names, y.2 ≠ .cell) (hkind : scope.kind = .function)
    (hnames : ∀ y ∈ scope.names, y.2 = .local → scope.names.lookup y.1 = some .local) (hx : scope.names.lookup x = some .local)
    (turn : ∀ p ∈ L, ∀ C D wr m₃ v K1, m₃ x = some v → Sub K K1 → (f p).p K1 v → CompTurn w A ⟨F.s0, F.B, D :: (wr ++ F.L :: F.H), C, m₃, F.mu⟩ K1 (compEnvC scope cl C env) ifs elt (g p))
    (hs : ∀ x, foldedSetIterable iter env x = pure x := by intro _; rfl) : Ev w A F K env (.ListComp elt [⟨.Name x px, iter, ifs, 0⟩] scope pos) (kPl (L.filterMap g)) := by
  rw [← filterMap_map]
  refine ev_comp (bs := L.map g) src it hA (by simp) (by simpa using hz) hclos hcell hkind hnames hx (fun i Pk b hP hb => ?_) hs
  rw [List.getElem?_map] at hP hb
  cases e : L[i]? with
  | none => rw [e] at hP; exact nos hP
  | some p =>
    rw [e] at hP hb
    obtain rfl := Option.some.inj hP; obtain rfl := Option.some.inj hb
    exact turn p (List.mem_of_getElem? e)
end
abbrev sI (N : List (Str × Int)) : List (Str × PyData) := N.map fun p => (p.1, PyData.int p.2)
abbrev iS (C : List (Int × Str)) : List (Int × PyData) := C.map fun p => (p.1, PyData.str p.2)
theorem dget_mem {K : Type} [DecidableEq K] {k : K} {d : PyData} {kvs : List (K × PyData)} (hn : (kvs.map (·.1)).Nodup) (hm : (k, d) ∈ kvs) : dget kvs k = some d := by
  induction kvs with
  | nil => cases hm
  | cons p kvs ih =>
    rw [List.map_cons, List.nodup_cons] at hn
    unfold dget
    rw [List.find?_cons]
    rcases List.mem_cons.mp hm with rfl | hm
    · rw [decide_eq_true rfl]; rfl
    · rw [decide_eq_false fun e => hn.1 (by rw [e]; exact List.mem_map.mpr ⟨_, hm, rfl⟩)]
      exact ih hn.2 hm
theorem names_by_glyph_spec {w : World} {N : List (Str × Int)} {C D M R f} (hf : Handed f) (hn1 : (N.map (·.1)).Nodup) (hn2 : (N.map (·.2)).Nodup) (hz : N.length ≤ 1000) :
    On w (Al 860 860) (.ref 145) [kB w (sI N) C D M R f] (kid w (N.map fun p => (p.2, .str p.1))) := by
  intro s vs H g l hv
  (refine all2_1 hv fun v1 e_156 h1 => ?_; clear hv; subst e_156)
  unfold kB at h1
  k_dflt (refine' fn_enter (binds := [("bench", v1)]) g l ?k6 ?k7 ?k8 ?k9 ?kB ?kD ?_ ?c2 ?c3 ?c4; walk_at "E fn")
  intro L cells Y
  k_cells Y
  refine run_return' rfl ?_
  refine ev_call (by walk_at "E ev") (Evs.cons ?comp Evs.nil) (on_dict_pairs keyI rfl ?_ ?_) keep_t (.inr ⟨_, _, rfl⟩) rfl rfl
  case comp =>
    have e : (N.map fun p => (p.2, PyData.str p.1)).map (fun p => kTup [kd (.int p.1), kd p.2]) = N.filterMap fun p => some (kTup [kd (.int p.2), kd (.str p.1)]) := by
      rw [List.map_map]; simp [Function.comp_def]
    rw [e]
    have it : Iter w (ksd w (sI N)) (N.map fun p => kd (.str p.1)) := by
      have := iter_dict (w := w) (kvs := sI N) keyS
      rw [List.map_map] at this
      exact this
    refine ev_compL N (fun p => kd (.str p.1)) _ (by walk_at "E ev") it rfl (by omega) (by rfl) (by decide) rfl (by decide) (by rfl) (fun p hp C D wr m₃ v K1 hm S hv => ⟨rfl, fun R e => ?_⟩) (fun _ => rfl)
    obtain rfl := Option.some.inj e
    refine ev_tup (Evs.cons (ev_sub (by walk_at "E ev") (by walk_at "E ev") (sub_dict keyS (dget_mem (k := p.1) (d := .int p.2) ?_ ?_) (fun _ _ => rfl))) (Evs.cons (by walk_at "E ev") Evs.nil) rfl) (of_decide_eq_true rfl)
    · rw [List.map_map]; exact hn1
    · exact List.mem_map.mpr ⟨p, hp, rfl⟩
  · rw [List.map_map]; exact hn2
  · rw [List.length_map]; omega
inductive CJD {K : Type} [DecidableEq K] {w : World} (knd : PySem.KeyKind PR w K) (s : Shared) (L D : Addr) (wr Hh : List Addr) (Stt : Nat → Heap → Prop) (bs : List (Option (K × PyData))) (n k : Nat) (s' : Shared) : Prop
  | mk (h' : Heap) (tk : Nat) (m' : Str → Option Value) (ps : List (K × Value)) (i : Nat) (e : s' = { s with heap := h', toks := tk }) (h1 : Stt i h') (h2 : h'.DictOf knd D (merged [] ps)) (h3 : h'.Ns L m') (h4 : All2 (KvIs (hideAll h' Hh)) ((bs.take i).filterMap id) ps) (h5 : i ≤ n) (h6 : k = n + 1 - i)
    (h7 : ∀ b o, b ≠ L → b ∉ wr → b ≠ D → s.heap.get? b = some o → h'.get? b = some o) : CJD knd s L D wr Hh Stt bs n k s'
theorem comp_loopD {w : World} {A : Around} {s : Shared} {R : Result → Shared → Prop} {K : Type} [DecidableEq K] {knd : PySem.KeyKind PR w K} {kx vx iter : PySem.Expr} {x : Str} {px : Pos} {ifs : List PySem.Expr} {scope : Scope} {pos : Pos} {I D : Addr} {fp wr : List Addr} {n : Nat} {P : Nat → Value → Prop} {Stt : Nat → Heap → Prop}
    {cenv : Env} {m : Str → Option Value} (W : Walks PR w A I fp wr n P Stt) {enc : K → PyData} (Ek : KeyE knd enc) (bs : List (Option (K × PyData))) (Hh : List Addr) (hnb : n = bs.length)
    (hHC : cenv.locals ∈ Hh) (hHD : D ∈ Hh) (hHw : ∀ b ∈ wr, b ∈ Hh)
    (hx : cenv.kindOf x = some .local) (hp : (cenv.scope.kind == .class || (cenv.scope.kind == .module && cenv.locals != cenv.globals)) = false)
    (hDC : D ≠ cenv.locals) (hDf : D ∉ fp) (hCf : cenv.locals ∉ fp) (hst : Stt 0 s.heap) (hacc : s.heap.DictOf knd D []) (hn : s.heap.Ns cenv.locals m)
    (turn : ∀ i v h tk m₃, i < n → P i v → Stt (i + 1) h → h.Ns cenv.locals m₃ → m₃ x = some v → (∃ o, h.get? D = some o) → (∀ b o, b ≠ cenv.locals → b ∉ wr → b ≠ D → s.heap.get? b = some o → h.get? b = some o) → ∃ b, bs[i]? = some b ∧
      wpAny (model PR w) A (testsOf ifs cenv) (fun ok s₃ => ok = b.isSome ∧ Kp { s with heap := h, toks := tk } s₃ ∧ ∀ Rk, b = some Rk → wpAny (model PR w) A (eval kx cenv) (fun key s₄ => Kp s₃ s₄ ∧ (kd (enc Rk.1)).p (hideAll s₄.heap Hh) key ∧ wpAny (model PR w) A (eval vx cenv) (fun y s₅ => Kp s₄ s₅ ∧ (kd Rk.2).p (hideAll s₅.heap Hh) y) (fun _ _ => False) s₄) (fun _ _ => False) s₃) (fun _ _ => False) { s with heap := h, toks := tk })
    (hR : ∀ h' tk m' ps, h'.Ns cenv.locals m' → h'.DictOf knd D (merged [] ps) → All2 (KvIs (hideAll h' Hh)) (bs.filterMap id) ps →
      (∀ b o, b ≠ cenv.locals → b ∉ wr → b ≠ D → s.heap.get? b = some o → h'.get? b = some o) → R (.ok .next) { s with heap := h', toks := tk })
    (hsz : n ≤ sizeLine) : codeAny (model PR w) A (.compLoop (.DictComp kx vx [⟨.Name x px, iter, ifs, 0⟩] scope pos) 0 (.ref I) (.ref D) cenv) R s := by
  refine codeAny_compLoop_testsD
    (CJD knd s cenv.locals D wr Hh Stt bs n) ?_ (n + 1)
    ⟨s.heap, s.toks, m, [], 0, rfl, hst, hacc, hn, by simp only [List.take_zero]; exact .nil, Nat.zero_le _, rfl, fun _ _ _ _ _ e => e⟩
  (intro k s' o_157; obtain ⟨H, tk, m', ps, i, rfl, hst', hacc', hn', hF, hi, rfl, hk⟩ := o_157)
  have hCw : cenv.locals ∉ wr := fun h => hCf (W.sub _ h)
  have hDw : D ∉ wr := fun h => hDf (W.sub _ h)
  by_cases hlt : i < n
  · refine W.item i _ _ _ hlt hst' fun v h₁ tk₁ hPv hst₁ hk₁ => ?_
    refine wpAny_assign_Name (wpAny_storeName_local hx (hn'.at' fun o e => hk₁ _ o hCw e) (fun h₂ hn₂ hs₂ => ?_) hp)
    have up₂ : ∀ b o, b ≠ cenv.locals → b ∉ wr → H.get? b = some o → h₂.get? b = some o := fun b o hbC hbf e => hs₂.extBut b o hbC (hk₁ b o hbf e)
    have hst₂ : Stt (i + 1) h₂ := W.frame _ _ _ hst₁ fun b hb o e => hs₂.extBut b o (fun h => hCf (h ▸ hb)) e
    have acc₂ : h₂.DictOf knd D (merged [] ps) := hacc'.at fun o e => up₂ D o hDC hDw e
    (refine ob1_2 (turn i v h₂ (tk₁ + 1) _ hlt hPv hst₂ hn₂ (by simp) (let ⟨o, _, _, e, _⟩ := acc₂; ⟨o, e⟩) fun b o hbC hbf hbD e => up₂ b o hbC hbf (hk b o hbC hbf hbD e)) fun b hb ht => ?_)
    have hilt : i + 1 ≤ n := hlt
    have kn₂ : Sub (hideAll H Hh) (hideAll h₂ Hh) := fun b o e => hideAll_get _ (up₂ b o (fun z => hide_notin e (z ▸ hHC)) (fun z => hide_notin e (hHw b z)) (hide_sub _ _ e)) (hide_notin e)
    refine wpAny_mono ht (fun ok s₃ h₃ => ?_) fun _ _ e => e.elim
    (refine ob0_3 h₃ fun e_160 k₃ helt => ?_; try clear h₃; subst e_160)
    (refine ob2_2 k₃ fun h₃ tk₃ e_161 hk₃ => ?_; try clear k₃; subst e_161)
    cases b with
    | none =>
      simp only [Option.isSome_none, Bool.false_eq_true, if_false]
      refine ⟨n + 1 - (i + 1), ms hlt, h₃, tk₃, _, ps, i + 1, rfl, W.frame _ _ _ hst₂ fun b _ o e => hk₃ b o e, acc₂.at fun o e => hk₃ _ o e, hn₂.keeps hk₃, ?_, hilt, rfl, fun b o hbC hbf hbD e => hk₃ b o (up₂ b o hbC hbf (hk b o hbC hbf hbD e))⟩
      rw [filterMap_snoc bs i none hb]
      simp only [Option.toList_none, List.append_nil]
      exact hF.imp fun _ _ y => y.mono (kn₂.trans (sub_hide hk₃))
    | some Rk =>
      simp only [Option.isSome_some, if_true]
      refine wpAny_mono (helt Rk rfl) (fun key s₄ h₄ => ?_) fun _ _ e => e.elim
      (refine ob0_3 h₄ fun o_162 hRk hval => ?_; try clear h₄; (refine ob2_2 o_162 fun h₄ tk₄ e_163 hk₄ => ?_; try clear o_162; subst e_163))
      refine wpAny_mono hval (fun y s₅ h₅ => ?_) fun _ _ e => e.elim
      (refine ob0_2 h₅ fun o_164 hRy => ?_; try clear h₅; (refine ob2_2 o_164 fun h₅ tk₅ e_165 hk₅ => ?_; try clear o_164; subst e_165))
      have hys : (merged [] ps).length ≤ sizeLine := by
        have e0 := merged_length_le [] ps
        have e1 := hF.length
        have e2 : ((bs.take i).filterMap id).length ≤ (bs.take i).length := List.length_filterMap_le _ _
        have e3 : (bs.take i).length ≤ bs.length := (List.take_sublist _ _).length_le
        simp only [List.length_nil] at e0
        omega
      refine wpAny_dictSet_pairs (knd := knd) (k := Rk.1) (hsz := hys) (Ek.is hRk) (acc₂.at fun o e => hk₅ _ o (hk₄ _ o (hk₃ _ o e))) fun h₆ hl₆ hs₆ => ?_
      have kn₆ : Sub (hideAll h₅ Hh) (hideAll h₆ Hh) := fun b o e => hideAll_get _ ((hs₆.2 b fun z => hide_notin e (z ▸ hHD)).trans (hide_sub _ _ e)) (hide_notin e)
      refine ⟨n + 1 - (i + 1), ms hlt, h₆, _, _, ps ++ [(Rk.1, y)], i + 1, rfl, W.frame _ _ _ hst₂ fun b hb o e => hs₆.extBut b o (fun h => hDf (h ▸ hb)) (hk₅ b o (hk₄ b o (hk₃ b o e))), ?_, (((hn₂.keeps hk₃).keeps hk₄).keeps hk₅).sameBut hs₆ (Ne.symm hDC), ?_, hilt, rfl,
        fun b o hbC hbf hbD e => hs₆.extBut b o hbD (hk₅ b o (hk₄ b o (hk₃ b o (up₂ b o hbC hbf (hk b o hbC hbf hbD e)))))⟩
      · have e : merged [] (ps ++ [(Rk.1, y)]) = stored (merged [] ps) Rk.1 y := by simp [merged, List.foldl_append]
        rw [e]; exact hl₆
      · rw [filterMap_snoc bs i (some Rk) hb]
        exact (hF.imp fun _ _ z => z.mono ((((kn₂.trans (sub_hide hk₃)).trans (sub_hide hk₄)).trans (sub_hide hk₅)).trans kn₆)).append (.cons ⟨rfl, (kd Rk.2).mono kn₆ hRy⟩ .nil)
  · have hin : i = n := Nat.le_antisymm hi (Nat.not_lt.mp hlt)
    subst hin
    refine W.done _ _ _ hst' fun h₁ tk₁ hk₁ => ?_
    have kn₁ : Sub (hideAll H Hh) (hideAll h₁ Hh) := fun b o e => hideAll_get _ (hk₁ b o (fun z => hide_notin e (hHw b z)) (hide_sub _ _ e)) (hide_notin e)
    rw [hnb, List.take_length] at hF
    exact hR h₁ tk₁ m' ps (hn'.at' fun o e => hk₁ _ o hCw e) (hacc'.at fun o e => hk₁ _ o hDw e) (hF.imp fun _ _ y => y.mono kn₁) fun b o hbC hbf hbD e => hk₁ b o hbf (hk b o hbC hbf hbD e)
def CompTurnD {K0 : Type} (enc : K0 → PyData) (w : World) (A : Around) (F : Fm) (K : Heap) (cenv : Env) (ifs : List PySem.Expr) (kx vx : PySem.Expr) (b : Option (K0 × PyData)) : Prop :=
  (match ifs with | [] => b.isSome = true | [c] => Tr w A F K cenv c b.isSome | _ => False) ∧ ∀ R, b = some R → Ev w A F K cenv kx (kd (enc R.1)) ∧ Ev w A F K cenv vx (kd R.2)
theorem comp_turnD {K0 : Type} {enc : K0 → PyData} {w : World} {A : Around} {F : Fm} {K : Heap} {cenv : Env} {ifs : List PySem.Expr} {kx vx : PySem.Expr} {b : Option (K0 × PyData)} (t : CompTurnD enc w A F K cenv ifs kx vx b) {s : Shared} (st : St w F K s) :
    wpAny (model PR w) A (testsOf ifs cenv) (fun ok s₃ => ok = b.isSome ∧ Kp s s₃ ∧ ∀ Rk, b = some Rk → wpAny (model PR w) A (eval kx cenv) (fun key s₄ => Kp s₃ s₄ ∧ (kd (enc Rk.1)).p (hideAll s₄.heap F.hid) key ∧ wpAny (model PR w) A (eval vx cenv) (fun y s₅ => Kp s₄ s₅ ∧ (kd Rk.2).p (hideAll s₅.heap F.hid) y) (fun _ _ => False) s₄) (fun _ _ => False) s₃) (fun _ _ => False) s := by
  (refine ob0_2 t fun t1 t2 => ?_; try clear t)
  have two : ∀ s3, Kp s s3 → ∀ Rk, b = some Rk → wpAny (model PR w) A (eval kx cenv) (fun key s₄ => Kp s3 s₄ ∧ (kd (enc Rk.1)).p (hideAll s₄.heap F.hid) key ∧ wpAny (model PR w) A (eval vx cenv) (fun y s₅ => Kp s₄ s₅ ∧ (kd Rk.2).p (hideAll s₅.heap F.hid) y) (fun _ _ => False) s₄) (fun _ _ => False) s3 :=
    fun s3 k3 Rk e => ((t2 Rk e).1 s3 (st.grow k3)).use fun key s4 k4 p4 => ⟨k4, p4, (t2 Rk e).2 s4 ((st.grow k3).grow k4)⟩
  match ifs, t1 with
  | [], t1 => exact wpAny_tests_nil ⟨t1.symm, .rfl', two s .rfl'⟩
  | [c], t1 => exact wpAny_tests_one ((t1 s st).use fun ok s3 k3 p3 => ⟨p3, k3, two s3 k3⟩)
section
variable {w : World} {A : Around} {F : Fm} {K : Heap} {env : Env} {P : KP Value} {Ps : List (KP Value)} {K0 : Type} [DecidableEq K0] {knd : PySem.KeyKind PR w K0} {enc : K0 → PyData} {bs : List (Option (K0 × PyData))} {kx vx iter : PySem.Expr} {x : Str} {px pos : Pos} {ifs : List PySem.Expr} {scope : Scope} {cl : List (Str × Addr)}
theorem ev_compD (Ek : KeyE knd enc) (hnd : ((bs.filterMap id).map (·.1)).Nodup) (src : Ev w A F K env iter P) (it : Iter w P Ps) (hA : A.handled = none) (hlen : bs.length = Ps.length) (hz : Ps.length ≤ 10000)
    (hclos : closureFor scope env = pure cl) (hcell : ∀ y ∈ scope.names, y.2 ≠ .cell) (hkind : scope.kind = .function)
    (hnames : ∀ y ∈ scope.names, y.2 = .local → scope.names.lookup y.1 = some .local) (hx : scope.names.lookup x = some .local)
    (turn : ∀ (i : Nat) (Pk : KP Value) (b : Option (K0 × PyData)), Ps[i]? = some Pk → bs[i]? = some b → ∀ C D wr m₃ v K1, m₃ x = some v → Sub K K1 → Pk.p K1 v → CompTurnD enc w A ⟨F.s0, F.B, D :: (wr ++ F.L :: F.H), C, m₃, F.mu⟩ K1 (compEnvC scope cl C env) ifs kx vx b)
    (hs : ∀ x, foldedSetIterable iter env x = pure x := by intro _; rfl) : Ev w A F K env (.DictComp kx vx [⟨.Name x px, iter, ifs, 0⟩] scope pos) (kdct knd (bs.filterMap id)) := fun s st => by
  rw [arm_eval_DictComp]
  refine wpAny_comprehension_free (use := none) rfl hs hclos hkind hnames ((src s st).use fun xv s₁ k₁ p₁ => ?_)
  have st1 := st.up k₁
  refine it A s₁ xv F.hid _ _ hA st1.gh st1.lives p₁ fun I fp wr n Pi Stt h2 tk2 W hn hst k2 hwr hfp hlv hPi => ?_
  refine wpAny_newObj_type (wpAny_newFunctionEnv hcell (by intro y hy; simp at hy) (fun h₁ hns₁ hsb₁ => ?_) hkind)
  dsimp only at hns₁ hsb₁ ⊢
  have hnew : (h2.push { cls := .type "dict", dict := none, data := .dict #[] }).DictOf knd h2.objs.size [] := Heap.DictOf.new h2
  generalize hH2 : h2.push { cls := .type "dict", dict := none, data := .dict #[] } = H2 at hns₁ hsb₁ hnew ⊢
  have hC : H2.objs.size = h2.objs.size + 1 := by rw [← hH2, Heap.size_push]
  have lt : ∀ b o, h2.get? b = some o → b ≠ H2.objs.size ∧ b ≠ h2.objs.size := fun b o q => by
    have := Heap.lt_size q
    rw [hC]
    exact ⟨Nat.ne_of_lt (Nat.lt_succ_of_lt this), Nat.ne_of_lt this⟩
  have hDC : h2.objs.size ≠ H2.objs.size := by rw [hC]; exact Nat.ne_of_lt (Nat.lt_succ_self _)
  have old : ∀ b o, h2.get? b = some o → h₁.get? b = some o := fun b o e => hsb₁.extBut b o (lt b o e).1 (Heap.get?_push_of_some _ (hH2 ▸ Heap.get?_push_of_some _ e))
  have hacc : h₁.DictOf knd h2.objs.size [] := hnew.at fun o e => hsb₁.extBut _ _ hDC (Heap.get?_push_of_some _ e)
  have hst₁ : Stt 0 h₁ := W.frame _ _ _ hst fun b _ o e => old b o e
  have fpn : ∀ b ∈ fp, b ≠ H2.objs.size ∧ b ≠ h2.objs.size := fun b hb => by obtain ⟨o, q⟩ := hfp b hb; exact lt b o q
  have none1 : ∀ b, h2.objs.size ≤ b → s₁.heap.get? b = none := fun b hb => by
    cases q : s₁.heap.get? b with
    | none => rfl
    | some o => exact absurd (Heap.lt_size (k2 _ _ q)) (Nat.not_lt.mpr hb)
  have hD1 : s₁.heap.get? h2.objs.size = none := none1 _ (Nat.le_refl _)
  have hC1 : s₁.heap.get? H2.objs.size = none := none1 _ (by rw [hC]; exact Nat.le_succ _)
  have subF : ∀ (Kx : Heap), Sub Kx s₁.heap → ∀ {b}, s₁.heap.get? b = none → Kx.get? b = none := fun Kx hK b q => by
    cases z : Kx.get? b with
    | none => rfl
    | some o => rw [hK _ _ z] at q; exact nos' q
  have tost : ∀ (h3 : Heap) (tk3 : Nat) (m₃ : Str → Option Value) (i : Nat), Stt i h3 → h3.Ns H2.objs.size m₃ → (∃ o, h3.get? h2.objs.size = some o) → (∀ b o, b ≠ H2.objs.size → b ∉ wr → b ≠ h2.objs.size → h₁.get? b = some o → h3.get? b = some o) →
      St w ⟨F.s0, F.B, h2.objs.size :: (wr ++ F.L :: F.H), H2.objs.size, m₃, F.mu⟩ (hideAll s₁.heap F.hid) { s₁ with heap := h3, toks := tk3 } := fun h3 tk3 m₃ i hi3 hn3 hD3 hk3 => by
    have k3 : Sub s₁.heap h3 := fun b o q => hk3 b o (fun z => by rw [z, hC1] at q; exact nos q) (fun z => by rw [hwr b z] at q; exact nos q) (fun z => by rw [z, hD1] at q; exact nos q) (old b o (k2 b o q))
    refine ⟨st.g, st1.rl.trans ⟨_, _, rfl⟩, st1.base.trans k3, hide_sub.trans k3, hn3, fun q hq => k3 _ _ (st1.mus q hq), fun b hb => ?_, fun b hb => ?_, subF F.B st1.base hC1, st.bmu, fun q hq e => ?_, st.mnd⟩
    · rcases List.mem_cons.mp hb with rfl | hb
      · exact hD3
      rcases List.mem_append.mp hb with hb | hb
      · exact hlv i h3 hi3 b hb
      · obtain ⟨o, q⟩ := st1.lives b (by
          rcases List.mem_cons.mp hb with rfl | hb
          · exact .head _
          · exact .tail _ (List.mem_append_right _ hb))
        exact ⟨o, k3 _ _ q⟩
    · have hid1 : ∀ {b}, b ∈ F.hid → (hideAll s₁.heap F.hid).get? b = none := fun h => hideAll_none _ h
      rcases List.mem_cons.mp hb with rfl | hb
      · exact subF _ hide_sub hC1
      rcases List.mem_append.mp hb with hb | hb
      · exact hid1 (.tail _ (List.mem_append_left _ hb))
      rcases List.mem_cons.mp hb with rfl | hb
      · exact subF _ hide_sub hD1
      rcases List.mem_append.mp hb with hb | hb
      · exact subF _ hide_sub (hwr b hb)
      rcases List.mem_cons.mp hb with rfl | hb
      · exact hid1 (.head _)
      · exact hid1 (.tail _ (List.mem_append_right _ hb))
    · have := st1.mus q hq
      rw [e] at this
      change s₁.heap.get? H2.objs.size = some _ at this
      rw [hC1] at this; exact nos this
  have loop : ∀ s₃ : Shared, s₃ = { s₁ with heap := h₁, toks := tk2 + ([] : List (Str × Value)).length } →
      codeAny (model PR w) A (.compLoop (.DictComp kx vx [⟨.Name x px, iter, ifs, 0⟩] scope pos) 0 (.ref I) (.ref h2.objs.size) (compEnvC scope cl H2.objs.size env))
        (compPost (model PR w) A (fun _ _ => False) none (fun a s' => Kp s s' ∧ (kdct knd (bs.filterMap id)).p (hideAll s'.heap F.hid) a) (.ref h2.objs.size) H2.objs.size) s₃ := by
    rintro s₃ rfl
    refine comp_loopD (cenv := compEnvC scope cl H2.objs.size env) W Ek bs (H2.objs.size :: (F.mu.map (·.1) ++ (h2.objs.size :: (wr ++ F.L :: F.H)))) (by rw [hn, hlen]) (.head _) (.tail _ (List.mem_append_right _ (.head _)))
      (fun b hb => .tail _ (List.mem_append_right _ (.tail _ (List.mem_append_left _ hb)))) (lookup_relabel_local hx) (by simp [compEnvC, relabel, hkind]) hDC (fun hm => (fpn _ hm).2 rfl) (fun hm => (fpn _ hm).1 rfl) hst₁ hacc hns₁
      (fun i v h3 tk3 m₃ hin hPv hst3 hn3 hm3 hD3 hk3 => ?_) (fun h' tk m' ps hn' hpl hall hk => ?_) (by rw [hn, sizeLine_eq]; omega)
    · (refine ob1_2 (hPi i v hin hPv) fun Pk hPk hpk => ?_)
      have hib : i < bs.length := by rw [hlen]; exact (List.getElem?_eq_some_iff.mp hPk).1
      refine mk1_2 (bs[i]) (List.getElem?_eq_getElem hib) ?_
      have t := turn i Pk bs[i] hPk (List.getElem?_eq_getElem hib) H2.objs.size h2.objs.size wr m₃ v (hideAll s₁.heap F.hid) hm3 (st.in.trans (sub_hide k₁.sub)) hpk
      exact comp_turnD t (tost h3 tk3 m₃ (i + 1) hst3 hn3 hD3 hk3)
    · refine mk1_2 m' hn' (fun h'' sb => ?_)
      have kk : Sub s₁.heap h'' := fun b o q => sb.extBut b o (fun z => by rw [z] at q; exact absurd (q.symm.trans hC1) (by simp)) (hk b o (fun z => by rw [z] at q; exact absurd (q.symm.trans hC1) (by simp)) (fun z => by rw [hwr b z] at q; exact nos q) (fun z => by rw [z, hD1] at q; exact nos q) (old b o (k2 b o q)))
      have hDn : h2.objs.size ∉ F.hid := fun hm => by
        (refine ob1_1 (st1.lives _ hm) fun o q => ?_)
        rw [hD1] at q; exact nos q
      have kn : Sub (hideAll h' (H2.objs.size :: (F.mu.map (·.1) ++ (h2.objs.size :: (wr ++ F.L :: F.H))))) (hideAll h'' F.hid) := fun b o q => by
        have hb := hide_notin q
        refine hideAll_get _ (sb.extBut b o (fun z => hb (z ▸ .head _)) (hide_sub _ _ q)) fun hm => hb ?_
        rcases List.mem_cons.mp hm with rfl | hm
        · exact .tail _ (List.mem_append_right _ (.tail _ (List.mem_append_right _ (.head _))))
        rcases List.mem_append.mp hm with hm | hm
        · exact .tail _ (List.mem_append_left _ hm)
        · exact .tail _ (List.mem_append_right _ (.tail _ (List.mem_append_right _ (.tail _ hm))))
      have hps : (ps.map (·.1)) = (bs.filterMap id).map (·.1) := by
        have : ∀ {l : List (K0 × PyData)} {ps : List (K0 × Value)} {hh : Heap}, All2 (KvIs hh) l ps → ps.map (·.1) = l.map (·.1) := by
          intro l ps hh q
          induction q with
          | nil => rfl
          | cons h _ ih => rw [List.map_cons, List.map_cons, ih, h.1]
        exact this hall
      rw [merged_nil_of_nodup ps (by rw [hps]; exact hnd)] at hpl
      (refine ob3_2 (hpl.extBut sb.extBut hDC) fun o es ep ho r => ?_)
      refine ⟨k₁.trans' ⟨h'', _, rfl, kk⟩, h2.objs.size, ps, rfl, ?_, ⟨o, es, ep, hideAll_get _ ho hDn, r⟩, hall.imp fun _ _ y => y.mono kn⟩
      obtain ⟨X, p, loose, mg, mb, T⟩ := st1.gh
      exact beq_eq_false_iff_ne.mpr (Nat.ne_of_gt (modules_low (T.nolimit.keeps k2)))
  exact codeAny_compStart_dict (loop _ rfl) (W.self 0 _ _ _ hst₁ (loop _ rfl))
end
section
variable {w : World} {A : Around} {F : Fm} {K : Heap} {env : Env} {P R : KP Value} {Ps : List (KP Value)} {e : PySem.Expr} {pos : Pos} {K0 : Type} [DecidableEq K0] {knd : PySem.KeyKind PR w K0} {enc : K0 → PyData} {kvs : List (K0 × PyData)}
theorem ev_dict0 (knd : PySem.KeyKind PR w K0) : Ev w A F K env (.Dict [] [] pos) (kdct knd []) := fun s st => by
  rw [eval_Dict_empty]
  refine Op.stand (wpAny_newObj_type (hd := by simp only [PySem.sizeOk, sizeLine_eq]; first | omega | trivial | simp) ⟨keeps_push, s.heap.objs.size, [], rfl, ?_, ?_, .nil⟩)
  · obtain ⟨X, p, loose, mg, mb, T⟩ := st.gh
    exact beq_eq_false_iff_ne.mpr (Nat.ne_of_gt (modules_low T.nolimit))
  · (refine ob3_2 (Heap.DictOf.new (knd := knd) s.heap) fun o es ep ho r => ?_)
    exact mk3_2 o es ep (hideAll_get _ ho (live_ne st.lives)) r
theorem ev_lstP {es : List PySem.Expr} (x : Evs w A F K env es Ps) (hz : Ps.length ≤ 10000) : Ev w A F K env (.List es pos) (kPl Ps) := fun s st => by
  show Op w A F.hid s (standAt pos >>= fun _ => spliced (backTo pos (starEach es env)) >>= fun vs => newList vs) _
  refine Op.stand ((x pos s st).bind fun vs s1 k1 p1 => ?_)
  refine wpAny_newList ⟨keeps_push, s1.heap.objs.size, vs.toArray, 0, rfl, push_known (st.grow k1).lives, by simpa using p1.imp fun P _ y => P.mono push_sub y⟩ ?_
  have := All2.length p1
  rw [sizeLine_eq]; omega
theorem ev_neg {a : Int} (x : Ev w A F K env e (kd (.int a))) : Ev w A F K env (.UnaryOp .USub e pos) (kd (.int (-a))) := fun s st =>
  wpAny_UnaryOp ((x s st).use fun v s1 k1 p1 => by
    (refine ob1_1 (kd_int p1) fun t e_167 => ?_; subst e_167)
    exact neg_int ⟨k1.trans' keeps_tok, is_int⟩)
theorem on_tuple_list (hz : Ps.length ≤ 100000) : On w A (.type "tuple") [kLst Ps] (kTup Ps) := by
  intro s vs H g l hv
  (refine all2_1 hv fun _ e_170 o_168 => ?_; clear hv; subst e_170; (refine ob4_5 o_168 fun a o vs n e_169 ha hc hd q => ?_; try clear o_168; subst e_169))
  have e : vs.size = Ps.length := by rw [← Array.length_toList]; exact q.length.symm
  refine call_tuple_list ⟨o, hide_sub _ _ ha, hc, n, hd⟩ (fun h' hk => ?_) (by rw [e, sizeLine_eq]; omega)
  have l' : Live H h' := l.mono hk
  have ll : Live H ({ s with heap := h' } : Shared).heap := l'
  exact ⟨⟨_, _, rfl, fun b o q => Heap.get?_push_of_some _ (hk b o q)⟩, h'.objs.size, _, vs, 0, rfl, push_known (s := { s with heap := h' }) ll, rfl, rfl, q.imp fun P _ y => P.mono (sub_hide fun b o q => Heap.get?_push_of_some _ (hk b o q)) y⟩
theorem on_list_seq {T : String} (hT : T = "list" ∨ T = "tuple") (hz : Ps.length ≤ 100000) : On w A (.type "list") [kSeq T Ps] (kPl Ps) := by
  intro s vs H g l hv
  (refine all2_1 hv fun _ e_173 o_171 => ?_; clear hv; subst e_173; (refine ob4_5 o_171 fun a o vs n e_172 ha hc hd q => ?_; try clear o_171; subst e_172))
  have e : vs.size = Ps.length := by rw [← Array.length_toList]; exact q.length.symm
  refine call_list_seq a hT (hide_sub _ _ ha) hc hd (fun h' c' hk hn => ?_) (by rw [e, sizeLine_eq]; omega)
  exact ⟨⟨h', s.toks, rfl, hk⟩, s.heap.objs.size, vs, c', rfl, hideAll_get _ hn (live_ne l), q.imp fun P _ y => P.mono (sub_hide hk) y⟩
theorem mul_heap {E : Value → Shared → Prop} {s : Shared} {l : Addr} {items : Array Value} {k : Nat} {x : Int} {u : Tok} {Q : Value → Shared → Prop}
    (hl : s.heap.get? l = some { cls := .type "list", dict := none, data := .seq items k, slots := #[] })
    (hlo : -(2 ^ 63 : Int) ≤ x) (hhi : x < 2 ^ 63) (hsz : items.size * x.toNat ≤ 2 ^ 24)
    (h : Q (.ref s.heap.objs.size) { s with heap := s.heap.push { cls := .type "list", data := .seq (List.foldl (fun x1 x2 => x1 ++ x2) #[] (List.replicate (if items.isEmpty = true then 0 else x.toNat) items)) } }) : wpAny (model PR w) A (binaryOp .Mult (.ref l) (.int x u)) Q E s :=
  wpAny_binaryOp_repeat_ref (T := "list") (U := "int") (by decide) ⟨_, hl, rfl⟩ (fun s' => typeIs_int s' x u) noFill_list_mul PySem.F.fills_int_mul PySem.F.slot_int_rmul repeat_list PySem.F.slot_int_index.lookup
    (call_meets PySem.F.slot_int_rmul (typeIs_int s x u) PySem.F.entry_int_rmul (PySem.F.args_int_rmul_2 _ _) (int___rmul___int_list x u l items k)
      ⟨hl, rfl, ⟨_, hl, rfl⟩, call_meets PySem.F.slot_list_mul ⟨_, hl, rfl⟩ PySem.F.entry_list_mul (PySem.F.args_list_mul_2 _ _)
        (AutoListH.list___mul___list_int_3 l items k x u (by simp [Builtin.List.listFitsIndex]; omega) (by omega) (by simp [Builtin.List.listTooLong, sizeLine]; omega))
        ⟨hl, h⟩⟩)
theorem rep_all {R : KP Value → Value → Prop} {Ps : List (KP Value)} {vs : Array Value} (q : All2 R Ps vs.toList) : ∀ (n : Nat) (Qs : List (KP Value)) (us : Array Value), All2 R Qs us.toList →
    All2 R (Qs ++ (List.replicate n Ps).flatten) (List.foldl (fun x1 x2 => x1 ++ x2) us (List.replicate n vs)).toList
  | 0, Qs, us, h => by simpa using h
  | n + 1, Qs, us, h => by
    rw [List.replicate_succ, List.replicate_succ, List.foldl_cons, List.flatten_cons, ← List.append_assoc]
    exact rep_all q n (Qs ++ Ps) (us ++ vs) (by rw [Array.toList_append]; exact h.append q)
theorem op_mulL {n : Nat} (hz : Ps.length * n ≤ 10000) (hn : n ≤ 10000) (hne : Ps.length ≠ 0) : O2 w A (binaryOp .Mult) (kPl Ps) (kd (.int (n : Nat))) (kPl (List.replicate n Ps).flatten) := by
  (intro s v u H g l o_174 hu; (refine ob3_3 o_174 fun a vs k e_175 ha q => ?_; try clear o_174; subst e_175))
  (refine ob1_1 (kd_int hu) fun t e_176 => ?_; subst e_176)
  have e : vs.size = Ps.length := by rw [← Array.length_toList]; exact q.length.symm
  have hemp : vs.isEmpty = false := by
    cases z : vs.isEmpty with
    | false => rfl
    | true => rw [Array.isEmpty_iff_size_eq_zero] at z; omega
  refine mul_heap (hide_sub _ _ ha) (by omega) (by omega) ?_ ⟨keeps_push, s.heap.objs.size, _, 0, rfl, push_known l, ?_⟩
  · rw [e, Int.toNat_natCast]
    exact Nat.le_trans hz (by decide)
  · rw [hemp, if_neg (by decide), Int.toNat_natCast]
    have := rep_all (R := fun (P : KP Value) v => P.p (hideAll (s.heap.push { cls := .type "list", data := .seq (List.foldl (fun x1 x2 => x1 ++ x2) #[] (List.replicate (if vs.isEmpty = true then 0 else (n : Int).toNat) vs)) }) H) v) (q.imp fun P _ y => P.mono push_sub y) n [] #[] .nil
    rw [hemp, if_neg (by decide), Int.toNat_natCast] at this
    simpa using this
theorem gm_get {pl : Sem Bool} : O1 w A (fun v => getMethod v "get" pl) (kdct knd kvs) (kMeth (.builtin "dict.get") (kdct knd kvs)) := by
  (intro s v H g l o_177; (refine ob2_4 o_177 fun a vs e_178 lo hd q => ?_; try clear o_177; subst e_178))
  have hD := hd.keep (h' := s.heap) hide_sub
  exact getMethod_builtin hD.typeIs PySem.F.plainAttrs_dict PySem.F.slot_dict_get PySem.F.type_dict_get hD.mapOf.noDict ⟨.rfl', rfl, _, rfl, a, vs, rfl, lo, hd, q⟩
theorem on_get {k : K0} {d e : PyData} (E : KeyE knd enc) (hd : dget kvs k = some d ∨ (dget kvs k = none ∧ e = d)) : On w A (.builtin "dict.get") [kdct knd kvs, kd (enc k), kd e] (kd d) := by
  intro s vs H g l hv
  (refine all2_3 hv fun _ _ _ e_181 o_179 h2 h3 => ?_; clear hv; subst e_181; (refine ob2_4 o_179 fun a vs e_180 lo hD q => ?_; try clear o_179; subst e_180))
  have hD' := hD.keep (h' := s.heap) hide_sub
  refine call_meetsIn PySem.F.slot_dict_get hD'.typeIs PySem.F.entry_dict_get (PySem.F.args_dict_get_3 _ _ _) (meets_dict_get_default knd a (E.is h2) lo _) ⟨_, hD'.mapOf, ?_⟩
  rcases hd with hd | ⟨hd, rfl⟩
  · (refine ob1_2 (dget_some q hd) fun x hx hp => ?_)
    rw [hx]; exact ⟨keeps_tok, hp⟩
  · rw [dget_none q hd]; exact ⟨keeps_tok, h3⟩
theorem gm_own {C f : Addr} {fs : List (Str × KP Value)} {name : Str} {pl : Sem Bool} (hg : plainGet (Mine.hd.heap_39 w.params) C name = true) (hf : findIn (Mine.hd.heap_39 w.params) (.ref C) name = some (some (.ref f))) (ht : isFn (Mine.hd.heap_39 w.params) (.ref f) = true)
    (hn : fs.lookup name = none) : O1 w A (fun v => getMethod v name pl) (kInst C fs) (kMeth (.ref f) (kInst C fs)) := by
  (intro s v H g l o_182; (refine ob4_4 o_182 fun x dx es n e_183 hx hdx q => ?_; try clear o_182; subst e_183))
  (refine ob0_2 (getL_none q hn) fun g1 g2 => ?_)
  have gl : getL name es = some none := by unfold getL; rw [g1, g2]; rfl
  exact method_fn g.X (⟨hide_sub _ _ hx, rfl, rfl, hide_sub _ _ hdx⟩ : InstAt s.heap x (instObj C dx) C (some (dictOf es n))) (plainGet_of hg).1 (plainGet_of hg).2 hf (beq_iff_eq.mp ht) (by show (lookIn name (dictOf es n)).map _ = _; rw [lookIn_dict, gl]; rfl)
    ⟨.rfl', rfl, _, rfl, x, dx, es, n, rfl, hx, hdx, q⟩
end
abbrev iI (C : List (Int × Int)) : List (Int × PyData) := C.map fun p => (p.1, PyData.int p.2)
def kCm (w : World) (C : List (Int × Int)) : KP Value := kInst 192 [("codes", kid w (iI C)), ("variations", kd .none)]
def kFont (w : World) (C : List (Int × Int)) : KP Value := kInst 226 [("charmap", kCm w C), ("metrics", kRef), ("gdef", kRef), ("gsub", kd .none), ("gpos", kd .none), ("kern", kRef)]
theorem toRef {P : KP Value} {w : World} {A : Around} {F : Fm} {K : Heap} {env : Env} {e : PySem.Expr} (x : Ev w A F K env e P) (h : ∀ h v, P.p h v → ∃ a, v = .ref a) : Ev w A F K env e kRef := x.weak h
theorem ref_inst {C : Addr} {fs : List (Str × KP Value)} : ∀ h v, (kInst C fs).p h v → ∃ a, v = .ref a := fun h v x_ => ob4_2 x_ fun x dx es n e _ => ⟨x, e⟩
theorem ref_dct {K : Type} [DecidableEq K] {w : World} {knd : PySem.KeyKind PR w K} {kvs : List (K × PyData)} : ∀ h v, (kdct knd kvs).p h v → ∃ a, v = .ref a := fun h v x_ => ob2_2 x_ fun a vs e _ => ⟨a, e⟩
theorem eqv_int (a b : Int) : PyData.eqv (.int a) (.int b) = (a == b) := by simp [PyData.eqv]
theorem op_neI {w : World} {A : Around} {a b : Int} : O2 w A (compareOp .NotEq) (kd (.int a)) (kd (.int b)) (kd (.bool (a != b))) := by
  intro s v u H g l hv hu
  (refine ob1_1 (kd_int hv) fun t e_184 => ?_; subst e_184)
  (refine ob1_1 (kd_int hu) fun t' e_185 => ?_; subst e_185)
  exact PyProof.Rows.ne_int ⟨.rfl', is_bool⟩
theorem op_eqI {w : World} {A : Around} {a b : Int} : O2 w A (compareOp .Eq) (kd (.int a)) (kd (.int b)) (kd (.bool (a == b))) := by
  intro s v u H g l hv hu
  (refine ob1_1 (kd_int hv) fun t e_186 => ?_; subst e_186)
  (refine ob1_1 (kd_int hu) fun t' e_187 => ?_; subst e_187)
  exact PyProof.Rows.eq_int ⟨.rfl', is_bool⟩
theorem cm_init {w : World} {C : List (Int × Int)} (hn : (C.map (·.1)).Nodup) (hnz : ∀ p ∈ C, p.2 ≠ 0) (hz : C.length ≤ 1000) : InitOk w 890 170 192 [kid w (iI C)] [("codes", kid w (iI C)), ("variations", kd .none)] := by
  intro s x dx vs H B g hB hdx l hd hx hv
  (refine all2_1 hv fun v1 e_188 h1 => ?_; clear hv; subst e_188)
  have X := (g.mono hB).X
  k_dflt (refine' init_enter (binds := [("self", .ref x), ("codes", v1), ("variations", .none)]) g hB hdx l hd ?k6 ?k7 ?k8 ?k9 ?kB ?kD ?_ ?c2 ?c3 ?c4; walk_at "E fn")
  intro L cells l1 Y q0
  k_cells Y
  have nn : ∀ {h : Heap}, (kd PyData.none).p h Value.none := is_none
  refine' run_setattr (P := kid w (iI C)) ?ev ?self ?K ?mu ?q ?n ?h1 ?h2 ?h3 ?h4 ?z ?_ rfl rfl rfl (by decide) rfl
  case self => rfl
  case K => assumption
  case mu => rfl
  case q => assumption
  case n => rfl
  case h1 | h2 | h3 | h4 => k_is
  case z => exact of_decide_eq_true rfl
  case ev =>
    have e : iI C = (C.map fun p => some (p.1, PyData.int p.2)).filterMap id := by rw [filterMap_map]; simp
    rw [e]
    have it : Iter w (kid w (iI C)) (C.map fun p => kd (.int p.1)) := by
      have := iter_dict (w := w) (kvs := iI C) keyI
      rw [List.map_map] at this
      exact this
    refine ev_compD keyI ?_ (by walk_at "E ev") it rfl (by simp) (by simp; omega) (by rfl) (by decide) rfl (by decide) (by rfl) (fun i Pk b hP hb C' D wr m₃ v K1 hm S hv => ?_) (fun _ => rfl)
    · rw [← e, List.map_map]; exact hn
    rw [List.getElem?_map] at hP hb
    cases ee : C[i]? with
    | none => rw [ee] at hP; exact nos hP
    | some p =>
      rw [ee] at hP hb
      obtain rfl := Option.some.inj hP; obtain rfl := Option.some.inj hb
      have hp := List.mem_of_getElem? ee
      have hg : dget (iI C) p.1 = some (.int p.2) := dget_mem (by rw [List.map_map]; exact hn) (List.mem_map.mpr ⟨p, hp, rfl⟩)
      refine ⟨?_, fun R e2 => ?_⟩
      · have hb : (p.2 != 0) = true := by simpa using hnz p hp
        show Tr _ _ _ _ _ _ true
        rw [← hb]
        exact tr_cmp (ev_sub (by walk_at "E ev") (by walk_at "E ev") (sub_dict keyI hg (fun _ _ => rfl))) ev_int op_neI
      · obtain rfl := Option.some.inj e2
        exact ⟨by walk_at "E ev", ev_sub (by walk_at "E ev") (by walk_at "E ev") (sub_dict keyI hg (fun _ _ => rfl))⟩
  intro K' v' es' S' p' q'
  dsimp only [List.nil_append, List.cons_append]
  refine' run_setattr (P := kd .none) (pre := [(L + 1, _)]) (post := []) ?ev ?self ?K ?mu ?q ?n ?h1 ?h2 ?h3 ?h4 ?z ?_ rfl rfl rfl (by decide) rfl
  case self => rfl
  case K => walk_at "E get"
  case mu => rfl
  case q => assumption
  case n => rfl
  case h1 | h2 | h3 | h4 => k_is
  case z => exact of_decide_eq_true rfl
  case ev => exact ev_local rfl is_none
  intro K' v' es' S' p' q'
  walk_at "E initend"
theorem cm_new {w : World} {C : List (Int × Int)} (hn : (C.map (·.1)).Nodup) (hnz : ∀ p ∈ C, p.2 ≠ 0) (hz : C.length ≤ 1000) : On w (Al 880 880) (.ref 192) [kid w (iI C)] (kCm w C) := on_class (cm_init hn hnz hz) (by decide) (by k_is) (by k_is) (by k_is)
theorem font_init {w : World} {P1 P2 P3 P4 P5 P6 : KP Value} : InitOk w 890 210 226 [P1, P2, P3, P4, P5, P6] [("charmap", P1), ("metrics", P2), ("gdef", P3), ("gsub", P4), ("gpos", P5), ("kern", P6)] := by
  intro s x dx vs H B g hB hdx l hd hx hv
  (refine all2_6 hv fun v1 v2 v3 v4 v5 v6 e_189 h1 h2 h3 h4 h5 h6 => ?_; clear hv; subst e_189)
  k_dflt (refine' init_enter (binds := [("self", .ref x), ("charmap", v1), ("metrics", v2), ("gdef", v3), ("gsub", v4), ("gpos", v5), ("kern", v6)]) g hB hdx l hd ?k6 ?k7 ?k8 ?k9 ?kB ?kD ?_ ?c2 ?c3 ?c4; walk_at "E fn")
  intro L cells l1 Y q0
  have hY : cells = [] := cells_none Y
  subst hY
  rw [List.nil_append]
  walk_at "E set"
  walk_at "E set"
  walk_at "E set"
  walk_at "E set"
  walk_at "E set"
  walk_at "E set"
  walk_at "E initend"
theorem cd_init {w : World} {P1 : KP Value} : InitOk w 890 251 280 [P1] [("classes", P1)] := by
  intro s x dx vs H B g hB hdx l hd hx hv
  (refine all2_1 hv fun v1 e_190 h1 => ?_; clear hv; subst e_190)
  k_dflt (refine' init_enter (binds := [("self", .ref x), ("classes", v1)]) g hB hdx l hd ?k6 ?k7 ?k8 ?k9 ?kB ?kD ?_ ?c2 ?c3 ?c4; walk_at "E fn")
  intro L cells l1 Y q0
  have hY : cells = [] := cells_none Y
  subst hY
  rw [List.nil_append]
  walk_at "E set"
  walk_at "E initend"
theorem gdef_init {w : World} {P1 P2 P3 : KP Value} : InitOk w 890 299 328 [P1, P2, P3] [("classes", P1), ("attach", P2), ("sets", P3), ("points", kRef), ("carets", kRef)] := by
  intro s x dx vs H B g hB hdx l hd hx hv
  (refine all2_3 hv fun v1 v2 v3 e_191 h1 h2 h3 => ?_; clear hv; subst e_191)
  have X := (g.mono hB).X
  k_dflt (refine' init_enter (binds := [("self", .ref x), ("classes", v1), ("attach", v2), ("sets", v3), ("points", .none), ("carets", .none)]) g hB hdx l hd ?k6 ?k7 ?k8 ?k9 ?kB ?kD ?_ ?c2 ?c3 ?c4; walk_at "E fn")
  intro L cells l1 Y q0
  have hY : cells = [] := cells_none Y
  subst hY
  rw [List.nil_append]
  have nn : ∀ {h : Heap}, (kd PyData.none).p h Value.none := is_none
  walk_at "E set"
  walk_at "E set"
  walk_at "E set"
  refine' run_setattr (P := kRef) ?ev ?self ?K ?mu ?q ?n ?h1 ?h2 ?h3 ?h4 ?z ?_ rfl rfl rfl (by decide) rfl
  case self => rfl
  case K => walk_at "E get"
  case mu => exact (List.nil_append _).symm
  case q => assumption
  case n => rfl
  case h1 | h2 | h3 | h4 => k_is
  case z => exact of_decide_eq_true rfl
  case ev =>
    exact ev_ite (b := true) (tr_cmp (ev_local rfl is_none) ev_none (op_is pn_none)) (fun _ => toRef (ev_dict0 (strKind PR w)) ref_dct) nob'
  intro K' v' es' S' p' q'
  dsimp only [List.nil_append, List.cons_append]
  refine' run_setattr (P := kRef) ?ev ?self ?K ?mu ?q ?n ?h1 ?h2 ?h3 ?h4 ?z ?_ rfl rfl rfl (by decide) rfl
  case self => rfl
  case K => walk_at "E get"
  case mu => exact (List.nil_append _).symm
  case q => assumption
  case n => rfl
  case h1 | h2 | h3 | h4 => k_is
  case z => exact of_decide_eq_true rfl
  case ev =>
    exact ev_ite (b := true) (tr_cmp (ev_local rfl is_none) ev_none (op_is pn_none)) (fun _ => toRef (ev_dict0 (strKind PR w)) ref_dct) nob'
  intro K' v' es' S' p' q'
  dsimp only [List.nil_append, List.cons_append]
  walk_at "E initend"
theorem metrics_init {w : World} {P1 P2 P3 : KP Value} {Ps Qs : List (KP Value)} (h1 : Ps.length ≤ 1000) (h2 : Qs.length ≤ 1000) : InitOk w 890 353 370 [P1, P2, P3, kLst Ps, kLst Qs] [("units", P1), ("ascent", P2), ("descent", P3), ("advances", kTup Ps), ("bearings", kTup Qs)] := by
  intro s x dx vs H B g hB hdx l hd hx hv
  (refine all2_5 hv fun v1 v2 v3 v4 v5 e_192 g1 g2 g3 g4 g5 => ?_; clear hv; subst e_192)
  k_dflt (refine' init_enter (binds := [("self", .ref x), ("units", v1), ("ascent", v2), ("descent", v3), ("advances", v4), ("bearings", v5)]) g hB hdx l hd ?k6 ?k7 ?k8 ?k9 ?kB ?kD ?_ ?c2 ?c3 ?c4; walk_at "E fn")
  intro L cells l1 Y q0
  have hY : cells = [] := cells_none Y
  subst hY
  rw [List.nil_append]
  walk_at "E set"
  walk_at "E set"
  walk_at "E set"
  refine' run_setattr (P := kTup Ps) ?ev ?self ?K ?mu ?q ?n ?h1 ?h2 ?h3 ?h4 ?z ?_ rfl rfl rfl (by decide) rfl
  case self => rfl
  case K => walk_at "E get"
  case mu => exact (List.nil_append _).symm
  case q => assumption
  case n => rfl
  case h1 | h2 | h3 | h4 => k_is
  case z => exact of_decide_eq_true rfl
  case ev => exact ev_call (by walk_at "E ev") (Evs.cons (by walk_at "E ev") Evs.nil) (on_tuple_list (by omega)) keep_t (.inr ⟨_, _, rfl⟩) rfl rfl
  intro K' v' es' S' p' q'
  dsimp only [List.nil_append, List.cons_append]
  refine' run_setattr (P := kTup Qs) ?ev ?self ?K ?mu ?q ?n ?h1 ?h2 ?h3 ?h4 ?z ?_ rfl rfl rfl (by decide) rfl
  case self => rfl
  case K => walk_at "E get"
  case mu => exact (List.nil_append _).symm
  case q => assumption
  case n => rfl
  case h1 | h2 | h3 | h4 => k_is
  case z => exact of_decide_eq_true rfl
  case ev => exact ev_call (by walk_at "E ev") (Evs.cons (by walk_at "E ev") Evs.nil) (on_tuple_list (by omega)) keep_t (.inr ⟨_, _, rfl⟩) rfl rfl
  intro K' v' es' S' p' q'
  dsimp only [List.nil_append, List.cons_append]
  walk_at "E initend"
theorem no_gdef_spec {w : World} : On w (Al 860 860) (.ref 339) [] kRef := by
  intro s vs H g l hv
  cases hv
  k_dflt (refine' fn_enter (binds := []) g l ?k6 ?k7 ?k8 ?k9 ?kB ?kD ?_ ?c2 ?c3 ?c4; walk_at "E fn")
  intro L cells Y
  have hY : cells = [] := cells_none Y
  subst hY
  refine run_return' rfl (toRef (ev_call (Ps := [kRef, kRef, kLst []]) (by walk_at "E ev") (Evs.cons (toRef (ev_call (by walk_at "E ev") (Evs.cons (ev_dict0 (strKind PR w)) Evs.nil) (on_deeper (on_class cd_init (n := 870) (by decide) (by k_is) (by k_is) (by k_is)) (by decide)) (keep_ref (by k_is)) (.inr ⟨_, _, rfl⟩) rfl rfl) ref_inst) (Evs.cons (toRef (ev_call (by walk_at "E ev") (Evs.cons (ev_dict0 (strKind PR w)) Evs.nil) (on_deeper (on_class cd_init (n := 870) (by decide) (by k_is) (by k_is) (by k_is)) (by decide)) (keep_ref (by k_is)) (.inr ⟨_, _, rfl⟩) rfl rfl) ref_inst) (Evs.cons (by walk_at "E ev") Evs.nil)))
    (on_deeper (on_class gdef_init (n := 870) (by decide) (by k_is) (by k_is) (by k_is)) (by decide)) (keep_ref (by k_is)) (.inr ⟨_, _, rfl⟩) rfl rfl) ref_inst)
theorem glyph_spec {w : World} {C : List (Int × Int)} {c d : Int} (hd : dget (iI C) c = some (.int d) ∨ (dget (iI C) c = none ∧ d = 0)) : On w (Al 860 860) (.ref 177) [kCm w C, kd (.int c)] (kd (.int d)) := by
  intro s vs H g l hv
  (refine all2_2 hv fun v1 v2 e_193 h1 h2 => ?_; clear hv; subst e_193)
  unfold kCm at h1
  k_dflt (refine' fn_enter (binds := [("self", v1), ("code", v2)]) g l ?k6 ?k7 ?k8 ?k9 ?kB ?kD ?_ ?c2 ?c3 ?c4; walk_at "E fn")
  intro L cells Y
  have hY : cells = [] := cells_none Y
  subst hY
  refine run_return' rfl (ev_meth (P₀ := kid w (iI C)) (Ps := [kd (.int c), kd (.int 0)]) (by walk_at "E ev") gm_get (by walk_at "E args") (on_get keyI ?_) keep_b (.inr ⟨_, _, rfl⟩) rfl rfl)
  rcases hd with hd | ⟨hd, rfl⟩
  · exact .inl hd
  · exact .inr ⟨hd, rfl⟩
theorem law_font_spec {w : World} {C : List (Int × Int)} (hn : (C.map (·.1)).Nodup) (hnz : ∀ p ∈ C, p.2 ≠ 0) (hz : C.length ≤ 1000) : On w (Al 850 850) (.ref 418) [kid w (iI C)] (kFont w C) := by
  intro s vs H g l hv
  (refine all2_1 hv fun v1 e_194 h1 => ?_; clear hv; subst e_194)
  k_dflt (refine' fn_enter (binds := [("codes", v1)]) g l ?k6 ?k7 ?k8 ?k9 ?kB ?kD ?_ ?c2 ?c3 ?c4; walk_at "E fn")
  intro L cells Y
  have hY : cells = [] := cells_none Y
  subst hY
  refine run_return' rfl ?_
  refine ev_call (Ps := [kCm w C, kRef, kRef, kd .none, kd .none, kRef]) (by walk_at "E ev") (Evs.cons ?a1 (Evs.cons ?a2 (Evs.cons ?a3 (Evs.cons (by walk_at "E ev") (Evs.cons (by walk_at "E ev") (Evs.cons (toRef (ev_dict0 (strKind PR w)) ref_dct) Evs.nil)))))) (on_deeper (on_class font_init (n := 870) (by decide) (by k_is) (by k_is) (by k_is)) (by decide)) (keep_ref (by k_is)) (.inr ⟨_, _, rfl⟩) rfl rfl
  case a1 => exact ev_call (by walk_at "E ev") (by walk_at "E args") (on_deeper (cm_new hn hnz hz) (by decide)) (keep_ref (by k_is)) (.inr ⟨_, _, rfl⟩) rfl rfl
  case a2 =>
    refine toRef (ev_call (by walk_at "E ev") (Evs.cons (by walk_at "E ev") (Evs.cons (by walk_at "E ev") (Evs.cons (ev_neg (by walk_at "E ev")) (Evs.cons ?b1 (Evs.cons ?b2 Evs.nil))))) (on_deeper (on_class (metrics_init (Ps := (List.replicate 9 [kd (.int 0)]).flatten) (Qs := (List.replicate 9 [kd (.int 0)]).flatten) (of_decide_eq_true rfl) (of_decide_eq_true rfl)) (n := 870) (by decide) (by k_is) (by k_is) (by k_is)) (by decide)) (keep_ref (by k_is)) (.inr ⟨_, _, rfl⟩) rfl rfl) ref_inst
    · exact (ev_bin (ev_lstP (Evs.cons ev_int Evs.nil) (of_decide_eq_true rfl)) ev_int (op_mulL (n := 9) (of_decide_eq_true rfl) (of_decide_eq_true rfl) (of_decide_eq_true rfl))).weak fun _ _ q => pl_lst q
    · exact (ev_bin (ev_lstP (Evs.cons ev_int Evs.nil) (of_decide_eq_true rfl)) ev_int (op_mulL (n := 9) (of_decide_eq_true rfl) (of_decide_eq_true rfl) (of_decide_eq_true rfl))).weak fun _ _ q => pl_lst q
  case a3 => exact ev_call (by walk_at "E ev") (by walk_at "E args") (on_deeper no_gdef_spec (by decide)) (keep_ref (by k_is)) (.inl ⟨rfl, rfl⟩) rfl rfl
section
variable {w : World} {A : Around} {F : Fm} {K : Heap} {env : Env} {P : KP Value} {e : PySem.Expr} {rest : List Stmt} {pos xp : Pos} {x : Str} {R : Flow → Shared → Prop} {E : Value → Shared → Prop} {c : Addr} {o : Obj} {pre post : Led} {v0 : Option Value} {Ps : List (KP Value)}
theorem run_assignC (x' : Ev w A F K env e P) (hmu : F.mu = pre ++ (c, o) :: post) (hd : o.data = .cell v0) (k : ∀ K' v o', Sub K K' → P.p K' v → o'.data = .cell (some v) → Run w A env { F with mu := pre ++ (c, o') :: post } K' rest R E)
    (hc : env.cells.lookup x = some c) (hk : env.scope.kind = .function := by rfl) (hl : env.kindOf x = some .cell := by rfl)
    (hs : swapsWith e (some (.Name x xp)) pos.line env = pure false := by rfl) : Run w A env F K (.Assign [.Name x xp] e pos :: rest) R E := fun s st => by
  refine wpAny_execs_cons (wpAny_Assign_Name ((x' s st).use fun v s1 k1 p1 => ?_) hs)
  have st1 := st.up k1
  refine wpAny_storeName_cell hk hl hc ⟨o, st1.mus _ (by rw [hmu]; exact List.mem_append_right _ (.head _)), hd⟩ (fun h' hn hsb => ?_)
  (refine ob1_2 hn fun o' ho' hd' => ?_; try clear hn)
  exact k _ v o' (st.in.trans (sub_hide k1.sub)) p1 hd' _ (st1.setMu (tk := s1.toks) hmu ho' fun b ob hb q => (hsb.2 b hb).trans q)
theorem sub_lst {i : Nat} {Pk : KP Value} {value slice : PySem.Expr} (hi : Ps[i]? = some Pk) (hz : Ps.length ≤ 100000) (hs : ∀ (o i : Value), subscripted slice false o i = operate [o, i] (getItem o i)) : O2 w A (subscriptTail value slice) (kLst Ps) (kd (.int (i : Nat))) Pk := by
  (intro s v u H g l o_195 hu; (refine ob4_5 o_195 fun a o vs n e_196 ha hc hd q => ?_; try clear o_195; subst e_196))
  (refine ob1_1 (kd_int hu) fun t e_197 => ?_; subst e_197)
  (refine ob1_2 (q.get' hi) fun x hx hp => ?_)
  have hl : s.heap.IsList a vs := ⟨o, hide_sub _ _ ha, hc, n, hd⟩
  have hlt := (List.getElem?_eq_some_iff.mp hi).1
  exact tail_any hl.typeIs slot_list_getitem.lookup (wpAny_getItem_list hl (by omega) (by omega) (by simpa using hx) ⟨.rfl', hp⟩) (hs _ _)
theorem seqIndex_nat {i n : Nat} (h : i < n) : seqIndex? (i : Int) n = some i := by
  unfold seqIndex?
  have h1 : ¬ ((i : Int) < 0) := by omega
  have h2 : (0 : Int) ≤ i := by omega
  have h3 : (i : Int) < (n : Int) := by omega
  simp only [h1, if_false, h2, h3, decide_true, Bool.and_self, if_true, Int.toNat_natCast]
theorem sub_tup {i : Nat} {Pk : KP Value} {value slice : PySem.Expr} (hi : Ps[i]? = some Pk) (hz : Ps.length ≤ 100000) (hs : ∀ (o i : Value), subscripted slice false o i = operate [o, i] (getItem o i)) : O2 w A (subscriptTail value slice) (kTup Ps) (kd (.int (i : Nat))) Pk := by
  (intro s v u H g l o_198 hu; (refine ob4_5 o_198 fun a o vs n e_199 ha hc hd q => ?_; try clear o_198; subst e_199))
  (refine ob1_1 (kd_int hu) fun t e_200 => ?_; subst e_200)
  (refine ob1_2 (q.get' hi) fun x hx hp => ?_)
  have hl : IsTup s.heap a vs := ⟨o, hide_sub _ _ ha, hc, n, hd⟩
  have hlt := (List.getElem?_eq_some_iff.mp hi).1
  have e : Ps.length = vs.size := by rw [← Array.length_toList]; exact q.length
  have hlt : i < vs.size := by omega
  exact tail_any hl.typeIs slot_tuple_getitem.lookup (getItem_tuple (j := i) hl (by omega) (by omega) (seqIndex_nat hlt) (by simpa using hx) ⟨.rfl', hp⟩) (hs _ _)
end
theorem on_len' {w : World} {A : Around} {Ps : List (KP Value)} {n : Nat} (hn : n = Ps.length) (hz : Ps.length ≤ 100000) : On w A (.builtin "len") [kLst Ps] (kd (.int n)) := by
  subst hn; exact on_len hz
theorem fields_weak {h : Heap} {fs fs' : List (Str × KP Value)} {es : List DictEntry} (k : All2 (fun (a b : Str × KP Value) => a.1 = b.1 ∧ ∀ h v, a.2.p h v → b.2.p h v) fs fs') (r : All2 (EntryIs h) fs es) : All2 (EntryIs h) fs' es := by
  induction k generalizing es with
  | nil => exact all2_nil r ▸ .nil
  | cons a k ih =>
    exact all2_1c r fun v us e x r2 => e ▸ .cons ⟨x.1.elim fun t y => ⟨t, by rw [y, a.1]⟩, a.2 _ _ x.2⟩ (ih r2)
theorem inst_weak {C : Addr} {fs fs' : List (Str × KP Value)} (k : All2 (fun (a b : Str × KP Value) => a.1 = b.1 ∧ ∀ h v, a.2.p h v → b.2.p h v) fs fs') (h : Heap) (v : Value) (q : (kInst C fs).p h v) : (kInst C fs').p h v := by
  obtain ⟨x, dx, es, n, rfl, hx, hdx, q⟩ := q
  exact mk4_1 x dx es n ⟨rfl, hx, hdx, fields_weak k q⟩
def look {K V : Type} [DecidableEq K] (l : List (K × V)) (k : K) : Option V := (l.find? fun p => p.1 = k).map (·.2)
theorem dget_map {K V : Type} [DecidableEq K] (f : V → PyData) (k : K) : ∀ (l : List (K × V)), dget (l.map fun p => (p.1, f p.2)) k = (look l k).map f
  | [] => rfl
  | p :: l => by
    unfold dget look
    rw [List.map_cons, List.find?_cons, List.find?_cons]
    by_cases z : p.1 = k
    · simp [z]
    · simp only [z, decide_false]
      exact dget_map f k l
theorem look_mem {K V : Type} [DecidableEq K] {k : K} {d : V} {kvs : List (K × V)} (hn : (kvs.map (·.1)).Nodup) (hm : (k, d) ∈ kvs) : look kvs k = some d := by
  induction kvs with
  | nil => cases hm
  | cons p kvs ih =>
    rw [List.map_cons, List.nodup_cons] at hn
    unfold look
    rw [List.find?_cons]
    rcases List.mem_cons.mp hm with rfl | hm
    · rw [decide_eq_true rfl]; rfl
    · rw [decide_eq_false fun e => hn.1 (by rw [e]; exact List.mem_map.mpr ⟨_, hm, rfl⟩)]
      exact ih hn.2 hm
def placesOf (G : List Int) : List (Int × Int) := (List.range G.length).map fun i => (G.getD i 0, (i : Int))
theorem placesOf_keys (G : List Int) : (placesOf G).map (·.1) = G := by
  unfold placesOf
  rw [List.map_map]
  apply List.ext_getElem
  · simp
  · intro i h1 h2
    have : i < G.length := h2
    simp [this]
def cutN {K : Type} (N : List (K × Int)) (G : List Int) : List (K × Int) := N.filterMap fun p => (look (placesOf G) p.2).map fun i => (p.1, i)
theorem cutN_keys {K : Type} {N : List (K × Int)} {G : List Int} (h : (N.map (·.1)).Nodup) : ((cutN N G).map (·.1)).Nodup := by
  unfold cutN
  induction N with
  | nil => exact List.nodup_nil
  | cons p N ih =>
    rw [List.map_cons, List.nodup_cons] at h
    rw [List.filterMap_cons]
    have ih := ih h.2
    cases look (placesOf G) p.2 with
    | none => exact ih
    | some i =>
      simp only [Option.map_some]
      rw [List.map_cons, List.nodup_cons]
      refine ⟨fun hm => h.1 ?_, ih⟩
      (refine ob1_2 (List.mem_map.mp hm) fun q hq e => ?_)
      (refine ob1_2 (List.mem_filterMap.mp hq) fun r hr e2 => ?_)
      cases z : look (placesOf G) r.2 with
      | none => rw [z] at e2; exact nos e2
      | some j => rw [z] at e2; obtain rfl := Option.some.inj e2; exact List.mem_map.mpr ⟨r, hr, e⟩
theorem filter_keys {K V : Type} {N : List (K × V)} (f : K × V → Bool) (h : (N.map (·.1)).Nodup) : ((N.filter f).map (·.1)).Nodup := List.Sublist.nodup (List.Sublist.map _ List.filter_sublist) h
theorem filter_fm {α : Type} (f : α → Bool) (l : List α) : l.filter f = l.filterMap fun a => if f a then some a else none := by
  induction l with
  | nil => rfl
  | cons a l ih => rw [List.filter_cons, List.filterMap_cons]; cases f a <;> simp [ih]
theorem cut_spec {w : World} {N D : List (Str × Int)} {C : List (Int × Str)} {M : List Str} {R : List PyData} {f : KP Value} {G : List Int} {FC : List (Int × Int)} (hf : Handed f) (hN : (N.map (·.1)).Nodup) (hD : (D.map (·.1)).Nodup) (hC : (C.map (·.1)).Nodup) (hG : G.Nodup)
    (zN : N.length ≤ 1000) (zD : D.length ≤ 1000) (zC : C.length ≤ 1000) (zG : G.length ≤ 1000) (zM : M.length ≤ 1000) :
    On w (Al 850 850) (.ref 140) [kB w (sI N) (iS C) (sI D) (M.map .str) R f, kLst (G.map fun i => kd (.int i)), kFont w FC]
      (kB w (sI (cutN N G)) (iS (C.filter fun p => (look FC p.1).getD 0 != 0)) (sI (D.filter fun p => (look (cutN N G) p.1).isSome)) ((M.filter fun m => (look (cutN N G) m).isSome).map .str) [] (kFont w FC)) := by
  intro s vs H g l hv
  (refine all2_3 hv fun v1 v2 v3 e_202 h1 h2 h3 => ?_; clear hv; subst e_202)
  k_dflt (refine' fn_enter (binds := [("bench", v1), ("glyphs", v2), ("font", v3)]) g l ?k6 ?k7 ?k8 ?k9 ?kB ?kD ?_ ?c2 ?c3 ?c4; walk_at "E fn")
  intro L cells Y
  k_cells Y
  refine run_assignC (P := kid w (iI (placesOf G))) (pre := [(L + 1 + 1 + 1 + 1 + 1, _)]) ?x1 rfl (by assumption) ?_ rfl
  case x1 =>
    refine ev_call (by walk_at "E ev") (Evs.cons ?comp Evs.nil) (on_dict_pairs keyI rfl ?_ ?_) keep_t (.inr ⟨_, _, rfl⟩) rfl rfl
    case comp =>
      have e : (iI (placesOf G)).map (fun p => kTup [kd (.int p.1), kd p.2]) = (List.range G.length).filterMap fun i => some (kTup [kd (.int (G.getD i 0)), kd (.int (i : Nat))]) := by
        unfold placesOf
        rw [List.map_map, List.map_map]; simp [Function.comp_def]
      rw [e]
      refine ev_compL (List.range G.length) (fun i => kd (.int (i : Nat))) _ (ev_call (by walk_at "E ev") (Evs.cons (ev_call (P := kd (.int (G.length : Nat))) (by walk_at "E ev") (by walk_at "E args") ?len keep_b (.inr ⟨_, _, rfl⟩) rfl rfl) Evs.nil) on_range keep_t (.inr ⟨_, _, rfl⟩) rfl rfl) (iter_rng (by omega)) rfl (by simp; omega) (by rfl) (by decide) rfl (by decide) (by rfl) (fun i hi C D wr m₃ v K1 hm S hv => ⟨rfl, fun R e => ?_⟩) (fun _ => rfl)
      case len => exact on_len' (by simp) (by simp; omega)
      obtain rfl := Option.some.inj e
      have hi : i < G.length := by simpa using hi
      refine ev_tup (Evs.cons (ev_sub (by walk_at "E ev") (by walk_at "E ev") (sub_lst (i := i) ?_ (by simp; omega) (fun _ _ => rfl))) (Evs.cons (by walk_at "E ev") Evs.nil) rfl) (of_decide_eq_true rfl)
      simp [hi]
    · rw [List.map_map]; exact (placesOf_keys G).symm ▸ hG
    · unfold placesOf; simp; omega
  intro K1 w1 o1 S1 p1 d1
  dsimp only [List.nil_append, List.cons_append]
  have itN : Iter w (ksd w (sI N)) (N.map fun p => kd (.str p.1)) := by
    have := iter_dict (w := w) (kvs := sI N) keyS
    rw [List.map_map] at this
    exact this
  have itD : Iter w (ksd w (sI D)) (D.map fun p => kd (.str p.1)) := by
    have := iter_dict (w := w) (kvs := sI D) keyS
    rw [List.map_map] at this
    exact this
  have itC : Iter w (kid w (iS C)) (C.map fun p => kd (.int p.1)) := by
    have := iter_dict (w := w) (kvs := iS C) keyI
    rw [List.map_map] at this
    exact this
  refine run_assignC (P := ksd w (sI (cutN N G))) (pre := []) ?x2 rfl (by assumption) ?_ rfl
  case x2 =>
    refine ev_call (by walk_at "E ev") (Evs.cons ?comp2 Evs.nil) (on_dict_pairs keyS rfl ?_ ?_) keep_t (.inr ⟨_, _, rfl⟩) rfl rfl
    case comp2 =>
      have e : (sI (cutN N G)).map (fun p => kTup [kd (.str p.1), kd p.2]) = N.filterMap fun p => (look (placesOf G) p.2).map fun i => kTup [kd (.str p.1), kd (.int i)] := by
        unfold cutN
        rw [List.map_map, List.map_filterMap]
        simp [Function.comp_def]
      rw [e]
      refine ev_compL N (fun p => kd (.str p.1)) _ (by walk_at "E ev") itN rfl (by omega) (by rfl) (by decide) rfl (by decide) (by rfl) (fun p hp C' D' wr m₃ v K1 hm S hv => ?_) (fun _ => rfl)
      have hg : dget (sI N) p.1 = some (.int p.2) := by rw [dget_map PyData.int, look_mem hN hp]; rfl
      refine ⟨?_, fun R e => ?_⟩
      · have tb : ((look (placesOf G) p.2).map fun i => kTup [kd (.str p.1), kd (.int i)]).isSome = (dget (iI (placesOf G)) p.2).isSome := by rw [dget_map PyData.int]; simp
        show Tr _ _ _ _ _ _ _
        rw [tb]
        exact tr_cmp (ev_sub (by walk_at "E ev") (by walk_at "E ev") (sub_dict keyS hg (fun _ _ => rfl))) (by walk_at "E ev") (op_in keyI)
      · cases ei : look (placesOf G) p.2 with
        | none => rw [ei] at e; exact nos e
        | some i =>
          rw [ei] at e
          obtain rfl := Option.some.inj e
          exact ev_tup (Evs.cons (by walk_at "E ev") (Evs.cons (ev_sub (by walk_at "E ev") (ev_sub (by walk_at "E ev") (by walk_at "E ev") (sub_dict keyS hg (fun _ _ => rfl))) (sub_dict (d := .int i) keyI (by rw [dget_map PyData.int, ei]; rfl) (fun _ _ => rfl))) Evs.nil) rfl) (of_decide_eq_true rfl)
    · rw [List.map_map]; exact cutN_keys hN
    · rw [List.length_map]; exact Nat.le_trans (List.length_filterMap_le _ _) (by omega)
  intro K2 w2 o2 S2 p2 d2
  dsimp only [List.nil_append, List.cons_append]
  refine run_assign (P := kid w (iS (C.filter fun p => (look FC p.1).getD 0 != 0))) ?x3 ?_ rfl rfl rfl rfl
  case x3 =>
    refine ev_call (by walk_at "E ev") (Evs.cons ?comp3 Evs.nil) (on_dict_pairs keyI rfl ?_ ?_) keep_t (.inr ⟨_, _, rfl⟩) rfl rfl
    case comp3 =>
      have e : (iS (C.filter fun p => (look FC p.1).getD 0 != 0)).map (fun p => kTup [kd (.int p.1), kd p.2]) = C.filterMap fun p => if (look FC p.1).getD 0 != 0 then some (kTup [kd (.int p.1), kd (.str p.2)]) else none := by
        rw [filter_fm, List.map_map, List.map_filterMap]
        congr 1; funext p; split <;> rfl
      rw [e]
      refine ev_compL C (fun p => kd (.int p.1)) _ (by walk_at "E ev") itC rfl (by omega) (by rfl) (by decide) rfl (by decide) (by rfl) (fun p hp C' D' wr m₃ v K1 hm S hv => ?_) (fun _ => rfl)
      have hg : dget (iS C) p.1 = some (.str p.2) := by rw [dget_map PyData.str, look_mem hC hp]; rfl
      refine ⟨?_, fun R e => ?_⟩
      · have tb : (if (look FC p.1).getD 0 != 0 then some (kTup [kd (.int p.1), kd (.str p.2)]) else none).isSome = ((look FC p.1).getD 0 != 0) := by cases (look FC p.1).getD 0 != 0 <;> rfl
        show Tr _ _ _ _ _ _ _
        rw [tb]
        refine tr_cmp (ev_meth (P₀ := kCm w FC) (Ps := [kd (.int p.1)]) (by walk_at "E ev") (gm_own (by k_is) (by k_is) (by k_is) rfl) (by walk_at "E args") (on_deeper (glyph_spec (d := (look FC p.1).getD 0) ?_) (by decide)) (keep_ref (by k_is)) (.inr ⟨_, _, rfl⟩) rfl rfl) ev_int op_neI
        rw [dget_map PyData.int]
        cases look FC p.1 <;> simp
      · split at e
        · obtain rfl := Option.some.inj e
          exact ev_tup (Evs.cons (by walk_at "E ev") (Evs.cons (ev_sub (by walk_at "E ev") (by walk_at "E ev") (sub_dict keyI hg (fun _ _ => rfl))) Evs.nil) rfl) (of_decide_eq_true rfl)
        · exact nos e
    · rw [List.map_map]; exact filter_keys _ hC
    · rw [List.length_map]; exact Nat.le_trans (List.length_filter_le _ _) (by omega)
  intro K3 w3 S3 p3
  refine run_assign (P := ksd w (sI (D.filter fun p => (look (cutN N G) p.1).isSome))) ?x4 ?_ rfl rfl rfl rfl
  case x4 =>
    refine ev_call (by walk_at "E ev") (Evs.cons ?comp4 Evs.nil) (on_dict_pairs keyS rfl ?_ ?_) keep_t (.inr ⟨_, _, rfl⟩) rfl rfl
    case comp4 =>
      have e : (sI (D.filter fun p => (look (cutN N G) p.1).isSome)).map (fun p => kTup [kd (.str p.1), kd p.2]) = D.filterMap fun p => if (look (cutN N G) p.1).isSome then some (kTup [kd (.str p.1), kd (.int p.2)]) else none := by
        rw [filter_fm, List.map_map, List.map_filterMap]
        congr 1; funext p; split <;> rfl
      rw [e]
      refine ev_compL D (fun p => kd (.str p.1)) _ (by walk_at "E ev") itD rfl (by omega) (by rfl) (by decide) rfl (by decide) (by rfl) (fun p hp C' D' wr m₃ v K1 hm S hv => ?_) (fun _ => rfl)
      have hg : dget (sI D) p.1 = some (.int p.2) := by rw [dget_map PyData.int, look_mem hD hp]; rfl
      refine ⟨?_, fun R e => ?_⟩
      · have tb : (if (look (cutN N G) p.1).isSome then some (kTup [kd (.str p.1), kd (.int p.2)]) else none).isSome = (dget (sI (cutN N G)) p.1).isSome := by rw [dget_map PyData.int]; cases look (cutN N G) p.1 <;> rfl
        show Tr _ _ _ _ _ _ _
        rw [tb]
        exact tr_cmp (by walk_at "E ev") (by walk_at "E ev") (op_in keyS)
      · split at e
        · obtain rfl := Option.some.inj e
          exact ev_tup (Evs.cons (by walk_at "E ev") (Evs.cons (ev_sub (by walk_at "E ev") (by walk_at "E ev") (sub_dict keyS hg (fun _ _ => rfl))) Evs.nil) rfl) (of_decide_eq_true rfl)
        · exact nos e
    · rw [List.map_map]; exact filter_keys _ hD
    · rw [List.length_map]; exact Nat.le_trans (List.length_filter_le _ _) (by omega)
  intro K4 w4 S4 p4
  refine run_return' rfl ?_
  refine (ev_call (P := kInst 88 [("names", ksd w (sI (cutN N G))), ("codes", _), ("advances", _), ("marks", kTup (((M.filter fun m => (look (cutN N G) m).isSome).map PyData.str).map kd)), ("rows", kTup []), ("font", kFont w FC)]) (by walk_at "E ev") (Evs.cons (by walk_at "E ev") (Evs.cons (by walk_at "E ev") (Evs.cons (by walk_at "E ev") (Evs.cons ?comp5 (Evs.cons (ev_tup Evs.nil (of_decide_eq_true rfl)) (Evs.cons (by walk_at "E ev") Evs.nil)))))) (on_deeper (on_bench (n := 870) (by decide)) (by decide)) (keep_ref (by k_is)) (.inr ⟨_, _, rfl⟩) rfl rfl).weak ?wk
  case comp5 =>
    refine ev_call (Ps := [kLst (((M.filter fun m => (look (cutN N G) m).isSome).map PyData.str).map kd)]) (by walk_at "E ev") (Evs.cons (Ev.weak (P := kPl _) ?cc fun _ _ q => pl_lst q) Evs.nil) (on_tuple_list ?_) keep_t (.inr ⟨_, _, rfl⟩) rfl rfl
    case cc =>
      have e : ((M.filter fun m => (look (cutN N G) m).isSome).map PyData.str).map kd = M.filterMap fun m => if (look (cutN N G) m).isSome then some (kd (.str m)) else none := by
        rw [filter_fm, List.map_map, List.map_filterMap]
        congr 1; funext p; split <;> rfl
      rw [e]
      have itM : Iter w (kd (.tuple (M.map .str))) (M.map fun p => kd (.str p)) := by
        have := iter_kdt (w := w) (ds := M.map .str)
        rw [List.map_map] at this
        exact this
      refine ev_compL M (fun p => kd (.str p)) _ (by walk_at "E ev") itM rfl (by omega) (by rfl) (by decide) rfl (by decide) (by rfl) (fun p hp C' D' wr m₃ v K1 hm S hv => ?_) (fun _ => rfl)
      refine ⟨?_, fun R e => ?_⟩
      · have tb : (if (look (cutN N G) p).isSome then some (kd (.str p)) else none).isSome = (dget (sI (cutN N G)) p).isSome := by rw [dget_map PyData.int]; cases look (cutN N G) p <;> rfl
        show Tr _ _ _ _ _ _ _
        rw [tb]
        exact tr_cmp (by walk_at "E ev") (by walk_at "E ev") (op_in keyS)
      · split at e
        · obtain rfl := Option.some.inj e
          walk_at "E ev"
        · exact nos e
    · have := List.length_filter_le (fun m => (look (cutN N G) m).isSome) M
      rw [List.length_map, List.length_map]; omega
  exact inst_weak (.cons ⟨rfl, fun _ _ q => q⟩ (.cons ⟨rfl, fun _ _ q => q⟩ (.cons ⟨rfl, fun _ _ q => q⟩ (.cons ⟨rfl, fun _ _ q => tup_kd q⟩ (.cons ⟨rfl, fun _ _ q => tup_kd (ds := []) q⟩ (.cons ⟨rfl, fun _ _ q => q⟩ .nil))))))
def FlatD (d : PyData) : Prop := ∀ h h' v, (kd d).p h v → (kd d).p h' v
theorem flat_int {i : Int} : FlatD (.int i) := fun h h' v q => by obtain ⟨t, rfl⟩ := kd_int q; exact is_int
theorem flat_str {i : Str} : FlatD (.str i) := fun h h' v q => by obtain ⟨t, rfl⟩ := kd_str q; exact is_str
section
variable {w : World} {A : Around} {F : Fm} {K : Heap} {env : Env} {pos : Pos} {K0 : Type} [DecidableEq K0] {knd : PySem.KeyKind PR w K0} {enc : K0 → PyData} {e1 e2 : PySem.Expr}
theorem ev_dict1 {k : K0} {d : PyData} (E : KeyE knd enc) (x : Ev w A F K env e1 (kd (enc k))) (y : Ev w A F K env e2 (kd d)) (hd : FlatD d) : Ev w A F K env (.Dict [some e1] [e2] pos) (kdct knd [(k, d)]) := fun s st => by
  have k0 : Kp s { s with heap := s.heap.push { cls := .type "dict", data := .dict #[] } } := keeps_push (tk := s.toks)
  refine wpAny_Dict_walk (knd := knd) rfl rfl (List.cons_ne_nil _ _) (of_decide_eq_true rfl) (evalPairs_cons ((x _ (st.grow k0)).use fun kv s1 k1 p1 => ?_))
  refine wpAny_bind ((y s1 ((st.grow k0).grow k1)).use fun vv s2 k2 p2 => wpAny_bind (wpAny_standAt (wpAny_pure ?_)))
  refine evalPairs_nil ⟨[(k, vv)], ?_, ?_, fun h' hd' hs => ?_⟩
  · exact mk0_3 (E.is p1) rfl trivial
  · exact ((Heap.DictOf.new (knd := knd) s.heap).keep k1.sub).keep k2.sub
  · have kk : Sub s.heap h' := fun b o q => (hs.2 b (Nat.ne_of_lt (Heap.lt_size q))).trans (k2.sub _ _ (k1.sub _ _ (Heap.get?_push_of_some _ q)))
    (refine ob2_2 k1 fun h1 t1 e_203 _ => ?_; try clear k1; subst e_203)
    (refine ob2_2 k2 fun h2 t2 e_204 _ => ?_; try clear k2; subst e_204)
    refine ⟨⟨h', _, rfl, kk⟩, s.heap.objs.size, [(k, vv)], rfl, ?_, ?_, .cons ⟨rfl, hd _ _ _ p2⟩ .nil⟩
    · obtain ⟨X, p, loose, mg, mb, T⟩ := st.gh
      exact beq_eq_false_iff_ne.mpr (Nat.ne_of_gt (modules_low T.nolimit))
    · (refine ob3_2 hd' fun o es ep ho r => ?_; try clear hd')
      exact mk3_2 o es ep (hideAll_get _ ho (live_ne st.lives)) r
end
theorem empty_bench_spec {w : World} : On w (Al 860 860) (.ref 99) [] (kB w [(".notdef", .int 0)] [] [] [] [] (kd .none)) := by
  intro s vs H g l hv
  cases hv
  k_dflt (refine' fn_enter (binds := []) g l ?k6 ?k7 ?k8 ?k9 ?kB ?kD ?_ ?c2 ?c3 ?c4; walk_at "E fn")
  intro L cells Y
  have hY : cells = [] := cells_none Y
  subst hY
  refine run_return' rfl ?_
  refine (ev_call (P := kInst 88 [("names", ksd w [(".notdef", .int 0)]), ("codes", kid w []), ("advances", ksd w []), ("marks", kTup []), ("rows", kTup []), ("font", kd .none)]) (by walk_at "E ev") (Evs.cons (ev_dict1 (knd := PySem.strKind PR w) (enc := PyData.str) (k := Str.ofString ".notdef") keyS (Ev.weak (P := kv (.str ".notdef" 278)) (by walk_at "E name") fun _ _ q => (by cases q; exact is_str)) (by walk_at "E ev") flat_int) (Evs.cons (ev_dict0 (PySem.intKind PR w)) (Evs.cons (ev_dict0 (PySem.strKind PR w)) (Evs.cons (ev_tup Evs.nil (of_decide_eq_true rfl)) (Evs.cons (ev_tup Evs.nil (of_decide_eq_true rfl)) (Evs.cons (by walk_at "E ev") Evs.nil)))))) (on_deeper (on_bench (n := 870) (by decide)) (by decide)) (keep_ref (by k_is)) (.inr ⟨_, _, rfl⟩) rfl rfl).weak ?wk
  exact inst_weak (.cons ⟨rfl, fun _ _ q => q⟩ (.cons ⟨rfl, fun _ _ q => q⟩ (.cons ⟨rfl, fun _ _ q => q⟩ (.cons ⟨rfl, fun _ _ q => tup_kd (ds := []) q⟩ (.cons ⟨rfl, fun _ _ q => tup_kd (ds := []) q⟩ (.cons ⟨rfl, fun _ _ q => q⟩ .nil))))))
def tupStrIn (K : Frag) (a : Addr) (xs : List Str) : Bool := match K.lookup a with
 | some o => o.cls == .type "tuple" && (match o.data with
   | .seq vs _ => vs.toList.length == xs.length && (vs.toList.zip xs).all fun p => (match p.1 with | .str y _ => y == p.2 | _ => false)
   | _ => false)
 | _ => false
theorem all2_strs {h : Heap} : ∀ {vs : List Value} {xs : List Str}, vs.length = xs.length → ((vs.zip xs).all fun p => (match p.1 with | .str y _ => y == p.2 | _ => false)) = true → All2 (fun d v => (kd d).p h v) (xs.map .str) vs
  | [], [], _, _ => .nil
  | [], _ :: _, e, _ => by cases e
  | _ :: _, [], e, _ => by cases e
  | v :: vs, x :: xs, e, q => by
    rw [List.zip_cons_cons, List.all_cons, Bool.and_eq_true] at q
    (refine ob0_2 q fun q1 q2 => ?_; try clear q)
    refine .cons ?_ (all2_strs (by simpa using e) q2)
    cases v <;> simp at q1
    subst q1
    exact is_str
theorem tupStr_reads {w : World} {a : Addr} {xs : List Str} {h : Heap} (X : (Mine.hd.heap_39 w.params).In h) (q : tupStrIn (Mine.hd.heap_39 w.params) a xs = true) : (kd (.tuple (xs.map .str))).p h (.ref a) := by
  unfold tupStrIn at q
  cases e : (Mine.hd.heap_39 w.params).lookup a with
  | none => rw [e] at q; exact nob q
  | some o =>
    rw [e] at q
    obtain ⟨cls, dd, data, sl⟩ := o
    rw [Bool.and_eq_true] at q
    (refine ob0_2 q fun q1 q2 => ?_; try clear q)
    cases data <;> simp only [Bool.false_eq_true] at q2
    rw [Bool.and_eq_true] at q2
    obtain ⟨q2, q3⟩ := q2
    (refine ob1_1 (readsAll_of (all2_strs (h := h) (by simpa using q2) q3)) fun as r => ?_)
    exact ⟨as, .tuple (X _ _ e) (by simpa using q1) rfl r⟩
section
variable {w : World} {A : Around} {F : Fm} {K : Heap} {env : Env} {pos : Pos} {x y : Str}
theorem op_eqS : O2 w A (compareOp .Eq) (kd (.str x)) (kd (.str y)) (kd (.bool (x == y))) := by
  intro s v u H g l hv hu
  (refine ob1_1 (kd_str hv) fun t e_205 => ?_; subst e_205)
  (refine ob1_1 (kd_str hu) fun t' e_206 => ?_; subst e_206)
  exact PyProof.Rows.eq_str ⟨.rfl', is_bool⟩
theorem op_neS : O2 w A (compareOp .NotEq) (kd (.str x)) (kd (.str y)) (kd (.bool (x != y))) := by
  intro s v u H g l hv hu
  (refine ob1_1 (kd_str hv) fun t e_207 => ?_; subst e_207)
  (refine ob1_1 (kd_str hu) fun t' e_208 => ?_; subst e_208)
  exact PyProof.Rows.ne_str ⟨.rfl', is_bool⟩
theorem op_inSS : O2 w A (compareOp .In) (kd (.str y)) (kd (.str x)) (kd (.bool (!(Builtin.Str.occurrences x y 0 x.length 1).isEmpty))) := by
  intro s v u H g l hv hu
  (refine ob1_1 (kd_str hv) fun t e_209 => ?_; subst e_209)
  (refine ob1_1 (kd_str hu) fun t' e_210 => ?_; subst e_210)
  exact PyProof.Rows.in_str ⟨.rfl', is_bool⟩
theorem op_inT {d : PyData} {ds : List PyData} (h1 : PyData.canLayAll0 ds = true) (h2 : d.canLay0 = true) (hu : A.units + 1 + min (PyData.depthAll ds) d.depth < cLine) : O2 w A (compareOp .In) (kd d) (kd (.tuple ds)) (kd (.bool (ds.any fun z => PyData.eqv z d))) := by
  (intro s v u H g l o_211 o_212; (refine ob1_1 o_211 fun as r1 => ?_; try clear o_211); (refine ob1_1 o_212 fun bs r2 => ?_; try clear o_212))
  exact SeqAt.in_tuple_reads (Reads.keeps hide_sub r2) (Reads.keeps hide_sub r1) h1 h2 hu ⟨.rfl', is_bool⟩
theorem op_inL {d : PyData} {ds : List PyData} (h1 : PyData.canLayAll0 ds = true) (h2 : d.canLay0 = true) (hu : A.units + 1 + min (PyData.depthAll ds) d.depth < cLine) : O2 w A (compareOp .In) (kd d) (kd (.list ds)) (kd (.bool (ds.any fun z => PyData.eqv z d))) := by
  (intro s v u H g l o_213 o_214; (refine ob1_1 o_213 fun as r1 => ?_; try clear o_213); (refine ob1_1 o_214 fun bs r2 => ?_; try clear o_214))
  exact SeqAt.in_list_reads (Reads.keeps hide_sub r2) (Reads.keeps hide_sub r1) h1 h2 hu ⟨.rfl', is_bool⟩
theorem op_notinG {d : PyData} {a : Addr} {xs : List Str} (q : tupStrIn (Mine.hd.heap_39 w.params) a xs = true) (h1 : PyData.canLayAll0 (xs.map .str) = true) (h2 : d.canLay0 = true) (hu : A.units + 1 + min (PyData.depthAll (xs.map .str)) d.depth < cLine) :
    O2 w A (compareOp .NotIn) (kd d) (kv (.ref a)) (kd (.bool (!(xs.map PyData.str).any fun z => PyData.eqv z d))) := by
  (intro s v u H g l o_215 e_216; (refine ob1_1 o_215 fun as r1 => ?_; try clear o_215); subst e_216)
  (refine ob1_1 (tupStr_reads g.X q) fun bs r2 => ?_)
  exact SeqAt.notIn_tuple_reads r2 (Reads.keeps hide_sub r1) h1 h2 hu ⟨.rfl', is_bool⟩
theorem sub_strI {i : Nat} {c : Nat} {value slice : PySem.Expr} (hi : x.cps[i]? = some c) (hz : x.length ≤ 100000) (hs : ∀ (o i : Value), subscripted slice false o i = operate [o, i] (getItem o i)) : O2 w A (subscriptTail value slice) (kd (.str x)) (kd (.int (i : Nat))) (kd (.str ⟨#[c]⟩)) := by
  rintro s v u H g l hv hu
  (refine ob1_1 (kd_str hv) fun t e_217 => ?_; subst e_217)
  (refine ob1_1 (kd_int hu) fun t' e_218 => ?_; subst e_218)
  have hlt : i < x.cps.size := by
    rw [Array.getElem?_eq_some_iff] at hi; exact hi.1
  have hlt2 : i < x.length := hlt
  refine tail_any (typeIs_str s x t) slot_str_getitem.lookup (PySem.P.getItem_str (i := (i : Nat)) (c := c) ?_ ?_ ⟨keeps_tok, is_str⟩) (hs _ _)
  · simp; omega
  · rw [seqIndex_nat hlt2]; exact hi
inductive EvL (w : World) (A : Around) (F : Fm) (K : Heap) (env : Env) (op : BoolOp) : List PySem.Expr → Bool → Prop
  | one {e b} : Ev w A F K env e (kd (.bool b)) → EvL w A F K env op [e] b
  | stop {e e' es b} : Ev w A F K env e (kd (.bool b)) → b = (op == .Or) → EvL w A F K env op (e :: e' :: es) b
  | go {e e' es b c} : Ev w A F K env e (kd (.bool b)) → b = (op == .And) → EvL w A F K env op (e' :: es) c → EvL w A F K env op (e :: e' :: es) c
theorem ev_chain {op : BoolOp} {es : List PySem.Expr} {b : Bool} (x : EvL w A F K env op es b) : Ev w A F K env (.BoolOp op es pos) (kd (.bool b)) := by
  induction x with
  | one x => exact fun s st => BoolOp_one (x s st)
  | stop x hb =>
    subst hb
    cases op with
    | And => exact fun s st => BoolOp_and ((x s st).use fun v s1 k1 p1 => kd_bool p1 ▸ wpAny_truthy_bool ⟨k1, is_bool⟩)
    | Or => exact fun s st => BoolOp_or ((x s st).use fun v s1 k1 p1 => kd_bool p1 ▸ wpAny_truthy_bool ⟨k1, is_bool⟩)
  | go x hb r ih =>
    subst hb
    cases op with
    | And => exact fun s st => BoolOp_and ((x s st).use fun v s1 k1 p1 => kd_bool p1 ▸ wpAny_truthy_bool ((ih s1 (st.grow k1)).use fun v s2 k2 p2 => ⟨k1.trans' k2, p2⟩))
    | Or => exact fun s st => BoolOp_or ((x s st).use fun v s1 k1 p1 => kd_bool p1 ▸ wpAny_truthy_bool ((ih s1 (st.grow k1)).use fun v s2 k2 p2 => ⟨k1.trans' k2, p2⟩))
theorem ev_b {e : PySem.Expr} {b c : Bool} (x : Ev w A F K env e (kd (.bool b))) (h : b = c) : Ev w A F K env e (kd (.bool c)) := h ▸ x
theorem tr_b {e : PySem.Expr} {b c : Bool} (x : Tr w A F K env e b) (h : b = c) : Tr w A F K env e c := h ▸ x
theorem ev_kv {e : PySem.Expr} {v : Value} {P : KP Value} (x : Ev w A F K env e (kv v)) (h : ∀ h, P.p h v) : Ev w A F K env e P := x.weak fun hh u q => by cases q; exact h hh
end
def wordsR : List Str := ["lookup", "flag", "sub", "by", "from", "NULL", "pos", "feature", "script", "language"]
def letters : Str := "abcdefghijklmnopqrstuvwxyzABCDEFGHIJKLMNOPQRSTUVWXYZ_."
def isNameB (x : Str) : Bool := match x.cps[0]? with
  | none => false
  | some c => !(Builtin.Str.occurrences letters ⟨#[c]⟩ 0 letters.length 1).isEmpty && !((wordsR.map PyData.str).any fun z => PyData.eqv z (.str x))
theorem room1 {u a b : Nat} (hu : u ≤ 1000) (hb : b ≤ 1000) : u + 1 + min a b < cLine := by unfold cLine; omega
theorem room0 {u a b : Nat} (hu : u ≤ 1000) (hb : b ≤ 1000) : u + min a b < cLine := by unfold cLine; omega
theorem is_name_spec {w : World} {x : Str} (hx0 : PyData.strOk x = true) (hz : x.length ≤ 1000) : On w (Al 850 850) (.ref 71) [kd (.str x)] (kd (.bool (isNameB x))) := by
  intro s vs H g l hv
  (refine all2_1 hv fun v1 e_219 h1 => ?_; clear hv; subst e_219)
  k_dflt (refine' fn_enter (binds := [("word", v1)]) g l ?k6 ?k7 ?k8 ?k9 ?kB ?kD ?_ ?c2 ?c3 ?c4; walk_at "E fn")
  intro L cells Y
  have hY : cells = [] := cells_none Y
  subst hY
  refine run_return' rfl (ev_chain ?_)
  unfold isNameB
  cases e : x.cps[0]? with
  | none =>
    have hx : (x != ("" : Str)) = false := by
      obtain ⟨⟨l⟩⟩ := x
      cases l with
      | nil => rfl
      | cons a b => simp at e
    exact .stop (b := false) (ev_b (ev_cmp (by walk_at "E ev") (by walk_at "E ev") op_neS) hx) rfl
  | some c =>
    have hx : (x != ("" : Str)) = true := by
      obtain ⟨⟨l⟩⟩ := x
      cases l with
      | nil => simp at e
      | cons a b => rfl
    have lt : ∀ {w A F K env pos}, nsIn (Mine.hd.heap_39 w.params) mainGlobals "LETTERS" = some (some (.str letters 267)) → env.globals = mainGlobals → env.scope.kind = .function → env.kindOf "LETTERS" = some .globalImplicit → Ev w A F K env (.Name "LETTERS" pos) (kd (.str letters)) := fun e1 e2 e3 e4 => ev_kv (ev_global e1 e2 e3 e4 rfl) fun _ => is_str
    refine .go (b := true) (ev_b (ev_cmp (by walk_at "E ev") (by walk_at "E ev") op_neS) hx) rfl ?_
    cases hb : !(Builtin.Str.occurrences letters ⟨#[c]⟩ 0 letters.length 1).isEmpty with
    | false =>
      show EvL _ _ _ _ _ _ _ (!(Builtin.Str.occurrences letters ⟨#[c]⟩ 0 letters.length 1).isEmpty && _)
      rw [hb, Bool.false_and]
      exact .stop (b := false) (ev_b (ev_cmp (ev_sub (by walk_at "E ev") (by walk_at "E ev") (sub_strI (i := 0) e (by omega) (fun _ _ => rfl))) (lt (by k_is) rfl rfl rfl) op_inSS) hb) rfl
    | true =>
      show EvL _ _ _ _ _ _ _ (!(Builtin.Str.occurrences letters ⟨#[c]⟩ 0 letters.length 1).isEmpty && _)
      rw [hb, Bool.true_and]
      exact .go (b := true) (ev_b (ev_cmp (ev_sub (by walk_at "E ev") (by walk_at "E ev") (sub_strI (i := 0) e (by omega) (fun _ _ => rfl))) (lt (by k_is) rfl rfl rfl) op_inSS) hb) rfl (.one (ev_cmp (by walk_at "E ev") (by walk_at "E name") (op_notinG (by kernel_rfl) (by kernel_rfl) (by rw [PyData.canLay0]; exact hx0) (room1 (by show 850 + 3 ≤ 1000; decide) (by rw [PyData.depth]; decide)))))
theorem none_of_sub {h h' : Heap} {a : Addr} (k : Sub h h') (q : h'.get? a = none) : h.get? a = none := by
  cases z : h.get? a with
  | none => rfl
  | some o => rw [k _ _ z] at q; exact nos' q
def NewP (s : Shared) (H : List Addr) (Q : Heap → Obj → Prop) (v : Value) (s' : Shared) : Prop := Kp s s' ∧ ∃ a o, v = .ref a ∧ s.heap.get? a = none ∧ s'.heap.get? a = some o ∧ (a == sysModules) = false ∧ Q (hideAll s'.heap (a :: H)) o
def EvN (w : World) (A : Around) (F : Fm) (K : Heap) (env : Env) (e : PySem.Expr) (Q : Heap → Obj → Prop) : Prop := ∀ s, St w F K s → wpAny (model PR w) A (eval e env) (NewP s F.hid Q) (fun _ _ => False) s
def OnN (w : World) (A : Around) (f : Value) (Ps : List (KP Value)) (Q : Heap → Obj → Prop) : Prop := ∀ s vs H, G w s.heap → Live H s.heap → (KPs Ps).p (hideAll s.heap H) vs → wpAny (model PR w) A (call f vs) (NewP s H Q) (fun _ _ => False) s
def OwnD {w : World} {K0 : Type} [DecidableEq K0] (knd : PySem.KeyKind PR w K0) (kvs : List (K0 × PyData)) (h : Heap) (o : Obj) : Prop := ∃ vs, o.IsDictOf knd vs ∧ All2 (KvIs h) kvs vs
section
variable {w : World} {A : Around} {F : Fm} {K : Heap} {env : Env} {P : KP Value} {Ps : List (KP Value)} {Q : Heap → Obj → Prop} {e fe : PySem.Expr} {es : List PySem.Expr} {rest body : List Stmt} {pos xp p2 : Pos} {x : Str} {R : Flow → Shared → Prop} {E : Value → Shared → Prop} {f : Value} {a : Addr} {o : Obj} {pre post : Led} {s : Shared} {K' : Heap}
  {K0 : Type} [DecidableEq K0] {knd : PySem.KeyKind PR w K0} {enc : K0 → PyData} {kvs : List (K0 × PyData)}
theorem NewP.back {s s1 : Shared} {H : List Addr} {v : Value} {s' : Shared} (k : Kp s s1) (x : NewP s1 H Q v s') : NewP s H Q v s' := by
  obtain ⟨k1, a, o, e, n, r⟩ := x
  exact ⟨k.trans' k1, a, o, e, none_of_sub k.sub n, r⟩
theorem evn_call (hf : Ev w A F K env fe (kv f)) (x : Evs w A F K env es Ps) (q : OnN w A f Ps Q) (kp : KeepOk w f) (hs : (es = [] ∧ Ps = []) ∨ ∃ t r, starEach es env = (false, t) :: r) (hp : (starEach es env).any (·.1) = false := by rfl)
    (he : eval (.Call fe es [] pos) env = (do callWith pos (← eval fe env) [] (backTo pos (starEach es env)) []) := by rfl) : EvN w A F K env (.Call fe es [] pos) Q := fun s st => by
  rw [he]
  refine wpAny_bind ((hf s st).use fun v s1 k1 p1 => ?_)
  rw [show v = f from p1]
  have st1 := st.grow k1
  refine callWith_of (P := G w) ?_ kp ((args_of x hs st1).use fun ar s2 k2 p2 => ?_)
  · rw [List.any_nil, Bool.or_false]
    unfold backTo
    rw [List.any_map]
    exact hp
  · obtain ⟨ps, kw⟩ := ar
    obtain ⟨rfl, p2⟩ := p2
    exact ⟨(st1.grow k2).gh, wpAny_mono (q s2 ps _ (st1.grow k2).gh (st1.grow k2).lives p2) (fun v s3 n => (n.back k2).back k1) fun _ _ y => y⟩
theorem run_assignN (x' : EvN w A F K env e Q) (k : ∀ K' a o, Sub K K' → Q K' o → K'.get? a = none → a ∉ F.H → (a == sysModules) = false → Run w A env { F.up x (.ref a) with mu := (a, o) :: F.mu } K' rest R E) (hk : env.scope.kind = .function := by rfl) (hl : env.kindOf x = some .local := by rfl) (hL : env.locals = F.L := by rfl)
    (hs : swapsWith e (some (.Name x xp)) pos.line env = pure false := by rfl) : Run w A env F K (.Assign [.Name x xp] e pos :: rest) R E := fun s st => by
  refine wpAny_execs_cons (wpAny_Assign_Name (wpAny_mono (x' s st) (fun v s1 z => ?_) fun _ _ e => e.elim) hs)
  obtain ⟨k1, a, o, rfl, hn, ha, hlo, hq⟩ := z
  have st0 := st.grow k1
  have st1 : St w { F with mu := (a, o) :: F.mu } (hideAll s1.heap (a :: F.hid)) s1 := by
    refine ⟨st.g, st0.rl, st0.base, hide_sub, st0.ns, fun q hq => ?_, st0.live, fun b hb => hideAll_none _ ?_, st.bL, fun q hq => ?_, fun q hq => ?_, ?_⟩
    · rcases List.mem_cons.mp hq with rfl | hq
      · exact ha
      · exact st0.mus q hq
    · rcases List.mem_cons.mp hb with rfl | hb
      · exact .tail _ (.head _)
      rcases List.mem_cons.mp hb with rfl | hb
      · exact .head _
      · exact .tail _ (.tail _ hb)
    · rcases List.mem_cons.mp hq with rfl | hq
      · exact none_of_sub st.base hn
      · exact st.bmu q hq
    · rcases List.mem_cons.mp hq with rfl | hq
      · (refine ob1_1 (st.lives F.L (.head _)) fun oL hoL => ?_)
        intro e
        change s.heap.get? a = none at hn
        change a = F.L at e
        rw [e, hoL] at hn; exact nos' hn
      · exact st.muL q hq
    · show (a :: F.mu.map (·.1)).Nodup
      rw [List.nodup_cons]
      refine ⟨fun hm => ?_, st.mnd⟩
      (refine ob1_2 (List.mem_map.mp hm) fun q hq e => ?_)
      have := st.mus q hq
      rw [e, hn] at this; exact nos this
  have kn : Sub K (hideAll s1.heap (a :: F.hid)) := fun b ob q => hideAll_get _ (st0.sub _ _ q) fun hm => by
    rcases List.mem_cons.mp hm with rfl | hm
    · rw [none_of_sub st.sub hn] at q; exact nos q
    · rw [st.out _ hm] at q; exact nos q
  refine wpAny_storeName_local hl (by rw [hL]; exact st1.ns) (fun h' hn' hsb => ?_) (by rw [hk]; rfl)
  rw [hL] at hn' hsb
  have keepL : ∀ {b o}, b ≠ F.L → s1.heap.get? b = some o → h'.get? b = some o := fun hb q => (hsb.2 _ hb).trans q
  refine k _ a o kn hq (hideAll_none _ (.head _)) (fun hm => by obtain ⟨oh, q⟩ := st.live _ hm; rw [hn] at q; exact nos q) hlo _ ⟨st1.g, st1.rl.trans ⟨_, _, rfl⟩, fun b o q => keepL (fun z => by rw [z, st1.bL] at q; exact nos q) (st1.base b o q), fun b o q => keepL (fun z => by rw [z, st1.out _ (.head _)] at q; exact nos q) (st1.sub b o q),
    hn', fun q hq => keepL (st1.muL q hq) (st1.mus q hq), fun b hb => ?_, st1.out, st1.bL, st1.bmu, st1.muL, st1.mnd⟩
  by_cases hbL : b = F.L
  · subst hbL
    (refine ob3_2 hn' fun o _ _ q _ => ?_; try clear hn')
    exact ⟨o, q⟩
  · (refine ob1_1 (st1.live b hb) fun o q => ?_)
    exact ⟨o, keepL hbL q⟩
theorem St.free (st : St w F K s) (hmu : F.mu = pre ++ (a, o) :: post) (hH : a ∉ F.H) : ∃ K', Sub K K' ∧ K'.get? a = some o ∧ St w { F with mu := pre ++ post } K' s ∧ K' = hideAll s.heap (Fm.hid { F with mu := pre ++ post }) := by
  have hm : (a, o) ∈ F.mu := by rw [hmu]; exact List.mem_append_right _ (.head _)
  have nd := st.mnd
  rw [hmu, List.map_append, List.map_cons, List.nodup_append] at nd
  (refine ob0_3 nd fun n1 n2 n3 => ?_; try clear nd)
  rw [List.nodup_cons] at n2
  have sub : ∀ q ∈ pre ++ post, q ∈ F.mu := fun q hq => by
    rw [hmu]
    rcases List.mem_append.mp hq with hq | hq
    · exact List.mem_append_left _ hq
    · exact List.mem_append_right _ (.tail _ hq)
  have ne : ∀ q ∈ pre ++ post, q.1 ≠ a := fun q hq e => by
    rcases List.mem_append.mp hq with hq | hq
    · exact n3 q.1 (List.mem_map_of_mem hq) a (.head _) e
    · have m : q.1 ∈ post.map (fun z => z.1) := List.mem_map.mpr ⟨q, hq, rfl⟩
      rw [e] at m
      exact n2.1 m
  have hid : ∀ b ∈ Fm.hid { F with mu := pre ++ post }, b ∈ F.hid ∧ b ≠ a := fun b hb => by
    rcases List.mem_cons.mp hb with rfl | hb
    · exact ⟨.head _, fun e => st.muL _ hm e.symm⟩
    rcases List.mem_append.mp hb with hb | hb
    · (refine ob1_2 (List.mem_map.mp hb) fun q hq e_222 => ?_; subst e_222)
      exact ⟨.tail _ (List.mem_append_left _ (List.mem_map.mpr ⟨q, sub q hq, rfl⟩)), ne q hq⟩
    · exact ⟨.tail _ (List.mem_append_right _ hb), fun e => hH (e ▸ hb)⟩
  refine ⟨_, ?_, ?_, ⟨st.g, st.rl, st.base, hide_sub, st.ns, fun q hq => st.mus q (sub q hq), st.live, fun b hb => hideAll_none _ hb, st.bL, fun q hq => st.bmu q (sub q hq), fun q hq => st.muL q (sub q hq), by
      show ((pre ++ post).map (·.1)).Nodup
      rw [List.map_append, List.nodup_append]
      exact ⟨n1, n2.2, fun b hb c hc => n3 b hb c (.tail _ hc)⟩⟩, rfl⟩
  · exact fun b ob q => hideAll_get _ (st.sub _ _ q) fun hm => by rw [st.out b (hid b hm).1] at q; exact nos q
  · exact hideAll_get _ (st.mus _ hm) fun h => (hid a h).2 rfl
theorem ev_open (hmu : F.mu = pre ++ (a, o) :: post) (hH : a ∉ F.H) (hfl : ∀ h h' v, P.p h v → P.p h' v) (x : ∀ K', Sub K K' → K'.get? a = some o → Ev w A { F with mu := pre ++ post } K' env e P) : Ev w A F K env e P := fun s st => by
  (refine ob1_4 (st.free hmu hH) fun K' k1 k2 st' _ => ?_)
  exact (x K' k1 k2 s st').use fun v s1 k p => ⟨k, hfl _ _ _ p⟩
theorem run_free (hmu : F.mu = pre ++ (a, o) :: post) (hH : a ∉ F.H) (x : ∀ K', Sub K K' → K'.get? a = some o → Run w A env { F with mu := pre ++ post } K' body R E) : Run w A env F K body R E := fun s st => by
  (refine ob1_4 (st.free hmu hH) fun K' k1 k2 st' _ => ?_)
  exact x K' k1 k2 s st'
theorem run_setitem {k : K0} {d : PyData} {xs : Str} {xi : PySem.Expr} (Ek : KeyE knd enc) (hmu : F.mu = pre ++ (a, o) :: post) (hx : F.m xs = some (.ref a)) (ho : OwnD knd kvs K o) (hn : dget kvs k = none) (hz : kvs.length ≤ 1000) (xv : Ev w A F K env e (kd d)) (xk : Ev w A F K env xi (kd (enc k)))
    (kk : ∀ K' o', Sub K K' → OwnD knd (kvs ++ [(k, d)]) K' o' → Run w A env { F with mu := pre ++ (a, o') :: post } K' rest R E)
    (hk : env.scope.kind = .function := by rfl) (hl : env.kindOf xs = some .local := by rfl) (hL : env.locals = F.L := by rfl) (hd : (xs == ("__debug__" : Str)) = false := by decide)
    (hs : swapsWith e (some (.Subscript (.Name xs xp) xi p2)) pos.line env = pure false := by rfl) : Run w A env F K (.Assign [.Subscript (.Name xs xp) xi p2] e pos :: rest) R E := fun s st => by
  refine wpAny_execs_cons (wpAny_Assign_Subscript ((xv s st).use fun v s1 k1 p1 => ?_) hs)
  have st1 := st.grow k1
  refine wpAny_Name (wpAny_loadName_local hk hl (by rw [hL]; exact st1.ns) hx ?_) hd
  refine (xk s1 st1).use fun u s2 k2 p2 => ?_
  have st2 := st1.grow k2
  (refine ob1_2 ho fun vs hd q => ?_; try clear ho)
  have hlen := q.length
  have hm : (a, o) ∈ F.mu := by rw [hmu]; exact List.mem_append_right _ (.head _)
  refine wpAny_setItem_pairs (knd := knd) (kvs := vs) (Ek.is p2) (Heap.dictOf_iff.mpr ⟨o, st2.mus _ hm, hd⟩) (fun h' hd' hs' => ?_) (by rw [sizeLine_eq]; omega)
  (refine ob1_2 (Heap.dictOf_iff.mp hd') fun o' ho' hd' => ?_)
  have kn : Sub K (hideAll s2.heap F.hid) := st2.in
  have st3 := (st1.up k2).setMu (tk := s2.toks + 1) hmu ho' fun b ob hb q => (hs'.2 b hb).trans q
  refine kk _ o' kn ⟨vs ++ [(k, v)], ?_, (q.imp fun _ _ y => y.mono kn).append (.cons ⟨rfl, (kd d).mono (sub_hide k2.sub) p1⟩ .nil)⟩ _ st3
  have : stored vs k v = vs ++ [(k, v)] := by
    have e := dget_none q hn
    unfold valueAt at e
    unfold stored
    rw [if_neg]
    intro h
    rw [List.any_eq_true] at h
    (refine ob1_2 h fun p hp hpk => ?_; try clear h)
    rw [Option.map_eq_none_iff, List.find?_eq_none] at e
    exact e p hp hpk
  rw [← this]; exact hd'
theorem onN_dict_copy (hz : kvs.length ≤ 10000) : OnN w A (.type "dict") [kdct knd kvs] (OwnD knd kvs) := by
  intro s vs H g l hv
  (refine all2_1 hv fun _ e_225 o_223 => ?_; clear hv; subst e_225; (refine ob2_4 o_223 fun a vs e_224 lo hd q => ?_; try clear o_223; subst e_224))
  have hl := q.length
  refine kt_call_dict lo (hd.keep (h' := s.heap) hide_sub) (by rw [sizeLine_eq]; omega) fun h' hd' hs => ?_
  have hk : Sub s.heap h' := fun b o e => (hs.2 b (Nat.ne_of_lt (Heap.lt_size e))).trans (Heap.get?_push_of_some _ e)
  (refine ob1_2 (Heap.dictOf_iff.mp hd') fun o ho hd2 => ?_)
  have lo : (s.heap.objs.size == sysModules) = false := by
    obtain ⟨X, p, loose, mg, mb, T⟩ := g
    exact beq_eq_false_iff_ne.mpr (Nat.ne_of_gt (modules_low T.nolimit))
  refine ⟨⟨h', s.toks, rfl, hk⟩, s.heap.objs.size, o, rfl, Heap.get?_none_of_le (Nat.le_refl _), ho, lo, vs, hd2, q.imp fun _ _ y => y.mono fun b ob qq => ?_⟩
  refine hideAll_get _ (hk _ _ (hide_sub _ _ qq)) fun hm => ?_
  rcases List.mem_cons.mp hm with rfl | hm
  · exact Nat.lt_irrefl _ (Heap.lt_size (hide_sub _ _ qq))
  · exact hide_notin qq hm
theorem own_kdct (lo : (a == sysModules) = false) (k : K'.get? a = some o) (h : OwnD knd kvs K' o) : (kdct knd kvs).p K' (.ref a) := by
  (refine ob1_2 h fun vs hd q => ?_; try clear h)
  exact mk2_4 a vs rfl lo (Heap.dictOf_iff.mpr ⟨o, k, hd⟩) q
theorem OwnD.mono {h h' : Heap} (k : Sub h h') (x : OwnD knd kvs h o) : OwnD knd kvs h' o := by
  (refine ob1_2 x fun vs hd q => ?_; try clear x)
  exact mk1_2 vs hd (q.imp fun _ _ y => y.mono k)
end
def kVw {w : World} {K0 : Type} [DecidableEq K0] (knd : PySem.KeyKind PR w K0) (kvs : List (K0 × PyData)) : KP Value := ⟨fun h v => ∃ x d vs, v = .ref x ∧ h.IsValuesView x d ∧ h.DictOf knd d vs ∧ All2 (KvIs h) kvs vs,
  fun k z => ob3_4 z fun x d vs e hv hd q => ⟨x, d, vs, e, Exists.elim hv fun o z => ⟨o, k _ _ z.1, z.2⟩, hd.keep k, q.imp fun _ _ y => y.mono k⟩⟩
section
variable {w : World} {A : Around} {P : KP Value} {Ps : List (KP Value)} {K0 : Type} [DecidableEq K0] {knd : PySem.KeyKind PR w K0} {enc : K0 → PyData} {kvs : List (K0 × PyData)}
theorem gm_values {pl : Sem Bool} : O1 w A (fun v => getMethod v "values" pl) (kdct knd kvs) (kMeth (.builtin "dict.values") (kdct knd kvs)) := by
  (intro s v H g l o_226; (refine ob2_4 o_226 fun a vs e_227 lo hd q => ?_; try clear o_226; subst e_227))
  have hD := hd.keep (h' := s.heap) hide_sub
  exact getMethod_builtin hD.typeIs PySem.F.plainAttrs_dict PySem.F.slot_dict_values PySem.F.type_dict_values hD.mapOf.noDict ⟨.rfl', rfl, _, rfl, a, vs, rfl, lo, hd, q⟩
theorem on_values : On w A (.builtin "dict.values") [kdct knd kvs] (kVw knd kvs) := by
  intro s vs H g l hv
  (refine all2_1 hv fun _ e_230 o_228 => ?_; clear hv; subst e_230; (refine ob2_4 o_228 fun a vs e_229 lo hD q => ?_; try clear o_228; subst e_229))
  have hD' := hD.keep (h' := s.heap) hide_sub
  refine call_meetsIn PySem.F.slot_dict_values hD'.typeIs PySem.F.entry_dict_values (PySem.F.args_dict_values_1 _) (meets_dict_values knd a lo) ⟨⟨_, hD'⟩, keeps_push, s.heap.objs.size, a, vs, rfl, ⟨_, push_known l, rfl, rfl⟩, hD.keep push_sub, q.imp fun _ _ y => y.mono push_sub⟩
theorem iter_vw : Iter w (kVw knd kvs) (kvs.map fun p => kd p.2) := by
  (intro A s v H Q E' hA g l o_231 h; (refine ob3_4 o_231 fun x d vs e_232 hx hd q => ?_; try clear o_231; subst e_232))
  have hx' : s.heap.IsValuesView x d := let ⟨o, a, b⟩ := hx; ⟨o, hide_sub _ _ a, b⟩
  have hd' := hd.keep (h' := s.heap) hide_sub
  (refine ob1_1 hd'.dictAt fun ep hat => ?_)
  refine wpAny_pyIter_values hx' hat (h _ _ _ _ _ _ _ s.toks (Walks.dictValues hA s.heap.objs.size d (Nat.ne_of_lt hat.lt_size) vs ep) (by rw [List.length_map]; exact q.length.symm) ⟨⟨_, Heap.get?_push_size _ rfl, rfl, rfl⟩, hat.push _⟩ (fun b o e => Heap.get?_push_of_some _ e) (fun b hb => ?_) (fun b hb => ?_) (fun i h' st b hb => ?_) fun i v hi hv => ?_)
  · rw [List.mem_singleton.mp hb]; exact Heap.get?_none_of_le (Nat.le_refl _)
  · rcases List.mem_cons.mp hb with rfl | hb
    · exact ⟨_, Heap.get?_push_size _ rfl⟩
    · rw [List.mem_singleton.mp hb]
      (refine ob2_2 hat fun o es q2 _ => ?_; try clear hat)
      exact ⟨o, Heap.get?_push_of_some _ q2⟩
  · rw [List.mem_singleton.mp hb]
    (refine ob0_2 st fun o_233 _ => ?_; try clear st; (refine ob1_2 o_233 fun o' q' _ => ?_; try clear o_233))
    exact ⟨o', q'⟩
  · (refine ob1_1 hv fun k hx => ?_; try clear hv)
    (refine ob1_3 (q.get hx) fun p hp h1 h2 => ?_)
    exact mk1_2 (kd p.2) (by rw [List.getElem?_map, hp]; rfl) h2
theorem getD_lt {l : List Int} {i : Nat} (h : i < l.length) : l.getD i 0 = l[i] := by simp [List.getD, h]
def maxI (is : List Int) : Int := is.getD (argBest (fun i j => decide (is.getD j 0 < is.getD i 0)) (is.length - 1)) 0
theorem argBest_le (bt : Nat → Nat → Bool) : ∀ k, argBest bt k ≤ k
  | 0 => Nat.le_refl _
  | k + 1 => by
    unfold argBest
    split
    · exact Nat.le_refl _
    · exact Nat.le_succ_of_le (argBest_le bt k)
theorem argBest_max (f : Nat → Int) : ∀ k j, j ≤ k → f j ≤ f (argBest (fun i j => decide (f j < f i)) k)
  | 0, j, h => by
    have : j = 0 := by omega
    subst this; exact Int.le_refl _
  | k + 1, j, h => by
    unfold argBest
    have ih := argBest_max f k
    by_cases hj : j = k + 1
    · subst hj
      split
      · exact Int.le_refl _
      · rename_i hn
        simp only [decide_eq_true_eq] at hn
        omega
    · have := ih j (by omega)
      split
      · rename_i hn
        simp only [decide_eq_true_eq] at hn
        omega
      · exact this
theorem maxI_eq {is : List Int} {m : Int} (hm : m ∈ is) (hle : ∀ i ∈ is, i ≤ m) : maxI is = m := by
  obtain ⟨j, hj, e⟩ := List.getElem_of_mem hm
  have h1 := argBest_max (fun i => is.getD i 0) (is.length - 1) j (by omega)
  have h2 := argBest_le (fun i j => decide (is.getD j 0 < is.getD i 0)) (is.length - 1)
  unfold maxI
  have e1 : is.getD j 0 = m := by rw [getD_lt hj]; exact e
  have h3 : argBest (fun i j => decide (is.getD j 0 < is.getD i 0)) (is.length - 1) < is.length := by omega
  have h4 : is.getD (argBest (fun i j => decide (is.getD j 0 < is.getD i 0)) (is.length - 1)) 0 ≤ m := hle _ (by rw [getD_lt h3]; exact List.getElem_mem _)
  omega
theorem walks_within {I : Addr} {fp wr : List Addr} {n : Nat} {Pi : Nat → Value → Prop} {Stt : Nat → Heap → Prop} (W : Walks PR w A I fp wr n Pi Stt) : Walks PR w A I fp wr n (fun i v => i < n ∧ Pi i v) Stt where
  sub := W.sub
  frame := W.frame
  item := fun i s Q E hi st hQ => W.item i s Q E hi st fun v h' tk hP hst hk => hQ v h' tk ⟨hi, hP⟩ hst hk
  done := W.done
  self := W.self
theorem on_max {is : List Int} (it : Iter w P (is.map fun i => kd (.int i))) (hA : A.handled = none) (hne : is ≠ []) : On w A (.builtin "max") [P] (kd (.int (maxI is))) := by
  intro s vs H g l hv
  (refine all2_1 hv fun _ e_234 h1 => ?_; clear hv; subst e_234)
  refine call_max_walk (it A.in1 s _ H _ _ hA g l h1 fun I fp wr n Pi Stt h' tk W hn hst hk hwr hfp hlv hPi => ?_)
  rw [List.length_map] at hn
  have hpos : 0 < is.length := List.length_pos_iff.mpr hne
  refine mk7_1 I fp wr n _ Stt (fun i j => decide (is.getD j 0 < is.getD i 0)) ⟨rfl, walks_within W, hst, fun b hb => let ⟨o, e⟩ := hfp b hb; Heap.lt_size e, by omega, ?_, ?_⟩
  · (intro i j vi vj s Q E o_235 o_236 hq; (refine ob0_2 o_235 fun hi pi => ?_; try clear o_235); (refine ob0_2 o_236 fun hj pj => ?_; try clear o_236))
    (refine ob1_2 (hPi i vi hi pi) fun Pi' e1 q1 => ?_)
    (refine ob1_2 (hPi j vj hj pj) fun Pj' e2 q2 => ?_)
    have hi' : i < is.length := by omega
    have hj' : j < is.length := by omega
    rw [List.getElem?_map, List.getElem?_eq_getElem hi'] at e1
    rw [List.getElem?_map, List.getElem?_eq_getElem hj'] at e2
    obtain rfl := Option.some.inj e1
    obtain rfl := Option.some.inj e2
    (refine ob1_1 (kd_int q1) fun t e_237 => ?_; subst e_237)
    (refine ob1_1 (kd_int q2) fun t' e_238 => ?_; subst e_238)
    dsimp only at hq
    rw [getD_lt hi', getD_lt hj'] at hq
    have := PyProof.Rows.gt_int (prog := PR) (w := w) (A := A.in1) (E := E) (a := is[i]) (b := is[j]) (t := t) (u := t') hq
    exact this
  · (intro v h'' tk2 o_239 hk2; (refine ob0_2 o_239 fun hi pv => ?_; try clear o_239))
    (refine ob1_2 (hPi _ v hi pv) fun Pi' e1 q1 => ?_)
    have hi' : argBest (fun i j => decide (is.getD j 0 < is.getD i 0)) (n - 1) < is.length := by omega
    rw [List.getElem?_map, List.getElem?_eq_getElem hi'] at e1
    obtain rfl := Option.some.inj e1
    (refine ob1_1 (kd_int q1) fun t e_240 => ?_; subst e_240)
    refine ⟨⟨h'', tk2, rfl, fun b o q => hk2 b o (fun hb => by rw [hwr b hb] at q; exact nos q) (hk _ _ q)⟩, ?_⟩
    have : maxI is = is[argBest (fun i j => decide (is.getD j 0 < is.getD i 0)) (n - 1)] := by
      unfold maxI
      rw [← hn, getD_lt hi']
    rw [this]; exact is_int
end
theorem on_any {w : World} {k : Nat} {A : Around} {f : Value} {Ps : List (KP Value)} {P : KP Value} (h : On w (Al k k) f Ps P) (hA : A.handled = none) (hd : A.depth ≤ k) (hu : A.units ≤ k) : On w A f Ps P := fun s vs H g l hv => wp_al (h s vs H g l hv) hA hd hu
theorem tru_bool {w : World} {A : Around} {b : Bool} : Tru w A (kd (.bool b)) b := fun s v H g l hv => by
  rw [kd_bool hv]; exact wpAny_truthy_bool ⟨.rfl', rfl⟩
section
variable {w : World} {A : Around} {s : Shared} {H : List Addr} {Q E : Value → Shared → Prop} {F : Fm} {K : Heap}
  {name qual : Str} {params : Arguments} {body rest : List Stmt} {scope : Scope} {dV kV doc pm cdv ct oc : Value} {an od : Option Addr} {osl : Array (Option Value)} {f : Addr} {vs : List Value} {binds : List (Str × Value)} {env : Env}
theorem fn_enterR (g : G w s.heap) (l : Live H s.heap)
    (ho : (Mine.hd.heap_39 w.params).lookup f = some ⟨oc, od, .func (fnX name qual params body scope [] dV kV doc pm an cdv ct), osl⟩) (hcd : codeIn (Mine.hd.heap_39 w.params) cdv qual = true) (hroom : A.depth < recursionLimit)
    (hbind : BindsTo s (fnX name qual params body scope [] dV kV doc pm an cdv ct) ⟨vs, []⟩ binds)
    (hkind : (binds.all fun y => scope.names.lookup y.1 == some .local || scope.names.lookup y.1 == some .cell) = true)
    (hnd : ((cellsFrom 0 scope.names []).map (·.1)).Nodup)
    (h : ∀ L cells, s.heap.objs.size ≤ L → CellsAre (bindC (envOfC qual scope L f cdv).kindOf binds fun _ => none) (cellsFrom (L + 1) scope.names []) cells →
      Run w (A.deeper (envOfC qual scope L f cdv)) (envOfC qual scope L f cdv) ⟨s, s.heap, H, L, bindL (envOfC qual scope L f cdv).kindOf binds fun _ => none, cells⟩ (hideAll s.heap H) body (fun fl s' => Q (retOf fl) s')
        (fun e s' => wpAny (model PR w) (A.deeper (envOfC qual scope L f cdv)) (leaving (envOfC qual scope L f cdv) e) (fun _ s'' => E e s'') (fun e' s'' => E e' s'') s'))
    (hco : scope.isCoroutine = false := by rfl) (hgen : scope.isGenerator = false := by rfl) (hk : scope.kind = .function := by rfl) : wpAny (model PR w) A (call (.ref f) vs) Q E s := by
  refine wpAny_call (fn_enterG (mu0 := []) g Sub.rfl' hide_sub l nil_all (fun b hb => hideAll_none _ hb) List.nodup_nil ho hcd hroom hbind hkind hnd (fun L cells hL _ _ Y s1 st => ?_) hco hgen hk)
  rw [List.append_nil] at st
  exact h L cells hL Y s1 st
theorem run_raise {fe : PySem.Expr} {es : List PySem.Expr} {msg : Str} {k : Int} {pos p2 : Pos} {R : Flow → Shared → Prop} {E : Value → Shared → Prop} {p : Program} {loose : List Str} {mean : ExcName → Option Value} {mg mb : Str → Option Value}
    (hA : A.handled = none) (hd : A.depth ≤ 940) (T : Top p loose mean mg mb F.B) (hf : Ev w (A.deeper env) F K env fe (kv (.ref 61))) (x : Evs w (A.deeper env) F K env es [kd (.str msg), kd (.int k)]) (kp : KeepOk w (.ref 61))
    (hs : (es = [] ∧ [kd (.str msg), kd (.int k)] = []) ∨ ∃ t r, starEach es env = (false, t) :: r) (hp : (starEach es env).any (·.1) = false)
    (he : eval (.Call fe es [] pos) env = (do callWith pos (← eval fe env) [] (backTo pos (starEach es env)) []))
    (hE : ∀ s e d h' tk', St w F K s → s.heap.get? e = none → s.heap.get? d = none → d ≠ e → FaultAt h' e d k → Sub s.heap h' → E (.ref e) { s with heap := h', toks := tk' }) :
    Run w (A.deeper env) env F K (.Raise (some (.Call fe es [] pos)) none p2 :: rest) R E := fun s st => by
  refine wpAny_execs_cons (Raise_fault hA ?_)
  rw [he]
  refine wpAny_bind ((hf s st).use fun v s1 k1 p1 => ?_)
  rw [show v = .ref 61 from p1]
  have st1 := st.grow k1
  refine callWith_of (P := G w) ?_ kp ((args_of x hs st1).use fun ar s2 k2 p2 => ?_)
  · rw [List.any_nil, Bool.or_false]
    unfold backTo
    rw [List.any_map]
    exact hp
  · obtain ⟨ps, kw⟩ := ar
    obtain ⟨rfl, p2⟩ := p2
    have st2 := st1.grow k2
    refine ⟨st2.gh, ?_⟩
    (refine all2_2 p2 fun _ _ e_242 h1 h2 => ?_; clear p2; subst e_242)
    (refine ob1_1 (kd_str h1) fun t e_243 => ?_; subst e_243)
    (refine ob1_1 (kd_int h2) fun t' e_244 => ?_; subst e_244)
    refine fault_spec (h₀ := F.B) st2.base st.g.X T (show A.depth + 1 ≤ 950 by omega) fun e d h' tk' a1 a2 a3 a4 a5 => ⟨e, d, k, rfl, st2.gh.X.keeps a5, a4, ?_⟩
    exact hE s2 e d h' tk' st2 a1 a2 a3 a4 a5
end
theorem raise_out {w : World} {A : Around} {base : Heap} {outer : List Env} {s s1 : Shared} {E : Value → Shared → Prop} {k : Int} {qual : Str} {scope : Scope} {L f e d : Addr} {cdv : Value} {F : Fm} {K h' : Heap} {tk' : Nat} (B : Below A base outer s.heap) (eB : F.B = s.heap) (e0 : F.s0 = s) (eL : F.L = L) (hL : s.heap.objs.size ≤ L) (st : St w F K s1)
    (a1 : s1.heap.get? e = none) (a2 : s1.heap.get? d = none) (a3 : d ≠ e) (a4 : FaultAt h' e d k) (a5 : Sub s1.heap h') (hk : scope.kind = .function)
    (exc : ∀ e h' tk', Raised base outer e k h' → s.heap.UpToSlots h' → E (.ref e) { s with heap := h', toks := tk' }) :
    wpAny (model PR w) (A.deeper (envOfC qual scope L f cdv)) (leaving (envOfC qual scope L f cdv) (.ref e)) (fun _ s'' => E (.ref e) s'') (fun e' s'' => E e' s'') { s1 with heap := h', toks := tk' } := by
  have hb := st.base
  rw [eB] at hb
  have hns := st.ns
  rw [eL] at hns
  refine leave_made (m := F.m) B ⟨hns, hb, hL⟩ a4 a1 a2 a3 a5 (fun h'' R'' U'' => ?_) hk
  have hrl := st.rl
  rw [e0] at hrl
  (refine ob2_1 hrl fun hh tt e_245 => ?_; try clear hrl; subst e_245)
  exact exc e h'' tk' R'' U''
theorem run_skip {w : World} {A : Around} {env : Env} {F : Fm} {K : Heap} {rest : List Stmt} {R : Flow → Shared → Prop} {E : Value → Shared → Prop} (h : Run w A env F K rest R E) : Run w A env F K [] (fun fl s' => match fl with | .next => wpAny (model PR w) A (execs rest env) R E s' | fl => R fl s') E := run_nil fun s st => h s st
theorem run_ifJ {w : World} {A : Around} {env : Env} {F : Fm} {K : Heap} {rest b1 b2 : List Stmt} {e : PySem.Expr} {pos : Pos} {R : Flow → Shared → Prop} {E : Value → Shared → Prop} {b : Bool} {α : Type} {F' : α → Fm} {I : Heap → α → Prop} (t : Tr w A F K env e b)
    (y : b = true → Run w A env F K b1 (fun fl s' => fl = .next ∧ ∃ K' o, Sub K K' ∧ I K' o ∧ St w (F' o) K' s') E) (n : b = false → Run w A env F K b2 (fun fl s' => fl = .next ∧ ∃ K' o, Sub K K' ∧ I K' o ∧ St w (F' o) K' s') E)
    (k : ∀ K' o, Sub K K' → I K' o → Run w A env (F' o) K' rest R E) : Run w A env F K (.If e b1 b2 pos :: rest) R E :=
  run_if t (fun h s st => wpAny_mono (y h s st) (fun fl s' z => by obtain ⟨rfl, K', o, S, i, st'⟩ := z; exact k K' o S i s' st') fun _ _ q => q) (fun h s st => wpAny_mono (n h s st) (fun fl s' z => by obtain ⟨rfl, K', o, S, i, st'⟩ := z; exact k K' o S i s' st') fun _ _ q => q)
theorem run_ifD {w : World} {A : Around} {env : Env} {F : Fm} {K : Heap} {rest b1 b2 : List Stmt} {e : PySem.Expr} {pos : Pos} {R : Flow → Shared → Prop} {E : Value → Shared → Prop} {b : Bool} (pre post : Led) (a : Addr) (I : Heap → Obj → Prop) (t : Tr w A F K env e b)
    (y : b = true → Run w A env F K b1 (fun fl s' => fl = .next ∧ ∃ K' o, Sub K K' ∧ I K' o ∧ St w ⟨F.s0, F.B, F.H, F.L, F.m, pre ++ (a, o) :: post⟩ K' s') E) (n : b = false → Run w A env F K b2 (fun fl s' => fl = .next ∧ ∃ K' o, Sub K K' ∧ I K' o ∧ St w ⟨F.s0, F.B, F.H, F.L, F.m, pre ++ (a, o) :: post⟩ K' s') E)
    (k : ∀ K' o, Sub K K' → I K' o → Run w A env ⟨F.s0, F.B, F.H, F.L, F.m, pre ++ (a, o) :: post⟩ K' rest R E) : Run w A env F K (.If e b1 b2 pos :: rest) R E :=
  run_ifJ (F' := fun o => ⟨F.s0, F.B, F.H, F.L, F.m, pre ++ (a, o) :: post⟩) (I := I) t y n k
def placeOf (N : List (Str × Int)) (C : List (Int × Str)) (x : Str) (co : Option Int) : Int :=
  if !(isNameB x) || (look N x).isSome then 1 else if (match co with | none => false | some c => (look C c).isSome) then 2 else 0
def optI : Option Int → PyData
  | none => .none
  | some c => .int c
def putC (C : List (Int × Str)) (x : Str) : Option Int → List (Int × Str)
  | none => C
  | some c => C ++ [(c, x)]
theorem dget_sI {N : List (Str × Int)} {x : Str} : dget (sI N) x = (look N x).map .int := dget_map PyData.int x N
theorem dget_iS {N : List (Int × Str)} {x : Int} : dget (iS N) x = (look N x).map .str := dget_map PyData.str x N
theorem with_glyph_spec {w : World} {A : Around} {base : Heap} {outer : List Env} {s : Shared} {H : List Addr} {vs : List Value} {Q E : Value → Shared → Prop} {p : Program} {loose : List Str} {mean : ExcName → Option Value} {mg mb : Str → Option Value} {N D : List (Str × Int)} {C : List (Int × Str)} {M : List Str} {R : List PyData} {f : KP Value} {x : Str} {co : Option Int} {wd : Int} {mk : Bool}
    (B : Below A base outer s.heap) (gX : (Mine.hd.heap_39 w.params).In base) (gT : Top p loose mean mg mb base) (hA : A.handled = none) (hd : A.depth ≤ 800) (hu : A.units ≤ 800) (l : Live H s.heap)
    (hv : (KPs [kB w (sI N) (iS C) (sI D) (M.map .str) R f, kd (.str x), kd (optI co), kd (.int wd), kd (.bool mk)]).p (hideAll s.heap H) vs)
    (hx0 : PyData.strOk x = true) (hxz : x.length ≤ 1000) (zN : N.length ≤ 900) (zC : C.length ≤ 900) (zD : D.length ≤ 900) (zM : M.length ≤ 900) (hN0 : N ≠ []) (hDN : look N x = none → look D x = none)
    (ret : placeOf N C x co = 0 → ∀ v s', Kp s s' → (kB w (sI (N ++ [(x, maxI (N.map (·.2)) + 1)])) (iS (putC C x co)) (sI (D ++ [(x, wd)])) ((M ++ if mk then [x] else []).map .str) R (kd .none)).p (hideAll s'.heap H) v → Q v s')
    (exc : placeOf N C x co ≠ 0 → ∀ e h' tk', Raised base outer e (placeOf N C x co) h' → s.heap.UpToSlots h' → E (.ref e) { s with heap := h', toks := tk' }) :
    wpAny (model PR w) A (call (.ref 121) vs) Q E s := by
  have g : G w s.heap := ⟨gX.keeps B.stays, _, _, _, _, topRead_of (gT.keeps B.stays)⟩
  have T : Top p loose mean mg mb s.heap := gT.keeps B.stays
  (refine all2_5 hv fun v1 v2 v3 v4 v5 e_246 h1 h2 h3 h4 h5 => ?_; clear hv; subst e_246)
  have h1' := h1
  unfold kB at h1
  k_dflt (refine' fn_enterR (binds := [("bench", v1), ("name", v2), ("code", v3), ("wide", v4), ("is_mark", v5)]) g l ?k6 ?k7 ?k8 ?k9 ?kB ?kD ?_ ?c2 ?c3 ?c4)
  case k6 | k7 => k_is
  case k8 => show A.depth < 1000; omega
  case k9 => exact BindsTo.of_eq rfl
  case kB => exact rfl
  case kD => decide +kernel
  case c2 | c3 | c4 => exact rfl
  intro L cells hL Y
  have hY : cells = [] := cells_none Y
  subst hY
  have dA : ∀ {env : Env} {k : Nat} {f : Value} {Ps : List (KP Value)} {P : KP Value}, On w (Al k k) f Ps P → 803 ≤ k → On w (A.deeper env) f Ps P := fun {env k f Ps P} h hk => on_any h (by exact hA) (by show A.depth + 1 ≤ k; omega) (by show A.units + 3 ≤ k; omega)
  have pb : plainNone (kd (optI co)) co.isNone := by
    cases co with
    | none => exact pn_none
    | some c => exact pn_int
  have hp0 : placeOf N C x co = if !(isNameB x) || (look N x).isSome then 1 else if (match co with | none => false | some c => (look C c).isSome) then 2 else 0 := rfl
  cases b1 : !(isNameB x) || (look N x).isSome with
  | true =>
    rw [b1, if_pos rfl] at hp0
    refine run_if (b := true) ?t1 (fun _ => ?y1) nob'
    case t1 =>
      cases hnm : isNameB x with
      | false => exact tr_bool (.stop (b := true) (tr_b (tr_not (b := isNameB x) (tr_plain (ev_call (by walk_at "E ev") (Evs.cons (by walk_at "E ev") Evs.nil) (dA (is_name_spec hx0 hxz) (by decide)) (keep_ref (by k_is)) (.inr ⟨_, _, rfl⟩) rfl rfl) tru_bool)) (by rw [hnm]; rfl)) rfl)
      | true =>
        rw [hnm] at b1
        exact tr_bool (.go (b := false) (tr_b (tr_not (b := isNameB x) (tr_plain (ev_call (by walk_at "E ev") (Evs.cons (by walk_at "E ev") Evs.nil) (dA (is_name_spec hx0 hxz) (by decide)) (keep_ref (by k_is)) (.inr ⟨_, _, rfl⟩) rfl rfl) tru_bool)) (by rw [hnm]; rfl)) rfl (.stop (b := true) (tr_b (tr_cmp (by walk_at "E ev") (by walk_at "E ev") (op_in keyS)) (by rw [dget_sI]; simpa using b1)) rfl))
    case y1 =>
      refine run_raise hA (by omega) T (by walk_at "E ev") (by walk_at "E args") (keep_ref (by k_is)) (.inr ⟨_, _, rfl⟩) rfl rfl fun s1 e d h' tk' st a1 a2 a3 a4 a5 => ?_
      exact raise_out B rfl rfl rfl hL st a1 a2 a3 a4 a5 rfl fun e h' tk' R U => exc (by rw [hp0]; decide) e h' tk' (by rw [hp0]; exact R) U
  | false =>
    rw [b1, if_neg (by decide)] at hp0
    rw [Bool.or_eq_false_iff] at b1
    obtain ⟨b1, b2⟩ := b1
    have hnm : isNameB x = true := by simpa using b1
    have hnN : look N x = none := by simpa using b2
    refine run_if (b := false) ?t2 nob (fun _ => ?y2)
    case t2 =>
      exact tr_bool (.go (b := false) (tr_b (tr_not (b := isNameB x) (tr_plain (ev_call (by walk_at "E ev") (Evs.cons (by walk_at "E ev") Evs.nil) (dA (is_name_spec hx0 hxz) (by decide)) (keep_ref (by k_is)) (.inr ⟨_, _, rfl⟩) rfl rfl) tru_bool)) (by rw [hnm]; rfl)) rfl (.go (b := false) (tr_b (tr_cmp (by walk_at "E ev") (by walk_at "E ev") (op_in keyS)) (by rw [dget_sI, hnN]; rfl)) rfl .nil))
    case y2 =>
      refine run_skip ?_
      have hD := hDN hnN
      cases b3 : (match co with | none => false | some c => (look C c).isSome) with
      | true =>
        rw [b3, if_pos rfl] at hp0
        cases co with
        | none => exact nob b3
        | some c =>
          refine run_if (b := true) (tr_bool (.go (b := true) (tr_b (tr_cmp (by walk_at "E ev") (by walk_at "E ev") (op_isnot pb)) rfl) rfl (.go (b := true) (tr_b (tr_cmp (Ev.weak (P := kd (.int c)) (by walk_at "E ev") fun _ _ q => q) (by walk_at "E ev") (op_in keyI)) (by rw [dget_iS]; simpa using b3)) rfl .nil))) (fun _ => ?y3) nob'
          case y3 =>
            refine run_raise hA (by omega) T (by walk_at "E ev") (by walk_at "E args") (keep_ref (by k_is)) (.inr ⟨_, _, rfl⟩) rfl rfl fun s1 e d h' tk' st a1 a2 a3 a4 a5 => ?_
            exact raise_out B rfl rfl rfl hL st a1 a2 a3 a4 a5 rfl fun e h' tk' R U => exc (by rw [hp0]; decide) e h' tk' (by rw [hp0]; exact R) U
      | false =>
        rw [b3, if_neg (by decide)] at hp0
        refine run_if (b := false) ?t3 nob (fun _ => run_skip ?y4)
        case t3 =>
          cases co with
          | none => exact tr_bool (.stop (b := false) (tr_b (tr_cmp (by walk_at "E ev") (by walk_at "E ev") (op_isnot pb)) rfl) rfl)
          | some c => exact tr_bool (.go (b := true) (tr_b (tr_cmp (by walk_at "E ev") (by walk_at "E ev") (op_isnot pb)) rfl) rfl (.stop (b := false) (tr_b (tr_cmp (Ev.weak (P := kd (.int c)) (by walk_at "E ev") fun _ _ q => q) (by walk_at "E ev") (op_in keyI)) (by rw [dget_iS]; simpa using b3)) rfl))
        case y4 =>
          refine run_assignN (Q := OwnD (PySem.strKind PR w) (sI N)) (evn_call (by walk_at "E ev") (Evs.cons (by walk_at "E ev") Evs.nil) (onN_dict_copy (by simp; omega)) keep_t (.inr ⟨_, _, rfl⟩) rfl rfl) (fun K1 aN oN S1 q1 n1 nH1 lo1 => ?_) rfl rfl rfl rfl
          refine run_setitem (k := x) (d := .int (maxI (N.map (·.2)) + 1)) (pre := []) keyS rfl rfl q1 (by rw [dget_sI, hnN]; rfl) (by simp; omega) ?mx (by walk_at "E ev") (fun K2 oN' S2 q2 => ?_) rfl rfl rfl (by decide) rfl
          case mx =>
            refine ev_open (pre := []) rfl nH1 (fun h h' v q => by obtain ⟨t, rfl⟩ := kd_int q; exact is_int) fun K' k1 k2 => ?_
            have it : Iter w (kVw (PySem.strKind PR w) (sI N)) ((N.map (·.2)).map fun i => kd (.int i)) := by
              have := iter_vw (w := w) (knd := PySem.strKind PR w) (kvs := sI N)
              rw [List.map_map] at this ⊢
              exact this
            refine ev_bin (ev_call (by walk_at "E ev") (Evs.cons (ev_meth (P₀ := ksd w (sI N)) (Ps := []) (ev_local rfl (own_kdct lo1 k2 (q1.mono k1)) rfl rfl rfl (by decide)) gm_values Evs.nil on_values keep_b (.inl ⟨rfl, rfl⟩) rfl rfl) Evs.nil) (on_max it hA ?_) keep_b (.inr ⟨_, _, rfl⟩) rfl rfl) ev_int op_addI
            simpa using hN0
          dsimp only [List.nil_append, List.cons_append]
          refine run_assignN (Q := OwnD (PySem.intKind PR w) (iS C)) (evn_call (by walk_at "E ev") (Evs.cons (by walk_at "E ev") Evs.nil) (onN_dict_copy (by simp; omega)) keep_t (.inr ⟨_, _, rfl⟩) rfl rfl) (fun K3 aC oC S3 q3 n3 nH3 lo3 => ?_) rfl rfl rfl rfl
          dsimp only
          refine run_ifD (b := !co.isNone) (pre := []) (a := aC) (post := [(aN, oN')]) (I := fun K4 oC' => OwnD (PySem.intKind PR w) (iS (putC C x co)) K4 oC') (tr_cmp (by walk_at "E ev") (by walk_at "E ev") (op_isnot pb)) (fun hb => ?y5) (fun hb => ?y6) fun K4 oC' S4 q4 => ?y7
          case y5 =>
            cases co with
            | none => exact nob hb
            | some c =>
              refine run_setitem (k := c) (d := .str x) (pre := []) keyI rfl rfl q3 (by
                rw [dget_iS]
                simpa using b3) (by simp; omega) (by walk_at "E ev") (Ev.weak (P := kd (.int c)) (by walk_at "E ev") fun _ _ q => q) (fun K4 oC' S4 q4 => run_nil fun s4 st4 => ?_) rfl rfl rfl (by decide) rfl
              refine ⟨rfl, K4, oC', S4, ?_, st4⟩
              show OwnD _ ((C ++ [(c, x)]).map fun p => (p.1, PyData.str p.2)) _ _
              rw [List.map_append]
              exact q4
          case y6 =>
            cases co with
            | none => exact run_nil fun s4 st4 => ⟨rfl, K3, oC, .rfl', q3, st4⟩
            | some c => cases hb
          case y7 =>
            refine run_assignN (Q := OwnD (PySem.strKind PR w) (sI D)) (evn_call (by walk_at "E ev") (Evs.cons (by walk_at "E ev") Evs.nil) (onN_dict_copy (by simp; omega)) keep_t (.inr ⟨_, _, rfl⟩) rfl rfl) (fun K5 aD oD S5 q5 n5 nH5 lo5 => ?_) rfl rfl rfl rfl
            dsimp only
            refine run_setitem (k := x) (d := .int wd) (pre := []) keyS rfl rfl q5 (by rw [dget_sI, hD]; rfl) (by simp; omega) (by walk_at "E ev") (by walk_at "E ev") (fun K6 oD' S6 q6 => ?_) rfl rfl rfl (by decide) rfl
            dsimp only [List.nil_append]
            refine run_free (pre := []) rfl nH5 fun K7 S7 g7 => ?_
            dsimp only [List.nil_append]
            refine run_free (pre := []) rfl nH3 fun K8 S8 g8 => ?_
            dsimp only [List.nil_append]
            refine run_free (pre := []) rfl nH1 fun K9 S9 g9 => ?_
            dsimp only [List.nil_append]
            have pN : (ksd w (sI (N ++ [(x, maxI (N.map (·.2)) + 1)]))).p K9 (.ref aN) := own_kdct lo1 g9 (by
              show OwnD _ ((N ++ [(x, maxI (N.map (·.2)) + 1)]).map fun p => (p.1, PyData.int p.2)) _ _
              rw [List.map_append]
              exact q2.mono (S3.trans (S4.trans (S5.trans (S6.trans (S7.trans (S8.trans S9)))))))
            have pC : (kid w (iS (putC C x co))).p K9 (.ref aC) := own_kdct lo3 (S9 _ _ g8) (q4.mono (S5.trans (S6.trans (S7.trans (S8.trans S9)))))
            have pD : (ksd w (sI (D ++ [(x, wd)]))).p K9 (.ref aD) := own_kdct lo5 (S9 _ _ (S8 _ _ g7)) (by
              show OwnD _ ((D ++ [(x, wd)]).map fun p => (p.1, PyData.int p.2)) _ _
              rw [List.map_append]
              exact q6.mono (S7.trans (S8.trans S9)))
            refine run_return (P := kB w (sI (N ++ [(x, maxI (N.map (·.2)) + 1)])) (iS (putC C x co)) (sI (D ++ [(x, wd)])) ((M ++ if mk then [x] else []).map .str) R (kd .none)) ?ev fun v s' K' _ st pv => ?_
            case ev =>
              refine ev_call (by walk_at "E ev") (Evs.cons (ev_local rfl pN rfl rfl rfl (by decide)) (Evs.cons (ev_local rfl pC rfl rfl rfl (by decide)) (Evs.cons (ev_local rfl pD rfl rfl rfl (by decide)) (Evs.cons ?mk (Evs.cons (by walk_at "E ev") (Evs.cons (by walk_at "E ev") Evs.nil)))))) (dA (on_bench (n := 870) (by decide)) (by decide)) (keep_ref (by k_is)) (.inr ⟨_, _, rfl⟩) rfl rfl
              rw [List.map_append]
              refine ev_tadd (by walk_at "E ev") ?_ ?_
              · refine ev_ite (b := mk) (tr_plain (by walk_at "E ev") tru_bool) (fun h => ?_) (fun h => ?_)
                · rw [h]; exact ev_tup (Evs.cons (by walk_at "E ev") Evs.nil) (of_decide_eq_true rfl)
                · rw [h]; exact ev_tup Evs.nil (of_decide_eq_true rfl)
              · rw [List.length_map, List.length_map]
                cases mk <;> simp <;> omega
            · (refine ob0_2 (fin_of (F := ⟨s, s.heap, H, L, _, []⟩) rfl st pv) fun k1 k2 => ?_)
              exact ret hp0 v s' k1 k2
structure GT (w : World) (B0 : Heap) : Prop where
  X : (Mine.hd.heap_39 w.params).In B0
  T : ∃ (p : Program) (loose : List Str) (mean : ExcName → Option Value) (mg mb : Str → Option Value), Top p loose mean mg mb B0
theorem GT.g {w : World} {B0 : Heap} (x : GT w B0) : G w B0 := ⟨x.X, let ⟨_, _, _, _, _, T⟩ := x.T; ⟨_, _, _, _, topRead_of T⟩⟩
structure PenS (w : World) (B0 : Heap) (X : List Addr) (p c : Addr) (h : Heap) : Prop where
  gt : GT w B0
  sub : Sub B0 h
  bp : B0.get? p = none
  bc : B0.get? c = none
  ne : c ≠ p
  nX : c ∉ X
  ls : ∃ vs ns nc, h.get? c = some (listOf vs.toArray nc) ∧ IntsAre vs ns ∧ vs.length ≤ 63 ∧ vs.length = ns.length
def PenD (c : Addr) (o : Obj) (k : Nat) : Prop := ∃ spot great seed t1 t2 t3 n, o = penO c spot great seed t1 t2 t3 n ∧ 0 ≤ spot ∧ spot ≤ k ∧ 0 ≤ great ∧ 0 ≤ seed ∧ seed < 1009
theorem PenD.up {c : Addr} {o : Obj} {k k' : Nat} (x : PenD c o k) (h : k ≤ k') : PenD c o k' := by
  (refine ob7_1 x fun spot great seed t1 t2 t3 n q_247 => ob0_4 q_247 fun e h1 h2 h3 => ?_; try clear x)
  exact mk7_1 spot great seed t1 t2 t3 n ⟨e, h1, by omega, h3⟩
theorem PenS.mono {w : World} {B0 : Heap} {X : List Addr} {p c : Addr} {h h' : Heap} (x : PenS w B0 X p c h) (k : Sub h h') : PenS w B0 X p c h' := by
  obtain ⟨a1, a2, a3, a4, a5, a6, vs, ns, nc, b1, b2⟩ := x
  exact ⟨a1, a2.trans k, a3, a4, a5, a6, vs, ns, nc, k _ _ b1, b2⟩
abbrev Fm.pen (F : Fm) (p : Addr) (o : Obj) : Fm := ⟨F.s0, F.B, F.H, F.L, F.m, (p, o) :: F.mu⟩
abbrev Fm.hidp (F : Fm) (p : Addr) : List Addr := F.L :: (p :: F.mu.map (·.1) ++ F.H)
def Kq (p : Addr) (s s' : Shared) : Prop := Rl s s' ∧ ∀ b ob, b ≠ p → s.heap.get? b = some ob → s'.heap.get? b = some ob
theorem Kp.q {p : Addr} {s s' : Shared} (x : Kp s s') : Kq p s s' := ⟨x.rl, fun b ob _ q => x.sub b ob q⟩
theorem Kq.trans {p : Addr} {a b c : Shared} (x : Kq p a b) (y : Kq p b c) : Kq p a c := ⟨x.1.trans y.1, fun d ob h q => y.2 d ob h (x.2 d ob h q)⟩
def PostP (w : World) (F : Fm) (p c : Addr) (k : Nat) {α : Type} (P : KP α) (s : Shared) (v : α) (s' : Shared) : Prop := ∃ o', PenD c o' k ∧ St w (F.pen p o') (hideAll s'.heap (F.hidp p)) s' ∧ Sub (hideAll s.heap (F.hidp p)) (hideAll s'.heap (F.hidp p)) ∧ P.p (hideAll s'.heap (F.hidp p)) v ∧ Kq p s s'
def EvP (w : World) (A : Around) (F : Fm) (p c : Addr) (d : Nat) (K : Heap) (env : Env) (e : PySem.Expr) (P : KP Value) : Prop := ∀ o k s, PenD c o k → k + d ≤ 10000 → St w (F.pen p o) K s → wpAny (model PR w) A (eval e env) (PostP w F p c (k + d) P s) (fun _ _ => False) s
def EvsP (w : World) (A : Around) (F : Fm) (p c : Addr) (d : Nat) (K : Heap) (env : Env) (es : List PySem.Expr) (Ps : List (KP Value)) : Prop := ∀ pos o k s, PenD c o k → k + d ≤ 10000 → St w (F.pen p o) K s → wpAny (model PR w) A (spliced (backTo pos (starEach es env))) (PostP w F p c (k + d) (KPs Ps) s) (fun _ _ => False) s
section
variable {w : World} {A : Around} {F : Fm} {p c : Addr} {d d1 d2 k k' : Nat} {K K' : Heap} {env : Env} {e e₁ e₂ : PySem.Expr} {es : List PySem.Expr} {P P' P₁ P₂ R : KP Value} {Ps : List (KP Value)} {s s1 s' : Shared} {pos : Pos}
theorem PostP.of {α : Type} {P : KP α} {o : Obj} {v : α} (hp : PenD c o k) (st : St w (F.pen p o) K s) (kp : Kp s s') (h : P.p (hideAll s'.heap (F.hidp p)) v) : PostP w F p c k P s v s' := ⟨o, hp, st.up kp, sub_hide kp.sub, h, kp.q⟩
theorem PostP.then {α β : Type} {P : KP α} {R : KP β} {v : α} {u : β} (x : PostP w F p c k P s v s1) (y : PostP w F p c k' R s1 u s') : PostP w F p c k' R s u s' := by
  (refine ob1_5 x fun o1 a1 a2 a3 a4 a5 => ?_; try clear x)
  (refine ob1_5 y fun o2 b1 b2 b3 b4 b5 => ?_; try clear y)
  exact mk1_5 o2 b1 b2 (a3.trans b3) b4 (a5.trans b5)
theorem PostP.imp {α β : Type} {P : KP α} {R : KP β} {v : α} {u : β} (x : PostP w F p c k P s v s') (h : P.p (hideAll s'.heap (F.hidp p)) v → R.p (hideAll s'.heap (F.hidp p)) u) : PostP w F p c k R s u s' := by
  (refine ob1_5 x fun o1 a1 a2 a3 a4 a5 => ?_; try clear x)
  exact mk1_5 o1 a1 a2 a3 (h a4) a5
theorem PostP.up {α : Type} {P : KP α} {v : α} (x : PostP w F p c k P s v s') (h : k ≤ k') : PostP w F p c k' P s v s' := by
  (refine ob1_5 x fun o1 a1 a2 a3 a4 a5 => ?_; try clear x)
  exact mk1_5 o1 (a1.up h) a2 a3 a4 a5
theorem evp_of (x : ∀ o, Ev w A (F.pen p o) K env e P) : EvP w A F p c 0 K env e P := fun o k s hp hk st => ((x o) s st).use fun v s1 k1 p1 => .of hp st k1 p1
theorem EvP.weak (x : EvP w A F p c d K env e P) (h : ∀ h v, P.p h v → P'.p h v) : EvP w A F p c d K env e P' := fun o k s hp hk st => wpAny_mono (x o k s hp hk st) (fun v s1 y => y.imp (h _ v)) fun _ _ y => y
theorem EvP.more (x : EvP w A F p c d K env e P) (h : d ≤ d1) : EvP w A F p c d1 K env e P := fun o k s hp hk st => wpAny_mono (x o k s hp (by omega) st) (fun v s1 y => y.up (by omega)) fun _ _ y => y
theorem EvsP.nil : EvsP w A F p c 0 K env [] [] := fun pos o k s hp hk st => wpAny_pure (.of hp st .rfl' .nil)
theorem EvsP.cons (x : EvP w A F p c d1 K env e P) (r : EvsP w A F p c d2 K env es Ps) (hs : starEach (e :: es) env = (false, eval e env) :: starEach es env := by rfl) : EvsP w A F p c (d1 + d2) K env (e :: es) (P :: Ps) := fun pos o k s hp hk st => by
  rw [hs]
  show wpAny _ _ (eval e env >>= fun v => (pure [v] : Sem (List Value)) >>= fun here => holding here (spliced (backTo pos (starEach es env))) >>= fun r => pure (here ++ r)) _ _ _
  refine wpAny_bind (wpAny_mono (x o k s hp (by omega) st) (fun v s1 y => ?_) fun _ _ y => y)
  (refine ob1_5 y fun o1 a1 a2 a3 a4 a5 => ?_; try clear y)
  refine wpAny_bind (wpAny_pure (wpAny_bind (wpAny_holding (wpAny_mono (r pos o1 (k + d1) s1 a1 (by omega) (a2.less (st.in.trans a3))) (fun vs s2 z => wpAny_pure ?_) fun _ _ y => y))))
  (refine ob1_5 z fun o2 b1 b2 b3 b4 b5 => ?_; try clear z)
  exact mk1_5 o2 (by rw [← Nat.add_assoc]; exact b1) b2 (a3.trans b3) (.cons (P.mono b3 a4) b4) (a5.trans b5)
theorem evp_tup {kc : Nat} (x : EvsP w A F p c d K env es Ps) (hz : Ps.length ≤ 10000) : EvP w A F p c d K env (.Tuple es kc pos) (kTup Ps) := fun o k s hp hk st => by
  show wpAny _ _ (standAt pos >>= fun _ => spliced (backTo pos (starEach es env)) >>= fun vs => newTuple vs) _ _ _
  refine wpAny_bind (wpAny_standAt (wpAny_bind (wpAny_mono (x pos o k s hp hk st) (fun vs s1 y => ?_) fun _ _ y => y)))
  have y0 := y
  (refine ob1_5 y0 fun o1 a1 a2 a3 a4 a5 => ?_; try clear y0)
  refine wpAny_newTuple (y.then (P := KPs Ps) (.of a1 a2 keeps_push ⟨s1.heap.objs.size, _, vs.toArray, 0, rfl, push_known a2.lives, rfl, rfl, by simpa using a4.imp fun P _ y => P.mono push_sub y⟩)) ?_
  have := All2.length a4
  rw [sizeLine_eq]; omega
theorem evp_lst (x : EvsP w A F p c d K env es Ps) (hz : Ps.length ≤ 10000) : EvP w A F p c d K env (.List es pos) (kPl Ps) := fun o k s hp hk st => by
  show wpAny _ _ (standAt pos >>= fun _ => spliced (backTo pos (starEach es env)) >>= fun vs => newList vs) _ _ _
  refine wpAny_bind (wpAny_standAt (wpAny_bind (wpAny_mono (x pos o k s hp hk st) (fun vs s1 y => ?_) fun _ _ y => y)))
  have y0 := y
  (refine ob1_5 y0 fun o1 a1 a2 a3 a4 a5 => ?_; try clear y0)
  refine wpAny_newList (y.then (P := KPs Ps) (.of a1 a2 keeps_push ⟨s1.heap.objs.size, vs.toArray, 0, rfl, push_known a2.lives, by simpa using a4.imp fun P _ y => P.mono push_sub y⟩)) ?_
  have := All2.length a4
  rw [sizeLine_eq]; omega
theorem two {R : KP Value} {f : Value → Value → Sem Value} (q : O2 w A f P₁ P₂ R) (x : EvP w A F p c d1 K env e₁ P₁) (y : EvP w A F p c d2 K env e₂ P₂) {o : Obj} (hp : PenD c o k) (hk : k + (d1 + d2) ≤ 10000) (st : St w (F.pen p o) K s) :
    wpAny (model PR w) A (eval e₁ env) (fun v s1 => wpAny (model PR w) A (eval e₂ env) (fun u s2 => wpAny (model PR w) A (f v u) (PostP w F p c (k + (d1 + d2)) R s) (fun _ _ => False) s2) (fun _ _ => False) s1) (fun _ _ => False) s := by
  refine wpAny_mono (x o k s hp (by omega) st) (fun v s1 y1 => ?_) fun _ _ y => y
  (refine ob1_5 y1 fun o1 a1 a2 a3 a4 a5 => ?_; try clear y1)
  refine wpAny_mono (y o1 (k + d1) s1 a1 (by omega) (a2.less (st.in.trans a3))) (fun u s2 y2 => ?_) fun _ _ y => y
  (refine ob1_5 y2 fun o2 b1 b2 b3 b4 b5 => ?_; try clear y2)
  exact (q s2 v u _ b2.gh b2.lives (P₁.mono b3 a4) b4).use fun r s3 k3 p3 => ⟨o2, by rw [← Nat.add_assoc]; exact b1, b2.up k3, (a3.trans b3).trans (sub_hide k3.sub), p3, (a5.trans b5).trans k3.q⟩
theorem evp_sub (x : EvP w A F p c d1 K env e₁ P₁) (y : EvP w A F p c d2 K env e₂ P₂) (q : O2 w A (subscriptTail e₁ e₂) P₁ P₂ R) : EvP w A F p c (d1 + d2) K env (.Subscript e₁ e₂ pos) R := fun o k s hp hk st => Subscript_ (two q x y hp hk st)
theorem evp_bin {op : Operator} (x : EvP w A F p c d1 K env e₁ P₁) (y : EvP w A F p c d2 K env e₂ P₂) (q : O2 w A (binaryOp op) P₁ P₂ R) : EvP w A F p c (d1 + d2) K env (.BinOp e₁ op e₂ pos) R := fun o k s hp hk st => wpAny_BinOp (two q x y hp hk st)
theorem evp_cmp {op : CmpOp} (x : EvP w A F p c d1 K env e₁ P₁) (y : EvP w A F p c d2 K env e₂ P₂) (q : O2 w A (compareOp op) P₁ P₂ R) (hm : behindInMarks op e₂ = false := by with_unfolding_all rfl) : EvP w A F p c (d1 + d2) K env (.Compare e₁ [op] [e₂] pos) R := fun o k s hp hk st => wpAny_Compare1 (two q x y hp hk st) hm
end
def OnP (w : World) (n : Nat) (f : Value) (d : Nat) (Ps : List (KP Value)) (P : KP Value) : Prop := ∀ A B0 X s p c o k H vs, A.handled = none → A.depth ≤ n → A.units ≤ n → p ∈ H → Live H s.heap → s.heap.get? p = some o → PenS w B0 X p c s.heap → PenD c o k → k + d ≤ 10000 → (KPs Ps).p (hideAll s.heap H) vs →
  wpAny (model PR w) A (call f (.ref p :: vs)) (fun v s' => ∃ o', Rl s s' ∧ (∀ b ob, b ≠ p → s.heap.get? b = some ob → s'.heap.get? b = some ob) ∧ s'.heap.get? p = some o' ∧ PenD c o' (k + d) ∧ P.p (hideAll s'.heap H) v) (fun _ _ => False) s
section
variable {w : World} {A : Around} {F : Fm} {p c : Addr} {d n k : Nat} {K : Heap} {env : Env} {e fe : PySem.Expr} {es : List PySem.Expr} {P : KP Value} {Ps : List (KP Value)} {s s' : Shared} {pos : Pos} {f : Value} {B0 : Heap} {X : List Addr}
theorem St.drawn {o o' : Obj} (st : St w (F.pen p o) K s) (hr : Rl s s') (hk : ∀ b ob, b ≠ p → s.heap.get? b = some ob → s'.heap.get? b = some ob) (hp : s'.heap.get? p = some o') : St w (F.pen p o') (hideAll s'.heap (F.hidp p)) s' ∧ Sub (hideAll s.heap (F.hidp p)) (hideAll s'.heap (F.hidp p)) := by
  have pm : (p, o) ∈ (F.pen p o).mu := .head _
  have nd := st.mnd
  change (p :: F.mu.map (·.1)).Nodup at nd
  rw [List.nodup_cons] at nd
  have ne : ∀ q ∈ F.mu, q.1 ≠ p := fun q hq e => nd.1 (e ▸ List.mem_map_of_mem (f := (·.1)) hq)
  refine ⟨⟨st.g, st.rl.trans hr, fun b ob q => hk b ob (fun z => by rw [z, st.bmu _ pm] at q; exact nos q) (st.base b ob q), hide_sub, ?_, fun q hq => ?_, fun b hb => ?_, fun b hb => hideAll_none _ hb, st.bL, fun q hq => ?_, fun q hq => ?_, ?_⟩, fun b ob q => ?_⟩
  · exact st.ns.at' fun ob q => hk _ ob (fun z => st.muL _ pm z.symm) q
  · rcases List.mem_cons.mp hq with rfl | hq
    · exact hp
    · exact hk _ _ (ne q hq) (st.mus q (.tail _ hq))
  · by_cases z : b = p
    · subst z; exact ⟨_, hp⟩
    · (refine ob1_1 (st.live b hb) fun ob q => ?_)
      exact ⟨ob, hk b ob z q⟩
  · rcases List.mem_cons.mp hq with rfl | hq
    · have h := st.bmu _ pm; exact h
    · exact st.bmu q (.tail _ hq)
  · rcases List.mem_cons.mp hq with rfl | hq
    · have h := st.muL _ pm; exact h
    · exact st.muL q (.tail _ hq)
  · show (p :: F.mu.map (·.1)).Nodup
    rw [List.nodup_cons]
    exact nd
  · have hb := hide_notin q
    exact hideAll_get _ (hk b ob (fun z => hb (z ▸ .tail _ (.head _))) (hide_sub _ _ q)) hb
theorem evp_call (hA : A.handled = none) (hd : A.depth ≤ n) (hu : A.units ≤ n) (S : PenS w B0 X p c F.B) (hf : ∀ o, Ev w A (F.pen p o) K env fe (kv f)) (x : ∀ o, Evs w A (F.pen p o) K env es (kv (.ref p) :: Ps)) (q : OnP w n f d Ps P) (kp : KeepOk w f) (hs : ∃ t r, starEach es env = (false, t) :: r) (hp : (starEach es env).any (·.1) = false := by rfl)
    (he : eval (.Call fe es [] pos) env = (do callWith pos (← eval fe env) [] (backTo pos (starEach es env)) []) := by rfl) : EvP w A F p c d K env (.Call fe es [] pos) P := fun o k s hp2 hk st => by
  rw [he]
  refine wpAny_bind ((hf o s st).use fun v s1 k1 p1 => ?_)
  rw [show v = f from p1]
  have st1 := st.grow k1
  refine callWith_of (P := G w) ?_ kp ((args_of (x o) (.inr hs) st1).use fun ar s2 k2 p2 => ?_)
  · rw [List.any_nil, Bool.or_false]
    unfold backTo
    rw [List.any_map]
    exact hp
  · obtain ⟨ps, kw⟩ := ar
    obtain ⟨rfl, p2⟩ := p2
    have st2 := st1.up k2
    refine ⟨st2.gh, ?_⟩
    (refine all2_1c p2 fun _ _ e_249 h1 h2 => ?_; clear p2; subst e_249)
    obtain rfl : _ = Value.ref p := h1
    refine wpAny_mono (q A B0 X s2 p c o k (F.hidp p) _ hA hd hu (.tail _ (.head _)) st2.lives (st2.mus _ (.head _)) (S.mono st2.base) hp2 hk h2) (fun v s3 y => ?_) fun _ _ y => y
    (refine ob1_5 y fun o' a1 a2 a3 a4 a5 => ?_; try clear y)
    (refine ob0_2 (st2.drawn a1 a2 a3) fun b1 b2 => ?_)
    exact mk1_5 o' a4 b1 ((sub_hide k1.sub).trans ((sub_hide k2.sub).trans b2)) a5 ((k1.q.trans k2.q).trans ⟨a1, a2⟩)
def kDig (m : Nat) : KP Value := ⟨fun _ v => ∃ (i : Nat) (t : Tok), i < m ∧ v = .int i t, fun _ x => x⟩
theorem draw_on {m : Nat} (h1 : 1 ≤ m) (h2 : m ≤ 1000) : OnP w 900 (.ref 382) 1 [kd (.int (m : Nat))] (kDig m) := by
  intro A B0 X s p c o k H vs hA hd hu hpH l hp S D hk hv
  obtain ⟨gt, sub, bp, bc, ne, nX, us, ns, nc, hc, hi, hz, hl⟩ := S
  (refine ob7_1 D fun spot great seed t1 t2 t3 n q_251 => ob0_6 q_251 fun e_250 g1 g2 g3 g4 g5 => ?_; try clear D; subst e_250)
  (refine ob5_1 gt.T fun pg loose mean mg mb T => ?_)
  (refine all2_1 hv fun _ e_252 h3 => ?_; clear hv; subst e_252)
  (refine ob1_1 (kd_int h3) fun t e_253 => ?_; subst e_253)
  refine wp_al (draw_spec (h₀ := B0) sub gt.X T hp bp hc bc ne hi g1 (by omega) g3 g4 g5 (by omega) (by omega) hz hl fun d' td spot' great' t1' t2' n' h' tk' a1 a2 a3 a4 a5 kk hp' => ?_) hA hd hu
  refine ⟨_, ⟨h', tk', rfl⟩, kk, hp', ⟨spot', great', seed, t1', t2', t3, n', rfl, by omega, by omega, a3, g4, g5⟩, d'.toNat, td, by omega, ?_⟩
  rw [Int.toNat_of_nonneg a1]
end
section
variable {w : World} {A : Around} {F : Fm} {K : Heap} {env : Env} {P : KP Value} {Ps : List (KP Value)} {e : PySem.Expr} {rest : List Stmt} {pos xp tp : Pos} {x : Str} {R : Flow → Shared → Prop} {E : Value → Shared → Prop} {s : Shared} {v : Value} {c : Addr} {o : Obj} {pre post : Led} {v0 : Option Value} {ts : List PySem.Expr} {vs : List Value}
theorem store_local {Q : Unit → Shared → Prop} (st : St w F K s) (hk : env.scope.kind = .function) (hl : env.kindOf x = some .local) (hL : env.locals = F.L) (h : ∀ s', St w (F.up x v) K s' → Q () s') : wpAny (model PR w) A (storeName env x v) Q E s := by
  refine wpAny_storeName_local hl (by rw [hL]; exact st.ns) (fun h' hn hsb => ?_) (by rw [hk]; rfl)
  rw [hL] at hn hsb
  have keepL : ∀ {b o}, b ≠ F.L → s.heap.get? b = some o → h'.get? b = some o := fun hb q => (hsb.2 _ hb).trans q
  refine h _ ⟨st.g, st.rl.trans ⟨_, _, rfl⟩, fun b o q => keepL (fun z => by rw [z, st.bL] at q; exact nos q) (st.base b o q), fun b o q => keepL (fun z => by rw [z, st.out _ (.head _)] at q; exact nos q) (st.sub b o q),
    hn, fun q hq => keepL (st.muL q hq) (st.mus q hq), fun b hb => ?_, st.out, st.bL, st.bmu, st.muL, st.mnd⟩
  by_cases hbL : b = F.L
  · subst hbL
    (refine ob3_2 hn fun o _ _ q _ => ?_; try clear hn)
    exact ⟨o, q⟩
  · (refine ob1_1 (st.live b hb) fun o q => ?_)
    exact ⟨o, keepL hbL q⟩
theorem store_cell {Q : Unit → Shared → Prop} (st : St w F K s) (hmu : F.mu = pre ++ (c, o) :: post) (hd : o.data = .cell v0) (hc : env.cells.lookup x = some c) (hk : env.scope.kind = .function) (hl : env.kindOf x = some .cell)
    (h : ∀ s' o', o'.data = .cell (some v) → St w ⟨F.s0, F.B, F.H, F.L, F.m, pre ++ (c, o') :: post⟩ K s' → Q () s') : wpAny (model PR w) A (storeName env x v) Q E s := by
  refine wpAny_storeName_cell hk hl hc ⟨o, st.mus _ (by rw [hmu]; exact List.mem_append_right _ (.head _)), hd⟩ (fun h' hn hsb => ?_)
  (refine ob1_2 hn fun o' ho' hd' => ?_; try clear hn)
  exact h _ o' hd' (st.setMu (tk := s.toks) hmu ho' fun b ob hb q => (hsb.2 b hb).trans q)
def Stores (w : World) (A : Around) (env : Env) (F : Fm) (K : Heap) (ts : List PySem.Expr) (vs : List Value) (rest : List Stmt) (R : Flow → Shared → Prop) (E : Value → Shared → Prop) : Prop :=
  ∀ s, St w F K s → wpAny (model PR w) A (assignInOrder ((assignEach ts env).map (·.2)) vs) (fun _ s' => wpAny (model PR w) A (execs rest env) R E s') E s
theorem stores_nil (h : Run w A env F K rest R E) : Stores w A env F K [] [] rest R E := fun s st => wpAny_pure (h s st)
theorem stores_local (h : Stores w A env (F.up x v) K ts vs rest R E) (hk : env.scope.kind = .function := by rfl) (hl : env.kindOf x = some .local := by rfl) (hL : env.locals = F.L := by rfl) : Stores w A env F K (.Name x xp :: ts) (v :: vs) rest R E := fun s st => by
  show wpAny _ _ (holding vs (assign (.Name x xp) env v) >>= fun _ => assignInOrder ((assignEach ts env).map (·.2)) vs) _ _ _
  exact wpAny_bind (wpAny_holding (assign_Name (store_local st hk hl hL fun s' st' => h s' st')))
theorem stores_cell (hmu : F.mu = pre ++ (c, o) :: post) (hd : o.data = .cell v0) (h : ∀ o', o'.data = .cell (some v) → Stores w A env ⟨F.s0, F.B, F.H, F.L, F.m, pre ++ (c, o') :: post⟩ K ts vs rest R E)
    (hc : env.cells.lookup x = some c) (hk : env.scope.kind = .function := by rfl) (hl : env.kindOf x = some .cell := by rfl) : Stores w A env F K (.Name x xp :: ts) (v :: vs) rest R E := fun s st => by
  show wpAny _ _ (holding vs (assign (.Name x xp) env v) >>= fun _ => assignInOrder ((assignEach ts env).map (·.2)) vs) _ _ _
  exact wpAny_bind (wpAny_holding (assign_Name (store_cell st hmu hd hc hk hl fun s' o' hd' st' => h o' hd' s' st')))
theorem draw_walk {I : Addr} {fp wr : List Addr} {n : Nat} {Pi : Nat → Value → Prop} {Stt : Nat → Heap → Prop} (W : Walks PR w A I fp wr n Pi Stt) {kn : Heap} (hn : n = Ps.length) (hPi : ∀ i v, i < n → Pi i v → ∃ Pk, Ps[i]? = some Pk ∧ Pk.p kn v)
    (m : Nat) : ∀ (i : Nat) (s : Shared) (Q : List Value → Shared → Prop), i + m = n → Stt i s.heap → (∀ vs h' tk, All2 (fun (P : KP Value) v => P.p kn v) (Ps.drop i) vs → Stt n h' → (∀ b o, b ∉ wr → s.heap.get? b = some o → h'.get? b = some o) → Q vs { s with heap := h', toks := tk }) → wpAny (model PR w) A (draw (.ref I) m) Q E s := by
  induction m with
  | zero =>
    intro i s Q him st hQ
    show wpAny _ _ (pure []) Q E s
    have hi : i = n := him
    subst hi
    refine wpAny_pure (hQ [] s.heap s.toks ?_ st fun _ _ _ e => e)
    rw [hn, List.drop_length]; exact .nil
  | succ m ih =>
    intro i s Q him st hQ
    show wpAny _ _ (pyNext (.ref I) >>= _) Q E s
    have hlt : i < n := him ▸ Nat.lt_add_of_pos_right (Nat.succ_pos m)
    refine wpAny_bind (W.item i _ _ _ hlt st fun v h1 tk1 hv st1 hk1 => ?_)
    refine wpAny_bind (wpAny_holding (ih (i + 1) _ _ ((Nat.succ_add i m).trans him) st1 fun vs h2 tk2 hall st2 hk2 => wpAny_pure ?_))
    refine ob1_2 (hPi i v hlt hv) fun Pk e hp => ?_
    refine hQ (v :: vs) h2 tk2 ?_ st2 fun b o hb q => hk2 b o hb (hk1 b o hb q)
    refine Exists.elim (List.getElem?_eq_some_iff.mp e) fun hlt2 e2 => ?_
    rw [List.drop_eq_getElem_cons hlt2, e2]
    exact .cons hp hall
theorem unpack_items {H : List Addr} {Q : List Value → Shared → Prop} {T : String} (hT : T = "list" ∨ T = "tuple") (hA : A.handled = none) (g : G w s.heap) (l : Live H s.heap) (hv : (kSeq T Ps).p (hideAll s.heap H) v)
    (h : ∀ vs s', Kp s s' → All2 (fun (P : KP Value) v => P.p (hideAll s'.heap H) v) Ps vs → Q vs s') : wpAny (model PR w) A (unpackItems v Ps.length none) Q E s := by
  have it : Iter w (kSeq T Ps) Ps := by
    rcases hT with rfl | rfl
    · exact iter_list
    · exact iter_tup
  have hv0 := hv
  (refine ob4_5 hv0 fun a ob us nn e_254 ha hc hd hq => ?_; try clear hv0; subst e_254)
  unfold unpackItems
  refine wpAny_bind ?_
  unfold notIterableAtAll
  have hty : s.TypeIs (.ref a) T := ⟨_, hide_sub _ _ ha, hc⟩
  have sp : ∃ y, typeLookup (.type T) "__iter__" = pure (some y) := by
    rcases hT with rfl | rfl
    · exact ⟨_, PySem.F.slot_list_iter.lookup⟩
    · exact ⟨_, PySem.F.slot_tuple_iter.lookup⟩
  (refine ob1_1 sp fun y hy => ?_; try clear sp)
  refine wpAny_bind (wpAny_specialOf hty hy ?_)
  refine wpAny_pure ?_
  simp only [Option.isSome_some, if_true, Bool.false_eq_true, if_false]
  refine wpAny_bind (wpAny_holding (it A s _ H _ _ hA g l hv fun I fp wr n Pi Stt h' tk W hn hst hk hwr hfp hlv hPi => ?_))
  refine wpAny_bind (wpAny_holding (draw_walk W hn hPi Ps.length 0 _ _ (by omega) hst fun vs h1 tk1 hall hst1 hk1 => ?_))
  have hall : All2 (fun (P : KP Value) v => P.p (hideAll s.heap H) v) Ps vs := hall
  have hlen := hall.length
  rw [if_neg (by omega)]
  refine wpAny_bind (wpAny_holding (W.done _ _ _ hst1 fun h2 tk2 hk2 => ?_))
  simp only [Option.isSome_none, Bool.false_eq_true, if_false]
  have kk : Sub s.heap h2 := fun b ob q => by
    have hb : b ∉ wr := fun hb => by rw [hwr b hb] at q; exact nos q
    exact hk2 b ob hb (hk1 b ob hb (hk b ob q))
  exact wpAny_pure (h vs _ ⟨h2, tk2, rfl, kk⟩ (hall.imp fun P _ y => P.mono (sub_hide kk) y))
theorem assign_len (ts : List PySem.Expr) (env : Env) : (assignEach ts env).length = ts.length := by
  induction ts with
  | nil => rfl
  | cons t ts ih => cases t <;> exact congrArg Nat.succ ih
theorem run_unpack {T : String} {kc : Nat} (hT : T = "list" ∨ T = "tuple") (hA : A.handled = none) (x' : Ev w A F K env e (kSeq T Ps)) (hlen : Ps.length = ts.length) (hst : (assignEach ts env).findIdx? (·.1) = none)
    (k : ∀ K' vs, Sub K K' → All2 (fun (P : KP Value) v => P.p K' v) Ps vs → Stores w A env F K' ts vs rest R E)
    (hs : swapsWithSole [.Tuple ts kc tp] e pos.line env = pure false := by rfl)
    (hw : swappedStores [.Tuple ts kc tp] e env = pure none := by rfl) : Run w A env F K (.Assign [.Tuple ts kc tp] e pos :: rest) R E := fun s st => by
  have el := assign_len ts env
  refine wpAny_execs_cons (Assign_Tuple ((x' s st).use fun v s1 k1 p1 => ?_) hs hw)
  have st1 := st.up k1
  show wpAny _ _ (standAt tp >>= fun _ => unpack v (assignEach ts env)) _ _ _
  refine wpAny_bind (wpAny_standAt ?_)
  unfold unpack
  refine wpAny_bind (wpAny_holding ?_)
  rw [hst, el, ← hlen]
  refine unpack_items hT hA st1.gh st1.lives p1 fun vs s2 k2 hall => ?_
  exact k _ vs ((st.in.trans (sub_hide k1.sub)).trans (sub_hide k2.sub)) hall s2 (st1.up k2)
end
section
variable {w : World} {A : Around} {F : Fm} {p c : Addr} {d k kt : Nat} {K : Heap} {env : Env} {P : KP Value} {Ps : List (KP Value)} {e : PySem.Expr} {rest : List Stmt} {pos xp tp : Pos} {x : Str} {R : Flow → Shared → Prop} {E : Value → Shared → Prop} {s : Shared} {v : Value} {o : Obj} {ts : List PySem.Expr}
theorem run_assignP (x' : EvP w A F p c d K env e P) (hp : PenD c o k) (hk : k + d ≤ 10000) (kk : ∀ o' K' v, PenD c o' (k + d) → Sub K K' → P.p K' v → Run w A env ((F.up x v).pen p o') K' rest R E) (hkd : env.scope.kind = .function := by rfl) (hl : env.kindOf x = some .local := by rfl) (hL : env.locals = F.L := by rfl)
    (hs : swapsWith e (some (.Name x xp)) pos.line env = pure false := by rfl) : Run w A env (F.pen p o) K (.Assign [.Name x xp] e pos :: rest) R E := fun s st => by
  refine wpAny_execs_cons (wpAny_Assign_Name (wpAny_mono (x' o k s hp hk st) (fun v s1 y => ?_) fun _ _ y => y.elim) hs)
  (refine ob1_5 y fun o1 a1 a2 a3 a4 a5 => ?_; try clear y)
  exact store_local a2 hkd hl hL fun s' st' => kk o1 _ v a1 (st.in.trans a3) a4 s' st'
theorem run_assignCP {ca : Addr} {oc : Obj} {pre post : Led} {v0 : Option Value} (x' : EvP w A F p c d K env e P) (hmu : F.mu = pre ++ (ca, oc) :: post) (hd : oc.data = .cell v0) (hp : PenD c o k) (hk : k + d ≤ 10000) (kk : ∀ o' oc' K' v, PenD c o' (k + d) → Sub K K' → P.p K' v → oc'.data = .cell (some v) → Run w A env (Fm.pen ⟨F.s0, F.B, F.H, F.L, F.m, pre ++ (ca, oc') :: post⟩ p o') K' rest R E)
    (hc : env.cells.lookup x = some ca) (hkd : env.scope.kind = .function := by rfl) (hl : env.kindOf x = some .cell := by rfl)
    (hs : swapsWith e (some (.Name x xp)) pos.line env = pure false := by rfl) : Run w A env (F.pen p o) K (.Assign [.Name x xp] e pos :: rest) R E := fun s st => by
  refine wpAny_execs_cons (wpAny_Assign_Name (wpAny_mono (x' o k s hp hk st) (fun v s1 y => ?_) fun _ _ y => y.elim) hs)
  (refine ob1_5 y fun o1 a1 a2 a3 a4 a5 => ?_; try clear y)
  exact store_cell (pre := (p, o1) :: pre) (post := post) a2 (by show (p, o1) :: F.mu = _; rw [hmu]; rfl) hd hc hkd hl fun s' o' hd' st' => kk o1 o' _ v a1 (st.in.trans a3) a4 hd' s' st'
theorem run_unpackP {T : String} {kc : Nat} (hT : T = "list" ∨ T = "tuple") (hA : A.handled = none) (x' : EvP w A F p c d K env e (kSeq T Ps)) (hp : PenD c o k) (hk : k + d ≤ 10000) (hlen : Ps.length = ts.length) (hst : (assignEach ts env).findIdx? (·.1) = none)
    (kk : ∀ o' K' vs, PenD c o' (k + d) → Sub K K' → All2 (fun (P : KP Value) v => P.p K' v) Ps vs → Stores w A env (F.pen p o') K' ts vs rest R E)
    (hs : swapsWithSole [.Tuple ts kc tp] e pos.line env = pure false := by rfl)
    (hw : swappedStores [.Tuple ts kc tp] e env = pure none := by rfl) : Run w A env (F.pen p o) K (.Assign [.Tuple ts kc tp] e pos :: rest) R E := fun s st => by
  have el := assign_len ts env
  refine wpAny_execs_cons (Assign_Tuple (wpAny_mono (x' o k s hp hk st) (fun v s1 y => ?_) fun _ _ y => y.elim) hs hw)
  (refine ob1_5 y fun o1 a1 a2 a3 a4 a5 => ?_; try clear y)
  show wpAny _ _ (standAt tp >>= fun _ => unpack v (assignEach ts env)) _ _ _
  refine wpAny_bind (wpAny_standAt ?_)
  unfold unpack
  refine wpAny_bind (wpAny_holding ?_)
  rw [hst, el, ← hlen]
  refine unpack_items hT hA a2.gh a2.lives a4 fun vs s2 k2 hall => ?_
  exact kk o1 _ vs a1 ((st.in.trans a3).trans (sub_hide k2.sub)) hall s2 (a2.up k2)
def FinP (s : Shared) (p c : Addr) (H : List Addr) (k : Nat) (P : KP Value) (fl : Flow) (s' : Shared) : Prop := ∃ o', Rl s s' ∧ (∀ b ob, b ≠ p → s.heap.get? b = some ob → s'.heap.get? b = some ob) ∧ s'.heap.get? p = some o' ∧ PenD c o' k ∧ P.p (hideAll s'.heap H) (retOf fl)
theorem finp_of (hB : F.B = hideAll F.s0.heap [p]) (st : St w (F.pen p o) K s) (hp : PenD c o k) (hk : k ≤ kt) (h : P.p K v) : FinP F.s0 p c F.H kt P (.ret v) s := by
  refine mk1_5 o st.rl (fun b ob hb q => st.base b ob ?_) (st.mus _ (.head _)) (hp.up hk) (P.mono (sub_into st.sub fun b hb => st.out b (.tail _ (List.mem_append_right _ hb))) h)
  show F.B.get? b = some ob
  rw [hB]
  exact hideAll_get _ q fun hm => hb (List.mem_singleton.mp hm)
theorem run_returnP (hB : F.B = hideAll F.s0.heap [p]) (x : EvP w A F p c d K env e P) (hp : PenD c o k) (hk : k + d ≤ kt) (hkt : kt ≤ 10000) : Run w A env (F.pen p o) K (.Return (some e) pos :: rest) (FinP F.s0 p c F.H kt P) E := fun s st =>
  wpAny_execs_cons (wpAny_Return_some (wpAny_mono (x o k s hp (by omega) st) (fun v s1 y => by
    (refine ob1_5 y fun o1 a1 a2 a3 a4 a5 => ?_; try clear y)
    exact finp_of hB a2 a1 hk a4) fun _ _ y => y.elim))
end
theorem St.pen1 {w : World} {F : Fm} {K : Heap} {s : Shared} {p : Addr} {o : Obj} {s0 : Shared} {B : Heap} {H : List Addr} {L : Addr} {m : Str → Option Value} {mu : Led} (st : St w ⟨s0, B, H, L, m, mu ++ [(p, o)]⟩ K s) : St w ⟨s0, B, H, L, m, (p, o) :: mu⟩ K s := by
  have mem : ∀ {q}, q ∈ (p, o) :: mu → q ∈ mu ++ [(p, o)] := fun h => by
    rcases List.mem_cons.mp h with rfl | h
    · exact List.mem_append_right _ (.head _)
    · exact List.mem_append_left _ h
  refine ⟨st.g, st.rl, st.base, st.sub, st.ns, fun q hq => st.mus q (mem hq), st.live, fun b hb => st.out b ?_, st.bL, fun q hq => st.bmu q (mem hq), fun q hq => st.muL q (mem hq), ?_⟩
  · rcases List.mem_cons.mp hb with rfl | hb
    · exact .head _
    rcases List.mem_append.mp hb with hb | hb
    · (refine ob1_2 (List.mem_map.mp hb) fun q hq e_255 => ?_; subst e_255)
      exact .tail _ (List.mem_append_left _ (List.mem_map_of_mem (f := (·.1)) (mem hq)))
    · exact .tail _ (List.mem_append_right _ hb)
  · have nd := st.mnd
    change ((mu ++ [(p, o)]).map (·.1)).Nodup at nd
    rw [List.map_append, List.nodup_append] at nd
    (refine ob0_3 nd fun n1 _ n3 => ?_; try clear nd)
    show (p :: mu.map (·.1)).Nodup
    rw [List.nodup_cons]
    exact ⟨fun hm => n3 p hm p (.head _) rfl, n1⟩
section
variable {w : World} {A : Around} {s : Shared} {H : List Addr} {P : KP Value} {p c : Addr} {o : Obj} {k kt : Nat} {B0 : Heap} {X : List Addr}
  {name qual : Str} {params : Arguments} {body : List Stmt} {scope : Scope} {dV kV doc pm cdv ct oc : Value} {an od : Option Addr} {osl : Array (Option Value)} {f : Addr} {vs : List Value} {binds : List (Str × Value)}
theorem fn_enterP (hpH : p ∈ H) (l : Live H s.heap) (hp : s.heap.get? p = some o) (S : PenS w B0 X p c s.heap)
    (ho : (Mine.hd.heap_39 w.params).lookup f = some ⟨oc, od, .func (fnX name qual params body scope [] dV kV doc pm an cdv ct), osl⟩) (hcd : codeIn (Mine.hd.heap_39 w.params) cdv qual = true) (hroom : A.depth < recursionLimit)
    (hbind : BindsTo s (fnX name qual params body scope [] dV kV doc pm an cdv ct) ⟨vs, []⟩ binds)
    (hkind : (binds.all fun y => scope.names.lookup y.1 == some .local || scope.names.lookup y.1 == some .cell) = true)
    (hnd : ((cellsFrom 0 scope.names []).map (·.1)).Nodup)
    (h : ∀ L cells, s.heap.objs.size ≤ L → CellsAre (bindC (envOfC qual scope L f cdv).kindOf binds fun _ => none) (cellsFrom (L + 1) scope.names []) cells → PenS w B0 X p c (hideAll s.heap [p]) → p < L →
      Run w (A.deeper (envOfC qual scope L f cdv)) (envOfC qual scope L f cdv) (Fm.pen ⟨s, hideAll s.heap [p], H, L, bindL (envOfC qual scope L f cdv).kindOf binds fun _ => none, cells⟩ p o) (hideAll s.heap H) body (FinP s p c H kt P) fun _ _ => False)
    (hco : scope.isCoroutine = false := by rfl) (hgen : scope.isGenerator = false := by rfl) (hk : scope.kind = .function := by rfl) :
    wpAny (model PR w) A (call (.ref f) vs) (fun v s' => ∃ o', Rl s s' ∧ (∀ b ob, b ≠ p → s.heap.get? b = some ob → s'.heap.get? b = some ob) ∧ s'.heap.get? p = some o' ∧ PenD c o' kt ∧ P.p (hideAll s'.heap H) v) (fun _ _ => False) s := by
  obtain ⟨gt, sub, bp, bc, ne, nX, us, ns, nc, hc, hi, hz, hl⟩ := S
  have sB : Sub B0 (hideAll s.heap [p]) := sub_into sub fun b hb => by rw [List.mem_singleton.mp hb]; exact bp
  refine wpAny_call (fn_enterG (B := hideAll s.heap [p]) (K := hideAll s.heap H) (mu0 := [(p, o)]) (gt.g.mono sB) hide_sub hide_sub l (fun q hq => ?_) (fun b hb => hideAll_none _ hb) (List.nodup_cons.mpr ⟨by simp, List.nodup_nil⟩) ho hcd hroom hbind hkind hnd (fun L cells hL _ _ Y s1 st => ?_) hco hgen hk)
  · cases List.mem_singleton.mp hq
    exact mk0_3 hp (hideAll_none _ (.head _)) (hideAll_none _ hpH)
  · refine wpAny_mono (h L cells hL Y ⟨gt, sB, bp, bc, ne, nX, us, ns, nc, hideAll_get _ hc fun hm => ne (List.mem_singleton.mp hm), hi, hz, hl⟩ (Nat.lt_of_lt_of_le (Heap.lt_size hp) hL) s1 (St.pen1 (F := ⟨s, s.heap, [], 0, fun _ => none, []⟩) st)) (fun fl s' q => q) fun _ _ q => q.elim
end
def kasRun {α : Type} (lt : Nat → Nat → Bool) : KasT α → α
  | .ret a => a
  | .ask i j k => kasRun lt (k (lt i j))
def asksIn {α : Type} (n : Nat) (ok : α → Bool) : KasT α → Bool
  | .ret a => ok a
  | .ask i j k => decide (i < n) && decide (j < n) && asksIn n ok (k true) && asksIn n ok (k false)
theorem kas_pure {α : Type} {n : Nat} {ok : α → Bool} {cmp : Nat → Nat → (Bool → Shared → Prop) → Shared → Prop} {lt : Nat → Nat → Bool} {Q : α → Shared → Prop} {s : Shared} (hc : ∀ i j C, i < n → j < n → C (lt i j) s → cmp i j C s)
    (t : KasT α) (h : asksIn n ok t = true) (q : ok (kasRun lt t) = true → Q (kasRun lt t) s) : t.kasWp cmp Q s := by
  induction t with
  | ret a => exact q h
  | ask i j k ih =>
    replace h : (decide (i < n) && decide (j < n) && asksIn n ok (k true) && asksIn n ok (k false)) = true := h
    rw [Bool.and_eq_true, Bool.and_eq_true, Bool.and_eq_true, decide_eq_true_eq, decide_eq_true_eq] at h
    refine hc i j _ h.1.1.1 h.1.1.2 (ih (lt i j) ?_ q)
    cases lt i j
    · exact h.2
    · exact h.1.2
def permOk (n : Nat) (p : Array Nat) : Bool := p.size == n && p.all (fun i => decide (i < n))
def sortPerm (n : Nat) (lt : Nat → Nat → Bool) : List Nat := if n < 2 then List.range n else (kasRun lt (kas_sort n)).toList
theorem sort_ok (n : Nat) (h : 2 ≤ n) (h6 : n ≤ 6) : asksIn n (permOk n) (kas_sort n) = true :=
  (by decide +kernel : ∀ n : Nat, n < 7 → 2 ≤ n → asksIn n (permOk n) (kas_sort n) = true) n (Nat.lt_succ_of_le h6) h
section
variable {w : World} {A : Around} {E : Value → Shared → Prop} {s : Shared} {a : Addr} {vs : List Value} {κ : SortKind} {lt : Nat → Nat → Bool}
theorem list_sort_raw {n : Nat} {P : PySem.Fin → Shared → Prop} (ho : s.heap.get? a = some (seqObj "list" vs.toArray n)) (h6 : vs.length ≤ 6)
    (hk : 2 ≤ vs.length → ∀ s0 : Shared, (∀ b o, b ≠ a → s.heap.get? b = some o → s0.heap.get? b = some o) → ∀ Q : SortKind → Shared → Prop, Q κ s0 → wpAny (model PR w) A (keyKind' vs.toArray) Q (fun _ _ => False) s0)
    (hask : ∀ s0 : Shared, (∀ b o, b ≠ a → s.heap.get? b = some o → s0.heap.get? b = some o) → ∀ i j C, i < vs.length → j < vs.length → C (lt i j) s0 → kas_ask PR w A κ vs i j C s0)
    (h : ∀ h' c, (∀ b o, b ≠ a → s.heap.get? b = some o → h'.get? b = some o) → h'.get? a = some (seqObj "list" (List.toArray ((sortPerm vs.length lt).map fun i => vs.getD i Value.none)) c) → P (.done (.ret .none)) { s with heap := h' }) :
    wpAny (model PR w) A (Builtin.«list.sort» ⟨[.ref a], []⟩) P E s := by
  have ha : a < s.heap.objs.size := Heap.lt_size ho
  have s1 := Heap.SameBut.update s.heap a (Obj.mapSeq fun _ => (#[] : Array Value))
  obtain ⟨e1, ho1⟩ : ∃ e1, (s.heap.update a (Obj.mapSeq fun _ => (#[] : Array Value))).get? a = some (seqObj "list" #[] e1) := ⟨_, get?_update_seq ho fun _ => #[]⟩
  have k3 : ∀ b o, b ≠ a → s.heap.get? b = some o → (((s.heap.update a (Obj.mapSeq fun _ => (#[] : Array Value))).push (seqObj "tuple" vs.toArray 0)).push (seqObj "list" #[] 0)).get? b = some o := fun b o hb q => Heap.get?_push_of_some _ (Heap.get?_push_of_some _ ((s1.2 b hb).trans q))
  have ho3 : (((s.heap.update a (Obj.mapSeq fun _ => (#[] : Array Value))).push (seqObj "tuple" vs.toArray 0)).push (seqObj "list" #[] 0)).get? a = some (seqObj "list" #[] e1) := Heap.get?_push_of_some _ (Heap.get?_push_of_some _ ho1)
  rw [list_sort_plain]
  refine wpAny_bind (listItems_at ho rfl ?_)
  refine wpAny_bind (listUpdate_at ho rfl ?_ (by rw [List.size_toArray, sizeLine_eq]; omega) (Nat.zero_le _))
  refine wpAny_bind (seqEpoch_at ho1 rfl ?_)
  refine wpAny_bind (wpAny_newTuple ?_ (by show vs.length ≤ _; rw [sizeLine_eq]; omega))
  refine wpAny_bind (wpAny_newList ?_ (Nat.zero_le _))
  refine wpAny_holding ?_
  show wpAny (model PR w) A _ P E { s with heap := ((s.heap.update a (Obj.mapSeq fun _ => (#[] : Array Value))).push (seqObj "tuple" vs.toArray 0)).push (seqObj "list" #[] 0) }
  dsimp only
  by_cases hn2 : vs.toArray.size < 2
  · rw [if_pos hn2, if_pos hn2]
    refine wpAny_bind (wpAny_pure ?_)
    rw [StateT.run_pure]
    refine wpAny_bind (wpAny_pure ?_)
    dsimp only
    rw [List.size_toArray] at hn2
    have hout : (arrOf (SortSt.mk' general' (vs.toArray.zip vs.toArray) #[] 7 none)).map (·.2) = List.toArray ((sortPerm vs.length lt).map fun i => vs.getD i Value.none) := by
      unfold sortPerm
      rw [if_pos hn2]
      show (vs.toArray.zip vs.toArray).map (·.2) = _
      cases vs with
      | nil => with_unfolding_all rfl
      | cons v l =>
        cases l with
        | nil => with_unfolding_all rfl
        | cons _ _ => exact absurd hn2 (Nat.not_lt.mpr (Nat.le_add_left 2 _))
    rw [hout]
    have hsz : (List.toArray ((sortPerm vs.length lt).map fun i => vs.getD i Value.none)).size ≤ 6 := by
      rw [List.size_toArray, List.length_map]; unfold sortPerm; rw [if_pos hn2, List.length_range]; omega
    have s2 := Heap.SameBut.update (((s.heap.update a (Obj.mapSeq fun _ => (#[] : Array Value))).push (seqObj "tuple" vs.toArray 0)).push (seqObj "list" #[] 0)) a (Obj.mapSeq fun _ => List.toArray ((sortPerm vs.length lt).map fun i => vs.getD i Value.none))
    refine wpAny_bind (seqEpoch_at ho3 rfl ?_)
    refine wpAny_bind (listUpdate_at ho3 rfl ?_ (Nat.zero_le _) (Nat.le_trans hsz (by rw [sizeLine_eq]; omega)))
    show wpAny _ _ (if (e1 != e1) = true then _ else _) _ _ _
    simp only [bne_self_eq_false, Bool.false_eq_true, if_false]
    exact wpAny_pure (h _ _ (fun b o hb q => (s2.2 b hb).trans (k3 b o hb q)) (get?_update_seq ho3 fun _ => _))
  · rw [if_neg hn2, if_neg hn2]
    rw [List.size_toArray] at hn2
    refine wpAny_bind (wpAny_mono (hk (by omega) _ k3 (fun κ' s' => κ' = κ ∧ s' = { s with heap := ((s.heap.update a (Obj.mapSeq fun _ => (#[] : Array Value))).push (seqObj "tuple" vs.toArray 0)).push (seqObj "list" #[] 0) }) ⟨rfl, rfl⟩) (fun κ' s0 hq => ?_) fun _ _ x => x.elim)
    (refine ob0_2 hq fun e_256 e_257 => ?_; try clear hq; subst e_256; subst e_257)
    have tree : (kas_sort vs.length).kasWp (kas_ask PR w A κ' vs) (fun p s'' => p.toList = sortPerm vs.length lt ∧ s'' = { s with heap := ((s.heap.update a (Obj.mapSeq fun _ => (#[] : Array Value))).push (seqObj "tuple" vs.toArray 0)).push (seqObj "list" #[] 0) }) { s with heap := ((s.heap.update a (Obj.mapSeq fun _ => (#[] : Array Value))).push (seqObj "tuple" vs.toArray 0)).push (seqObj "list" #[] 0) } :=
      kas_pure (n := vs.length) (ok := permOk vs.length) (lt := lt) (fun i j C hi hj hC => hask _ k3 i j C hi hj hC) _ (sort_ok _ (by omega) h6) fun _ => ⟨by unfold sortPerm; rw [if_neg hn2], rfl⟩
    refine wpAny_bind (wpAny_mono (kat_run (Q := fun st' s' => ∃ p : Array Nat, p.size = vs.length ∧ arrOf st' = p.map (kas_item (vs.toArray.zip vs.toArray)) ∧ failedOf st' = none ∧ p.toList = sortPerm vs.length lt ∧ s' = { s with heap := ((s.heap.update a (Obj.mapSeq fun _ => (#[] : Array Value))).push (seqObj "tuple" vs.toArray 0)).push (seqObj "list" #[] 0) })
      rfl (by omega) (by omega) (fun p' st' s' a1 a2 a3 a4 => ⟨p', a1, a2, a3, a4⟩) tree) ?_ fun _ _ e => e)
    (intro o_258 s' o_259; obtain ⟨⟨⟩, st'⟩ := o_258; (refine ob1_5 o_259 fun p hp har hf hpl e_260 => ?_; try clear o_259; subst e_260))
    dsimp only
    have hout := kat_snds rfl har
    rw [hout, hpl]
    have hsz : (List.toArray ((sortPerm vs.length lt).map fun i => vs.getD i Value.none)).size ≤ 6 := by
      rw [List.size_toArray, List.length_map, ← hpl, Array.length_toList]; omega
    have s2 := Heap.SameBut.update (((s.heap.update a (Obj.mapSeq fun _ => (#[] : Array Value))).push (seqObj "tuple" vs.toArray 0)).push (seqObj "list" #[] 0)) a (Obj.mapSeq fun _ => List.toArray ((sortPerm vs.length lt).map fun i => vs.getD i Value.none))
    refine wpAny_bind (seqEpoch_at ho3 rfl ?_)
    refine wpAny_bind (listUpdate_at ho3 rfl ?_ (Nat.zero_le _) (Nat.le_trans hsz (by rw [sizeLine_eq]; omega)))
    rw [hf]
    simp only [bne_self_eq_false, Bool.false_eq_true, if_false]
    exact wpAny_pure (h _ _ (fun b o hb q => (s2.2 b hb).trans (k3 b o hb q)) (get?_update_seq ho3 fun _ => _))
end
theorem asks_ok {α : Type} {n : Nat} {ok : α → Bool} {lt : Nat → Nat → Bool} : ∀ t : KasT α, asksIn n ok t = true → ok (kasRun lt t) = true
  | .ret a, h => h
  | .ask i j k, h => by
    unfold asksIn at h
    rw [Bool.and_eq_true, Bool.and_eq_true, Bool.and_eq_true] at h
    (refine ob0_2 h fun o_261 h4 => ?_; try clear h; (refine ob0_2 o_261 fun _ h3 => ?_; try clear o_261))
    refine asks_ok (n := n) (k (lt i j)) ?_
    cases lt i j
    · exact h4
    · exact h3
theorem sortPerm_lt {n : Nat} {lt : Nat → Nat → Bool} (h : n ≤ 6) : ∀ i ∈ sortPerm n lt, i < n := by
  intro i hi
  unfold sortPerm at hi
  split at hi
  · exact List.mem_range.mp hi
  · have := asks_ok (lt := lt) (kas_sort n) (sort_ok n (by omega) h)
    unfold permOk at this
    rw [Bool.and_eq_true, Array.all_eq_true_iff_forall_mem] at this
    exact of_decide_eq_true (this.2 i (Array.mem_toList_iff.mp hi))
def ltAtom : PyData → PyData → Bool
  | .int a, .int b => decide (a < b)
  | .str a, .str b => decide (a.cps.toList < b.cps.toList)
  | _, _ => false
def ltT : PyData → PyData → Bool
  | .tuple (a :: _), .tuple (b :: _) => ltAtom a b
  | _, _ => false
def sortD (L : List PyData) : List PyData := (sortPerm L.length fun i j => !(i == j) && ltT (L.getD i .none) (L.getD j .none)).map fun i => L.getD i .none
theorem all2_map {α β γ : Type} {R : β → γ → Prop} {f : α → β} {g : α → γ} : ∀ {l : List α}, (∀ i ∈ l, R (f i) (g i)) → All2 R (l.map f) (l.map g)
  | [], _ => .nil
  | a :: l, h => .cons (h a (.head _)) (all2_map fun i hi => h i (.tail _ hi))
theorem all2_getD {h : Heap} {L : List PyData} {vs : List Value} (q : All2 (fun d v => (kd d).p h v) L vs) {i : Nat} (hi : i < L.length) : (kd (L.getD i .none)).p h (vs.getD i .none) := by
  (refine ob1_2 (q.get' (List.getElem?_eq_getElem hi)) fun v hv hp => ?_)
  rw [List.getD_eq_getElem?_getD, List.getD_eq_getElem?_getD, hv, List.getElem?_eq_getElem hi]
  exact hp
structure KeyC {K : Type} [DecidableEq K] {w : World} (knd : PySem.KeyKind PR w K) (enc : K → PyData) : Prop where
  eq : ∀ {A : Around} {E : Value → Shared → Prop} {s : Shared} {k1 k2 : K} {v1 v2 : Value} {Q : Bool → Shared → Prop}, knd.is k1 v1 = true → knd.is k2 v2 = true → Q (decide (k1 = k2)) s → wpAny (model PR w) A (eqBool v1 v2) Q E s
  lt : ∀ {A : Around} {E : Value → Shared → Prop} {s : Shared} {k1 k2 : K} {v1 v2 : Value} {Q : Bool → Shared → Prop}, knd.is k1 v1 = true → knd.is k2 v2 = true → Q (ltAtom (enc k1) (enc k2)) s → wpAny (model PR w) A (oneLt' true v1 v2) Q E s
  ty : ∃ T : String, (Value.type T != Value.type "tuple") = true ∧ ∀ (h : Heap) (k : K) (v : Value), knd.is k v = true → Looks (model PR w) h (typeOf v) (.type T)
theorem keyCS {w : World} : KeyC (PySem.strKind PR w) PyData.str where
  eq := fun h1 h2 q => by obtain ⟨t, rfl⟩ := Value.isStrOf_shape h1; obtain ⟨t', rfl⟩ := Value.isStrOf_shape h2; exact wpAny_eqBool_str q
  lt := fun h1 h2 q => by obtain ⟨t, rfl⟩ := Value.isStrOf_shape h1; obtain ⟨t', rfl⟩ := Value.isStrOf_shape h2; exact oneLt_str q
  ty := ⟨"str", by decide, fun h k v q => by obtain ⟨t, rfl⟩ := Value.isStrOf_shape q; exact Looks.of_pure rfl⟩
theorem keyCI {w : World} : KeyC (PySem.intKind PR w) PyData.int where
  eq := fun {A E s k1 k2 v1 v2 Q} h1 h2 q => by
    (refine ob1_1 (Value.isInt_shape h1) fun t e_262 => ?_; subst e_262)
    obtain ⟨t', rfl⟩ := Value.isInt_shape h2
    refine wpAny_eqBool_int ?_
    have : (k1 == k2) = decide (k1 = k2) := by by_cases z : k1 = k2 <;> simp [z]
    rw [this]; exact q
  lt := fun h1 h2 q => by obtain ⟨t, rfl⟩ := Value.isInt_shape h1; obtain ⟨t', rfl⟩ := Value.isInt_shape h2; exact oneLt_int q
  ty := ⟨"int", by decide, fun h k v q => by obtain ⟨t, rfl⟩ := Value.isInt_shape q; exact Looks.of_pure rfl⟩
def IsAtom (d : PyData) : Prop := (∃ i, d = .int i) ∨ ∃ x, d = .str x
def kIt {w : World} {K0 : Type} [DecidableEq K0] (knd : PySem.KeyKind PR w K0) (kvs : List (K0 × PyData)) : KP Value := ⟨fun h v => ∃ x d vs, v = .ref x ∧ h.IsItemsView x d ∧ h.DictOf knd d vs ∧ All2 (KvIs h) kvs vs,
  fun k z => ob3_4 z fun x d vs e hv hd q => ⟨x, d, vs, e, Exists.elim hv fun o z => ⟨o, k _ _ z.1, z.2⟩, hd.keep k, q.imp fun _ _ y => y.mono k⟩⟩
section
variable {w : World} {A : Around} {K0 : Type} [DecidableEq K0] {knd : PySem.KeyKind PR w K0} {enc : K0 → PyData} {kvs : List (K0 × PyData)}
theorem gm_items {pl : Sem Bool} : O1 w A (fun v => getMethod v "items" pl) (kdct knd kvs) (kMeth (.builtin "dict.items") (kdct knd kvs)) := by
  (intro s v H g l o_263; (refine ob2_4 o_263 fun a vs e_264 lo hd q => ?_; try clear o_263; subst e_264))
  have hD := hd.keep (h' := s.heap) hide_sub
  exact getMethod_builtin hD.typeIs PySem.F.plainAttrs_dict PySem.F.slot_dict_items PySem.F.type_dict_items hD.mapOf.noDict ⟨.rfl', rfl, _, rfl, a, vs, rfl, lo, hd, q⟩
theorem on_items : On w A (.builtin "dict.items") [kdct knd kvs] (kIt knd kvs) := by
  intro s vs H g l hv
  (refine all2_1 hv fun _ e_267 o_265 => ?_; clear hv; subst e_267; (refine ob2_4 o_265 fun a vs e_266 lo hD q => ?_; try clear o_265; subst e_266))
  have hD' := hD.keep (h' := s.heap) hide_sub
  refine call_meetsIn PySem.F.slot_dict_items hD'.typeIs PySem.F.entry_dict_items (PySem.F.args_dict_items_1 _) (meets_dict_items knd a lo) ⟨⟨_, hD'⟩, keeps_push, s.heap.objs.size, a, vs, rfl, ⟨_, push_known l, rfl, rfl⟩, hD.keep push_sub, q.imp fun _ _ y => y.mono push_sub⟩
def tupsOf (enc : K0 → PyData) (kvs : List (K0 × PyData)) : List PyData := kvs.map fun p => .tuple [enc p.1, p.2]
theorem on_sorted_items (Ek : KeyE knd enc) (C : KeyC knd enc) (hA : A.handled = none) (h6 : kvs.length ≤ 6) (hat : ∀ p ∈ kvs, IsAtom p.2) : On w A (.builtin "sorted") [kIt knd kvs] (kd (.list (sortD (tupsOf enc kvs)))) := by
  intro s vs H g l hv
  (refine all2_1 hv fun _ e_270 o_268 => ?_; clear hv; subst e_270; (refine ob3_4 o_268 fun x d us e_269 hx hd q => ?_; try clear o_268; subst e_269))
  have hx' : s.heap.IsItemsView x d := Exists.elim hx fun o z => ⟨o, hide_sub _ _ z.1, z.2⟩
  have hd' := hd.keep (h' := s.heap) hide_sub
  have hlen := q.length
  have hnd : (us.map (·.1)).Nodup := by
    (first | (refine ob8_1 hd' fun _ _ _ _ _ _ _ _ hn => ?_; try clear hd') | (refine ob7_2 hd' fun _ _ _ _ _ _ _ _ hn => ?_; try clear hd') | (refine ob6_3 hd' fun _ _ _ _ _ _ _ _ hn => ?_; try clear hd') | (refine ob5_4 hd' fun _ _ _ _ _ _ _ _ hn => ?_; try clear hd') | (refine ob4_5 hd' fun _ _ _ _ _ _ _ _ hn => ?_; try clear hd') | (refine ob3_6 hd' fun _ _ _ _ _ _ _ _ hn => ?_; try clear hd') | (refine ob2_7 hd' fun _ _ _ _ _ _ _ _ hn => ?_; try clear hd') | (refine ob1_8 hd' fun _ _ _ _ _ _ _ _ hn => ?_; try clear hd') | (refine ob0_9 hd' fun _ _ _ _ _ _ _ _ hn => ?_; try clear hd') | (obtain ⟨_, _, _, _, _, _, _, _, hn⟩ := hd'))
    exact hn
  (refine ob1_1 hd'.dictAt fun ep hat' => ?_)
  refine call_function_entry kind_sorted plain_sorted entry_sorted (args_sorted1 _) ?_
  unfold Builtin.«sorted»
  refine wpAny_bind (m := checkCount "sorted" 1 1 _) (wpAny_pure ?_)
  refine wpAny_bind (kdx_collect (A := A.in1) (knd := knd) (kvs := us) (ep := ep) hA hx' hat' (by rw [sizeLine_eq]; omega) fun h' tk as hk hl hG => ?_)
  refine wpAny_bind (wpAny_newList ?_ (by rw [List.length_map, hl, sizeLine_eq]; omega))
  have live' : Live H h' := l.mono hk
  have hsz : as.length ≤ 6 := by omega
  have hol : (h'.push { cls := .type "list", data := .seq (as.map Value.ref).toArray }).get? h'.objs.size = some (seqObj "list" (as.map Value.ref).toArray 0) := Heap.get?_push_size _ rfl
  have notin : h'.objs.size ∉ as := fun hm => Nat.lt_irrefl _ (hG.there hm)
  have tup : ∀ (s0 : Shared), (∀ b o, b ≠ h'.objs.size → (h'.push { cls := .type "list", data := .seq (as.map Value.ref).toArray }).get? b = some o → s0.heap.get? b = some o) → ∀ i, i < as.length → ∃ a key k u, as[i]? = some a ∧ us[i]? = some (k, u) ∧ knd.is k key = true ∧ s0.heap.get? a = some { cls := .type "tuple", data := .seq #[key, u] } := by
    intro s0 h0 i hi
    (refine ob3_3 (hG.pairs i as[i] (List.getElem?_eq_getElem hi)) fun key k u e1 e2 e3 => ?_)
    exact mk4_1 (as[i]) key k u ⟨List.getElem?_eq_getElem hi, e1, e2, h0 _ _ (fun z => notin (z ▸ List.getElem_mem hi)) (Heap.get?_push_of_some _ e3)⟩
  (refine ob1_2 C.ty fun T hT hTy => ?_)
  have hlen2 : (tupsOf enc kvs).length = as.length := by unfold tupsOf; rw [List.length_map]; omega
  refine wpAny_bind (wpAny_holding (wpAny_call_entry slot_list_sort ⟨_, hol, rfl⟩ entry_list_sort (list_sort_raw (vs := as.map Value.ref) (κ := tuples' true) (lt := fun i j => !(i == j) && ltT ((tupsOf enc kvs).getD i .none) ((tupsOf enc kvs).getD j .none)) hol (by rw [List.length_map]; exact hsz) ?kind ?ask ?fin) (args_list_sort _)))
  case kind =>
    intro h2 s0 h0 Q hQ
    rw [List.length_map] at h2
    have kt : ∃ fs, KatTups s0.heap (as.map Value.ref) fs ∧ fs.length = as.length ∧ ∀ v ∈ fs, Looks (model PR w) s0.heap (typeOf v) (.type T) := by
      have : ∀ (n : Nat) (l : List Addr), (∀ i, i < l.length → ∃ a key k u, l[i]? = some a ∧ knd.is k key = true ∧ s0.heap.get? a = some { cls := .type "tuple", data := .seq #[key, u] }) → ∃ fs, KatTups s0.heap (l.map Value.ref) fs ∧ fs.length = l.length ∧ ∀ v ∈ fs, Looks (model PR w) s0.heap (typeOf v) (.type T) := by
        intro _ l
        induction l with
        | nil => exact fun _ => ⟨[], KatTups.nil, rfl, nil_all⟩
        | cons a l ih =>
          intro hl
          (refine ob4_3 (hl 0 (by simp)) fun a' key k u e1 e2 e3 => ?_)
          obtain rfl := Option.some.inj e1
          (refine ob1_3 (ih fun i hi => hl (i + 1) (by simpa using hi)) fun fs f1 f2 f3 => ?_)
          refine mk1_3 (key :: fs) (KatTups.cons e3 rfl rfl rfl f1) (by simp [f2]) (fun v hv => ?_)
          rcases List.mem_cons.mp hv with rfl | hv
          · exact hTy _ k _ e2
          · exact f3 v hv
      exact this 0 as fun i hi => ob4_4 (tup s0 h0 i hi) fun a key k u e1 _ e3 e4 => ⟨a, key, k, u, e1, e3, e4⟩
    (refine ob1_3 kt fun fs f1 f2 f3 => ?_; try clear kt)
    refine kat_kind f1 (by omega) f3 (by simp) ?_
    rw [hT]; exact hQ
  case ask =>
    intro s0 h0 i j Cc hi hj hC
    rw [List.length_map] at hi hj
    (refine ob4_4 (tup s0 h0 i hi) fun a1 key1 k1 u1 e1 e2 e3 e4 => ?_)
    (refine ob4_4 (tup s0 h0 j hj) fun a2 key2 k2 u2 g1 g2 g3 g4 => ?_)
    unfold kas_ask
    have v1 : (as.map Value.ref).getD i .none = .ref a1 := by rw [List.getD_eq_getElem?_getD, List.getElem?_map, e1]; rfl
    have v2 : (as.map Value.ref).getD j .none = .ref a2 := by rw [List.getD_eq_getElem?_getD, List.getElem?_map, g1]; rfl
    rw [v1, v2]
    (refine ob1_3 (q.get e2) fun p1 hp1 r1 r2 => ?_)
    (refine ob1_3 (q.get g2) fun p2 hp2 r3 r4 => ?_)
    refine kat_lt e4 rfl g4 rfl (kat_cons (C.eq e3 g3 ?_))
    by_cases hij : i = j
    · subst hij
      rw [e2] at g2
      cases g2
      rw [e1] at g1
      obtain rfl := Option.some.inj g1
      rw [e4] at g4
      cases g4
      rw [decide_eq_true rfl]
      have hself : ∀ {Q : Bool → Shared → Prop}, Q true s0 → wpAny (model PR w) A.in1.in1 (eqBool u1 u1) Q (fun _ _ => False) s0 := by
        intro Q hq
        have at' := hat p1 (List.mem_of_getElem? hp1)
        rcases at' with ⟨i', e⟩ | ⟨x', e⟩
        · rw [e] at r2
          (refine ob1_1 (kd_int r2) fun t e' => ?_)
          have e' : u1 = _ := e'
          subst e'
          refine wpAny_eqBool_int ?_
          rw [beq_self_eq_true]; exact hq
        · rw [e] at r2
          (refine ob1_1 (kd_str r2) fun t e' => ?_)
          have e' : u1 = _ := e'
          subst e'
          refine wpAny_eqBool_str ?_
          rw [decide_eq_true rfl]; exact hq
      refine kat_yes (kat_cons (hself (kat_yes (kat_nil ?_))))
      simpa using hC
    · have hk : k1 ≠ k2 := fun e => hij (by
        have h1 : (us.map (·.1))[i]? = some k1 := by rw [List.getElem?_map, e2]; rfl
        have h2 : (us.map (·.1))[j]? = some k2 := by rw [List.getElem?_map, g2]; rfl
        rw [e] at h1
        exact (List.getElem?_inj (List.getElem?_eq_some_iff.mp h1).1 hnd).mp (h1.trans h2.symm))
      rw [decide_eq_false hk]
      refine kat_no (C.lt e3 g3 ?_)
      have d1 : (tupsOf enc kvs).getD i .none = .tuple [enc k1, p1.2] := by
        unfold tupsOf
        have r1 : k1 = p1.1 := r1
        rw [List.getD_eq_getElem?_getD, List.getElem?_map, hp1, r1]; rfl
      have d2 : (tupsOf enc kvs).getD j .none = .tuple [enc k2, p2.2] := by
        unfold tupsOf
        have r3 : k2 = p2.1 := r3
        rw [List.getD_eq_getElem?_getD, List.getElem?_map, hp2, r3]; rfl
      rw [d1, d2] at hC
      have hb : (i == j) = false := by simpa using hij
      rw [hb] at hC
      exact hC
  case fin =>
    intro h2 c hk2 ho2
    refine mk1_2 _ rfl (wpAny_pure ⟨_, rfl, ?_⟩)
    have kk : Sub s.heap h2 := fun b o qq => hk2 b o (Nat.ne_of_lt (Heap.lt_size (hk _ _ qq))) (Heap.get?_push_of_some _ (hk _ _ qq))
    refine ⟨⟨h2, tk, rfl, kk⟩, lst_kd (pl_lst ⟨h'.objs.size, _, c, rfl, hideAll_get _ ho2 ?_, ?_⟩)⟩
    · intro hm
      (refine ob1_1 (live' _ hm) fun o e => ?_)
      exact Nat.lt_irrefl _ (Heap.lt_size e)
    · have base : All2 (fun d v => (kd d).p (hideAll h2 H) v) (tupsOf enc kvs) (as.map Value.ref) := by
        have : ∀ (l : List Addr) (ks : List (K0 × PyData)), l.length = ks.length → (∀ (i : Nat) (a : Addr) (p : K0 × PyData), l[i]? = some a → ks[i]? = some p → (kd (.tuple [enc p.1, p.2])).p (hideAll h2 H) (.ref a)) → All2 (fun d v => (kd d).p (hideAll h2 H) v) (tupsOf enc ks) (l.map Value.ref) := by
          intro l
          induction l with
          | nil => intro ks e _; cases ks with | nil => exact .nil | cons => cases e
          | cons a l ih =>
            intro ks e hh
            cases ks with
            | nil => cases e
            | cons p ks => exact .cons (hh 0 a p rfl rfl) (ih ks (by simpa using e) fun i a' p' e1 e2 => hh (i + 1) a' p' e1 e2)
        refine this as kvs (by omega) fun i a p e1 e2 => ?_
        have hi := (List.getElem?_eq_some_iff.mp e1).1
        (refine ob4_4 (tup { s with heap := h2 } (fun b o hb qq => hk2 b o hb qq) i hi) fun a' key k u f1 f2 f3 f4 => ?_)
        rw [e1] at f1
        obtain rfl := Option.some.inj f1
        (refine ob1_3 (q.get f2) fun p' hp' r1 r2 => ?_)
        rw [e2] at hp'
        obtain rfl := Option.some.inj hp'
        have hne : a ∉ H := fun hm => by
          (refine ob1_1 (l a hm) fun o e => ?_)
          have h1 := hG.above a (List.mem_of_getElem? e1)
          exact absurd (Heap.lt_size e) (Nat.not_lt.mpr (Nat.le_of_lt h1))
        refine tup_kd (ds := [enc p.1, p.2]) ⟨a, _, #[key, u], 0, rfl, hideAll_get _ f4 hne, rfl, rfl, .cons ?_ (.cons ?_ .nil)⟩
        · have r1 : k = p.1 := r1
          rw [← r1]; exact Ek.of f3
        · exact (kd p.2).mono (sub_hide kk) r2
      rw [List.length_map]
      show All2 _ ((sortD (tupsOf enc kvs)).map kd) _
      unfold sortD
      rw [List.map_map, hlen2, List.toList_toArray]
      refine all2_map fun i hi => ?_
      have hi := sortPerm_lt hsz i hi
      exact all2_getD base (by omega)
end
section
variable {w : World} {A : Around} {F : Fm} {K : Heap} {env : Env} {Ps : List (KP Value)} {e : PySem.Expr} {pos sp cp : Pos} {kc k : Nat}
theorem slice_take {vs : Array Value} (h : k ≤ vs.size) : (slicePick vs none (some (k : Int)) none).toList = vs.toList.take k := by
  have e : sliceBounds none (some (k : Int)) none vs.size = (((0 : Nat) : Int), ((k : Nat) : Int), 1) := by
    simp only [sliceBounds, Option.getD_none, show (1 : Int) > 0 by decide, if_true]
    simp
    omega
  rw [kmk_pick_nat _ e]
  simp
theorem ev_slice (x : Ev w A F K env e (kLst Ps)) (hk : k ≤ Ps.length) (hz : Ps.length ≤ 100000)
    (hs : ∀ o i : Value, subscripted (.Slice none (some (.Constant (.int (k : Nat)) kc cp)) none sp) false o i = operate [i, o] (getItem o i) := by intro _ _; with_unfolding_all rfl)
    (ht : ∀ o r : Value, letTemporaryGo e o r = pure () := by intro _ _; with_unfolding_all rfl) : Ev w A F K env (.Subscript e (.Slice none (some (.Constant (.int (k : Nat)) kc cp)) none sp) pos) (kPl (Ps.take k)) := fun s st => by
  refine Subscript_ ((x s st).use fun v s1 k1 p1 => ?_)
  have st1 := st.grow k1
  (refine ob4_5 p1 fun a o vs n e_271 ha hc hd q => ?_; try clear p1; subst e_271)
  have hlen : Ps.length = vs.size := by rw [← Array.length_toList]; exact q.length
  rw [arm_eval_Slice]
  show wpAny _ _ ((pure Value.none : Sem Value) >>= fun l => holding [l] (eval (.Constant (.int (k : Nat)) kc cp) env) >>= fun u => holding [l, u] (pure Value.none : Sem Value) >>= fun st => newFields "slice" [l, u, st]) _ _ _
  refine wpAny_bind (wpAny_pure (wpAny_bind (wpAny_holding ((ev_int (K := K) s1 st1).use fun u s2 k2 p2 => wpAny_bind (wpAny_holding (wpAny_pure ?_))))))
  (refine ob1_1 (kd_int p2) fun t e_272 => ?_; subst e_272)
  have st2 := st1.grow k2
  have ha2 := k2.sub _ _ (hide_sub _ _ ha)
  have hl : s2.heap.IsList a vs := ⟨o, ha2, hc, n, hd⟩
  unfold newFields
  refine wpAny_newObj_type ?_
  have push2 : ∀ (o1 o2 : Obj), Sub s2.heap ((s2.heap.push o1).push o2) := fun o1 o2 b ob q => Heap.get?_push_of_some _ (Heap.get?_push_of_some _ q)
  refine subscriptTail_ops (Heap.IsList.typeIs (s := { s2 with heap := s2.heap.push { cls := .type "slice", data := .fields #[.none, .int (k : Nat) t, .none] } }) (hl.push _)) list_getitem_lookup
    (wpAny_getItem_list_slice (hl.push _) (Heap.IsSliceOf.new ..) .none (.int _ _) .none (by simp) ?_ (by rw [sizeLine_eq]; omega)) (hs _ _) (ht _)
  have kk : Kp s2 { s2 with heap := (s2.heap.push { cls := .type "slice", data := .fields #[.none, .int (k : Nat) t, .none] }).push { cls := .type "list", data := .seq (slicePick vs none (some (k : Int)) none) } } := ⟨_, s2.toks, rfl, push2 _ _⟩
  refine ⟨k1.trans' (k2.trans' kk), _, _, 0, rfl, push_known (s := { s2 with heap := s2.heap.push { cls := .type "slice", data := .fields #[.none, .int (k : Nat) t, .none] } }) (st2.lives.mono fun b ob q => Heap.get?_push_of_some _ q), ?_⟩
  rw [slice_take (by omega)]
  exact (q.take k).imp fun P _ y => P.mono (sub_hide fun b ob qq => push2 _ _ b ob (k2.sub _ _ qq)) y
end
def shownD (N : List (Str × Int)) (C : List (Int × Str)) (D : List (Str × Int)) (M : List Str) (R : List PyData) (bare : Bool) : PyData :=
  .list [.list (sortD (tupsOf PyData.str (sI N))), .list (sortD (tupsOf PyData.int (iS C))), .list (sortD (tupsOf PyData.str (sI D))), .list (M.map .str), .list R, .bool bare]
theorem atom_sI {N : List (Str × Int)} : ∀ p ∈ sI N, IsAtom p.2 := fun p hp => by
  (refine ob1_2 (List.mem_map.mp hp) fun q _ e_273 => ?_; subst e_273)
  exact .inl ⟨_, rfl⟩
theorem atom_iS {N : List (Int × Str)} : ∀ p ∈ iS N, IsAtom p.2 := fun p hp => by
  (refine ob1_2 (List.mem_map.mp hp) fun q _ e_274 => ?_; subst e_274)
  exact .inr ⟨_, rfl⟩
theorem on_list_kdt {w : World} {A : Around} {ds : List PyData} (hz : ds.length ≤ 1000) : On w A (.type "list") [kd (.tuple ds)] (kd (.list ds)) := fun s vs H g l hv => by
  (refine all2_1 hv fun _ e_275 h1 => ?_; clear hv; subst e_275)
  exact (on_list_seq (T := "tuple") (.inr rfl) (by rw [List.length_map]; omega) s _ H g l (.cons (kd_tup h1) .nil)).weak fun h v q => lst_kd (pl_lst q)
theorem on_list_kdl {w : World} {A : Around} {ds : List PyData} (hz : ds.length ≤ 1000) : On w A (.type "list") [kd (.list ds)] (kd (.list ds)) := fun s vs H g l hv => by
  (refine all2_1 hv fun _ e_276 h1 => ?_; clear hv; subst e_276)
  exact (on_list_seq (T := "list") (.inl rfl) (by rw [List.length_map]; omega) s _ H g l (.cons (kd_lst h1) .nil)).weak fun h v q => lst_kd (pl_lst q)
theorem shown_spec {w : World} {N D : List (Str × Int)} {C : List (Int × Str)} {M : List Str} {R : List PyData} {f : KP Value} {b : Bool} (hf : Handed f) (hb : plainNone f b) (zN : N.length ≤ 6) (zC : C.length ≤ 6) (zD : D.length ≤ 6) (zM : M.length ≤ 900) (zR : R.length ≤ 900) :
    On w (Al 850 850) (.ref 425) [kB w (sI N) (iS C) (sI D) (M.map .str) R f] (kd (shownD N C D M R b)) := by
  intro s vs H g l hv
  (refine all2_1 hv fun v1 e_277 h1 => ?_; clear hv; subst e_277)
  unfold kB at h1
  k_dflt (refine' fn_enter (binds := [("bench", v1)]) g l ?k6 ?k7 ?k8 ?k9 ?kB ?kD ?_ ?c2 ?c3 ?c4; walk_at "E fn")
  intro L cells Y
  have hY : cells = [] := cells_none Y
  subst hY
  refine run_return' rfl ((ev_lst (Ps := [kd (.list (sortD (tupsOf PyData.str (sI N)))), kd (.list (sortD (tupsOf PyData.int (iS C)))), kd (.list (sortD (tupsOf PyData.str (sI D)))), kd (.list (M.map .str)), kd (.list R), kd (.bool b)]) (Evs.cons ?a1 (Evs.cons ?a2 (Evs.cons ?a3 (Evs.cons ?a4 (Evs.cons ?a5 (Evs.cons ?a6 Evs.nil)))))) (of_decide_eq_true rfl)).weak ?wk)
  case a1 => exact ev_call (by walk_at "E ev") (Evs.cons (ev_meth (P₀ := ksd w (sI N)) (Ps := []) (by walk_at "E ev") gm_items Evs.nil on_items keep_b (.inl ⟨rfl, rfl⟩) rfl rfl) Evs.nil) (on_sorted_items keyS keyCS rfl (by rw [List.length_map]; omega) atom_sI) keep_b (.inr ⟨_, _, rfl⟩) rfl rfl
  case a2 => exact ev_call (by walk_at "E ev") (Evs.cons (ev_meth (P₀ := kid w (iS C)) (Ps := []) (by walk_at "E ev") gm_items Evs.nil on_items keep_b (.inl ⟨rfl, rfl⟩) rfl rfl) Evs.nil) (on_sorted_items keyI keyCI rfl (by rw [List.length_map]; omega) atom_iS) keep_b (.inr ⟨_, _, rfl⟩) rfl rfl
  case a3 => exact ev_call (by walk_at "E ev") (Evs.cons (ev_meth (P₀ := ksd w (sI D)) (Ps := []) (by walk_at "E ev") gm_items Evs.nil on_items keep_b (.inl ⟨rfl, rfl⟩) rfl rfl) Evs.nil) (on_sorted_items keyS keyCS rfl (by rw [List.length_map]; omega) atom_sI) keep_b (.inr ⟨_, _, rfl⟩) rfl rfl
  case a4 => exact ev_call (by walk_at "E ev") (Evs.cons (by walk_at "E ev") Evs.nil) (on_list_kdt (by rw [List.length_map]; omega)) keep_t (.inr ⟨_, _, rfl⟩) rfl rfl
  case a5 => exact ev_call (by walk_at "E ev") (Evs.cons (by walk_at "E ev") Evs.nil) (on_list_kdt (by omega)) keep_t (.inr ⟨_, _, rfl⟩) rfl rfl
  case a6 => exact ev_cmp (by walk_at "E ev") (by walk_at "E ev") (op_is hb)
  case wk => exact fun h v q => lst_kd q
abbrev kW (w : World) (N : List (Str × Int)) (C : List (Int × Str)) (D : List (Str × Int)) (M : List Str) (R : List PyData) (bare : Bool) : List (KP Value) := [ksd w (sI N), kid w (iS C), ksd w (sI D), kd (.list (M.map .str)), kd (.list R), kd (.bool bare)]
theorem told_spec {w : World} {N D : List (Str × Int)} {C : List (Int × Str)} {M : List Str} {R : List PyData} {b : Bool} (zN : N.length ≤ 6) (zC : C.length ≤ 6) (zD : D.length ≤ 6) (zM : M.length ≤ 900) (zR : R.length ≤ 900) :
    On w (Al 850 850) (.ref 442) [kLst (kW w N C D M R b)] (kd (shownD N C D M R b)) := by
  intro s vs H g l hv
  (refine all2_1 hv fun v1 e_278 h1 => ?_; clear hv; subst e_278)
  k_dflt (refine' fn_enter (binds := [("world", v1)]) g l ?k6 ?k7 ?k8 ?k9 ?kB ?kD ?_ ?c2 ?c3 ?c4; walk_at "E fn")
  intro L cells Y
  have hY : cells = [] := cells_none Y
  subst hY
  refine run_return' rfl ?_
  refine Ev.weak (P := kLst ([kd (.list (sortD (tupsOf PyData.str (sI N)))), kd (.list (sortD (tupsOf PyData.int (iS C)))), kd (.list (sortD (tupsOf PyData.str (sI D))))] ++ [kd (.list (M.map .str)), kd (.list R), kd (.bool b)])) ?e fun h v q => lst_kd q
  case e =>
    refine ev_bin (P₁ := kLst [kd (.list (sortD (tupsOf PyData.str (sI N)))), kd (.list (sortD (tupsOf PyData.int (iS C)))), kd (.list (sortD (tupsOf PyData.str (sI D))))]) (P₂ := kLst [kd (.list (M.map .str)), kd (.list R), kd (.bool b)]) (Ev.weak (P := kPl _) ?e1 fun _ _ q => pl_lst q) (ev_lst (Evs.cons ?b1 (Evs.cons ?b2 (Evs.cons ?b3 Evs.nil))) (of_decide_eq_true rfl)) (op_addL (of_decide_eq_true rfl))
    case b1 => exact ev_call (by walk_at "E ev") (Evs.cons (ev_sub (by walk_at "E ev") (by walk_at "E ev") (sub_lst (i := 3) rfl (of_decide_eq_true rfl) (fun _ _ => rfl))) Evs.nil) (on_list_kdl (by rw [List.length_map]; omega)) keep_t (.inr ⟨_, _, rfl⟩) rfl rfl
    case b2 => exact ev_call (by walk_at "E ev") (Evs.cons (ev_sub (by walk_at "E ev") (by walk_at "E ev") (sub_lst (i := 4) rfl (of_decide_eq_true rfl) (fun _ _ => rfl))) Evs.nil) (on_list_kdl (by omega)) keep_t (.inr ⟨_, _, rfl⟩) rfl rfl
    case b3 => exact ev_sub (by walk_at "E ev") (by walk_at "E ev") (sub_lst (i := 5) rfl (of_decide_eq_true rfl) (fun _ _ => rfl))
    case e1 =>
      have eb : [kd (.list (sortD (tupsOf PyData.str (sI N)))), kd (.list (sortD (tupsOf PyData.int (iS C)))), kd (.list (sortD (tupsOf PyData.str (sI D))))] = [some (kd (.list (sortD (tupsOf PyData.str (sI N))))), some (kd (.list (sortD (tupsOf PyData.int (iS C))))), some (kd (.list (sortD (tupsOf PyData.str (sI D)))))].filterMap id := rfl
      rw [eb]
      refine ev_comp (Ps := [ksd w (sI N), kid w (iS C), ksd w (sI D)]) (ev_slice (k := 3) (by walk_at "E ev") (of_decide_eq_true rfl) (of_decide_eq_true rfl)) iter_pl rfl rfl (of_decide_eq_true rfl) (by rfl) (by decide) rfl (by decide) (by rfl) (fun i Pk b' hP hb C' D' wr m₃ v K1 hm S hv => ?_) (fun _ => rfl)
      match i, hP, hb with
      | 0, hP, hb =>
        obtain rfl := Option.some.inj hP; obtain rfl := Option.some.inj hb
        exact ⟨rfl, fun R e => by
          obtain rfl := Option.some.inj e
          exact ev_call (by walk_at "E ev") (Evs.cons (ev_meth (P₀ := ksd w (sI N)) (Ps := []) (by walk_at "E ev") gm_items Evs.nil on_items keep_b (.inl ⟨rfl, rfl⟩) rfl rfl) Evs.nil) (on_sorted_items keyS keyCS rfl (by rw [List.length_map]; omega) atom_sI) keep_b (.inr ⟨_, _, rfl⟩) rfl rfl⟩
      | 1, hP, hb =>
        obtain rfl := Option.some.inj hP; obtain rfl := Option.some.inj hb
        exact ⟨rfl, fun R e => by
          obtain rfl := Option.some.inj e
          exact ev_call (by walk_at "E ev") (Evs.cons (ev_meth (P₀ := kid w (iS C)) (Ps := []) (by walk_at "E ev") gm_items Evs.nil on_items keep_b (.inl ⟨rfl, rfl⟩) rfl rfl) Evs.nil) (on_sorted_items keyI keyCI rfl (by rw [List.length_map]; omega) atom_iS) keep_b (.inr ⟨_, _, rfl⟩) rfl rfl⟩
      | 2, hP, hb =>
        obtain rfl := Option.some.inj hP; obtain rfl := Option.some.inj hb
        exact ⟨rfl, fun R e => by
          obtain rfl := Option.some.inj e
          exact ev_call (by walk_at "E ev") (Evs.cons (ev_meth (P₀ := ksd w (sI D)) (Ps := []) (by walk_at "E ev") gm_items Evs.nil on_items keep_b (.inl ⟨rfl, rfl⟩) rfl rfl) Evs.nil) (on_sorted_items keyS keyCS rfl (by rw [List.length_map]; omega) atom_sI) keep_b (.inr ⟨_, _, rfl⟩) rfl rfl⟩
      | i + 3, hP, hb => exact nos hP
abbrev strI (a : Int) : Str := Str.ofString (toString a)
def Small (a : Int) : Prop := a.natAbs ≤ 1000
theorem small_len {a : Int} (h : Small a) : (strI a).length ≤ 1002 := by
  have := len_str_of_int a
  unfold Small at h
  have e : (strI a).length = (Str.ofString (toString a)).length := rfl
  omega
section
variable {w : World} {A : Around} {F : Fm} {K : Heap} {env : Env} {x : Str} {a : Int} {ys : List Str}
theorem on_str (h : Small a) : On w A (.type "str") [kd (.int a)] (kd (.str (strI a))) := by
  intro s vs H g l hv
  (refine all2_1 hv fun _ e_279 h1 => ?_; clear hv; subst e_279)
  (refine ob1_1 (kd_int h1) fun t e_280 => ?_; subst e_280)
  refine PySem.P.str_of_int ?_ ⟨keeps_tok, is_str⟩
  have := Nat.log2_le_self a.natAbs
  unfold Small at h
  omega
theorem strs_of {h : Heap} {ys : List Str} {vs : List Value} (x : All2 (fun (P : KP Value) v => P.p h v) (ys.map fun y => kd (.str y)) vs) : StrsAre vs ys := by
  induction ys generalizing vs with
  | nil => rw [all2_nil x]; exact .nil
  | cons y ys ih =>
    refine all2_1c x fun v us e x r => ?_
    (refine ob1_1 (kd_str x) fun t e_281 => ?_; subst e_281)
    subst e
    exact .cons _ _ (ih r)
theorem on_join (hx : x.length ≤ 16) (hz : (ys.map (·.length)).sum + ys.length ≤ 1000000) : On w A (.builtin "str.join") [kd (.str x), kLst (ys.map fun y => kd (.str y))] (kd (.str (Txt.join x ys))) := by
  intro s vs H g l hv
  (refine all2_2 hv fun _ _ e_284 h1 o_282 => ?_; clear hv; subst e_284; (refine ob4_5 o_282 fun b o us n e_283 hb hc hd q => ?_; try clear o_282; subst e_283))
  (refine ob1_1 (kd_str h1) fun t e_285 => ?_; subst e_285)
  exact join_listW ⟨o, hide_sub _ _ hb, hc, n, hd⟩ (strs_of q) hx (by omega) fun t' k => ⟨keeps_tok, is_str⟩
theorem gm_join {pl : Sem Bool} : O1 w A (fun v => getMethod v "join" pl) (kd (.str x)) (kMeth (.builtin "str.join") (kd (.str x))) := by
  intro s v H g l hv
  (refine ob1_1 (kd_str hv) fun t e_286 => ?_; subst e_286)
  exact GM.join ⟨.rfl', rfl, _, rfl, is_str⟩
end
def offs (xo yo : Int) : Str := if (xo != 0) || (yo != 0) then Str.ofString "@" ++ strI xo ++ Str.ofString "," ++ strI yo else Str.ofString ""
def farS (xa ya : Int) : Str := strI xa ++ (if (ya != 0) then Str.ofString "," ++ strI ya else Str.ofString "")
def nmS (g : Int) : Str := if g = 1 then Str.ofString "a" else Str.ofString "gid" ++ strI g
def seenRow (g c xa ya xo yo : Int) (u : Bool) : Str := nmS g ++ Str.ofString "=" ++ strI c ++ offs xo yo ++ Str.ofString "+" ++ farS xa ya ++ (if u then Str.ofString "#" else Str.ofString "")
theorem str_len_app (a b : Str) : (a ++ b).length = a.length + b.length := by
  show (a.cps ++ b.cps).size = _
  rw [Array.size_append]; rfl
theorem small_offs {xo yo : Int} (h1 : Small xo) (h2 : Small yo) : (offs xo yo).length ≤ 3000 := by
  have := small_len h1
  have := small_len h2
  unfold offs
  split
  · rw [str_len_app, str_len_app, str_len_app]
    have e1 : (Str.ofString "@").length = 1 := by decide
    have e2 : (Str.ofString ",").length = 1 := by decide
    omega
  · have e1 : (Str.ofString "").length = 0 := by decide
    omega
theorem small_far {xo yo : Int} (h1 : Small xo) (h2 : Small yo) : (farS xo yo).length ≤ 3000 := by
  have := small_len h1
  have := small_len h2
  unfold farS
  rw [str_len_app]
  split
  · rw [str_len_app]
    have e2 : (Str.ofString ",").length = 1 := by decide
    omega
  · have e1 : (Str.ofString "").length = 0 := by decide
    omega
theorem small_nm {g : Int} (h1 : Small g) : (nmS g).length ≤ 3000 := by
  have := small_len h1
  unfold nmS
  split
  · have e1 : (Str.ofString "a").length = 1 := by decide
    omega
  · rw [str_len_app]
    have e1 : (Str.ofString "gid").length = 3 := by decide
    omega
theorem seen_row_spec {w : World} {g c xa ya xo yo : Int} {u : Bool} (hg : Small g) (hc : Small c) (h1 : Small xa) (h2 : Small ya) (h3 : Small xo) (h4 : Small yo) :
    On w (Al 850 850) (.ref 152) [kd (.tuple [.int g, .int c, .int xa, .int ya, .int xo, .int yo, .bool u]), kid w [(1, .str (Str.ofString "a"))]] (kd (.str (seenRow g c xa ya xo yo u))) := by
  intro s vs H gg l hv
  (refine all2_2 hv fun v1 v2 e_287 g1 g2 => ?_; clear hv; subst e_287)
  k_dflt (refine' fn_enter (binds := [("row", v1), ("names", v2)]) gg l ?k6 ?k7 ?k8 ?k9 ?kB ?kD ?_ ?c2 ?c3 ?c4; walk_at "E fn")
  intro L cells Y
  have hY : cells = [] := cells_none Y
  subst hY
  refine run_unpack (T := "tuple") (Ps := [kd (.int g), kd (.int c), kd (.int xa), kd (.int ya), kd (.int xo), kd (.int yo), kd (.bool u)]) (.inr rfl) rfl (Ev.weak (P := kd (.tuple [.int g, .int c, .int xa, .int ya, .int xo, .int yo, .bool u])) (by walk_at "E ev") fun _ _ q => kd_tup q) rfl rfl (fun K1 us S1 hus => ?_) rfl rfl
  (refine all2_7 hus fun _ _ _ _ _ _ _ e_288 p1 p2 p3 p4 p5 p6 p7 => ?_; clear hus; subst e_288)
  refine stores_local (stores_local (stores_local (stores_local (stores_local (stores_local (stores_local (stores_nil ?_) rfl rfl rfl) rfl rfl rfl) rfl rfl rfl) rfl rfl rfl) rfl rfl rfl) rfl rfl rfl) rfl rfl rfl
  have ln := @small_len
  have l1 : (Str.ofString "@").length = 1 := by decide
  have l2 : (Str.ofString ",").length = 1 := by decide
  have l3 : (Str.ofString "=").length = 1 := by decide
  have l4 : (Str.ofString "+").length = 1 := by decide
  have l5 : (Str.ofString "gid").length = 3 := by decide
  have m1 := small_len hg
  have m2 := small_len hc
  have m3 := small_len h1
  have m4 := small_len h2
  have m5 := small_len h3
  have m6 := small_len h4
  have n1 := small_nm hg
  have n2 := small_offs h3 h4
  have n3 := small_far h1 h2
  refine run_assign (P := kd (.str (offs xo yo))) ?x1 (fun K2 w2 S2 q2 => ?_) rfl rfl rfl rfl
  case x1 =>
    refine ev_ite (b := (xo != 0) || (yo != 0)) ?t ?y ?n
    case t =>
      cases hx : (xo != 0) with
      | true => exact tr_bool (.stop (b := true) (tr_b (tr_cmp (by walk_at "E ev") (by walk_at "E ev") op_neI) hx) rfl)
      | false =>
        cases hy : (yo != 0) with
        | true => exact tr_bool (.go (b := false) (tr_b (tr_cmp (by walk_at "E ev") (by walk_at "E ev") op_neI) hx) rfl (.stop (b := true) (tr_b (tr_cmp (by walk_at "E ev") (by walk_at "E ev") op_neI) hy) rfl))
        | false => exact tr_bool (.go (b := false) (tr_b (tr_cmp (by walk_at "E ev") (by walk_at "E ev") op_neI) hx) rfl (.go (b := false) (tr_b (tr_cmp (by walk_at "E ev") (by walk_at "E ev") op_neI) hy) rfl .nil))
    case y =>
      intro hb
      unfold offs
      rw [if_pos hb]
      refine ev_bin (ev_bin (ev_bin (by walk_at "E ev") (ev_call (by walk_at "E ev") (by walk_at "E args") (on_str h3) keep_t (.inr ⟨_, _, rfl⟩) rfl rfl) (op_addS (by omega))) (by walk_at "E ev") (op_addS (by rw [str_len_app]; omega))) (ev_call (by walk_at "E ev") (by walk_at "E args") (on_str h4) keep_t (.inr ⟨_, _, rfl⟩) rfl rfl) (op_addS (by rw [str_len_app, str_len_app]; omega))
    case n =>
      intro hb
      unfold offs
      rw [hb, if_neg (by decide)]
      walk_at "E ev"
  refine run_assign (P := kd (.str (farS xa ya))) ?x2 (fun K3 w3 S3 q3 => ?_) rfl rfl rfl rfl
  case x2 =>
    unfold farS
    refine ev_bin (ev_call (by walk_at "E ev") (by walk_at "E args") (on_str h1) keep_t (.inr ⟨_, _, rfl⟩) rfl rfl) (P₂ := kd (.str (if (ya != 0) then Str.ofString "," ++ strI ya else Str.ofString ""))) (ev_ite (b := ya != 0) (tr_cmp (by walk_at "E ev") (by walk_at "E ev") op_neI) (fun hb => ?_) (fun hb => ?_)) (op_addS ?_)
    · rw [if_pos hb]
      exact ev_bin (by walk_at "E ev") (ev_call (by walk_at "E ev") (by walk_at "E args") (on_str h2) keep_t (.inr ⟨_, _, rfl⟩) rfl rfl) (op_addS (by omega))
    · rw [hb, if_neg (by decide)]
      walk_at "E ev"
    · split
      · rw [str_len_app]; omega
      · have e1 : (Str.ofString "").length = 0 := by decide
        omega
  refine run_return' rfl ?_
  unfold seenRow
  refine ev_bin (ev_bin (ev_bin (ev_bin (ev_bin (ev_bin (P₁ := kd (.str (nmS g))) ?nm (by walk_at "E ev") (op_addS (by omega))) (ev_call (by walk_at "E ev") (by walk_at "E args") (on_str hc) keep_t (.inr ⟨_, _, rfl⟩) rfl rfl) (op_addS (by rw [str_len_app]; omega))) (by walk_at "E ev") (op_addS (by rw [str_len_app, str_len_app]; omega))) (by walk_at "E ev") (op_addS (by rw [str_len_app, str_len_app, str_len_app]; omega))) (by walk_at "E ev") (op_addS (by rw [str_len_app, str_len_app, str_len_app, str_len_app]; omega)))
    (P₂ := kd (.str (if u then Str.ofString "#" else Str.ofString ""))) (ev_ite (b := u) (tr_plain (by walk_at "E ev") tru_bool) (fun hb => ?_) (fun hb => ?_)) (op_addS ?_)
  case nm =>
    refine ev_meth (P₀ := kid w [(1, .str (Str.ofString "a"))]) (Ps := [kd (.int g), kd (.str (Str.ofString "gid" ++ strI g))]) (by walk_at "E ev") gm_get (Evs.cons (by walk_at "E ev") (Evs.cons (ev_bin (by walk_at "E ev") (ev_call (by walk_at "E ev") (by walk_at "E args") (on_str hg) keep_t (.inr ⟨_, _, rfl⟩) rfl rfl) (op_addS (by omega))) Evs.nil)) (on_get keyI ?_) keep_b (.inr ⟨_, _, rfl⟩) rfl rfl
    unfold nmS
    by_cases z : g = 1
    · subst z; exact .inl rfl
    · rw [if_neg z]
      refine .inr ⟨?_, rfl⟩
      unfold dget
      have : ¬ (1 : Int) = g := fun e => z e.symm
      simp [this]
  · rw [hb, if_pos rfl]; walk_at "E ev"
  · rw [hb, if_neg (by decide)]; walk_at "E ev"
  · rw [str_len_app, str_len_app, str_len_app, str_len_app, str_len_app]
    have e1 : (Str.ofString "").length = 0 := by decide
    have e2 : (Str.ofString "#").length = 1 := by decide
    split <;> omega
structure Rw where
  g : Int
  c : Int
  xa : Int
  ya : Int
  xo : Int
  yo : Int
  u : Bool
structure Rw.Ok (r : Rw) : Prop where
  g : Small r.g
  c : Small r.c
  xa : Small r.xa
  ya : Small r.ya
  xo : Small r.xo
  yo : Small r.yo
abbrev Rw.d (r : Rw) : PyData := .tuple [.int r.g, .int r.c, .int r.xa, .int r.ya, .int r.xo, .int r.yo, .bool r.u]
def Rw.s (r : Rw) : Str := seenRow r.g r.c r.xa r.ya r.xo r.yo r.u
theorem Rw.Ok.len {r : Rw} (h : r.Ok) : r.s.length ≤ 20000 := by
  have m2 := small_len h.c
  have n1 := small_nm h.g
  have n2 := small_offs h.xo h.yo
  have n3 := small_far h.xa h.ya
  have l3 : (Str.ofString "=").length = 1 := by decide
  have l4 : (Str.ofString "+").length = 1 := by decide
  have e1 : (Str.ofString "").length = 0 := by decide
  have e2 : (Str.ofString "#").length = 1 := by decide
  unfold Rw.s seenRow
  rw [str_len_app, str_len_app, str_len_app, str_len_app, str_len_app, str_len_app]
  split <;> omega
def textOf (rs : List Rw) : Str := Str.ofString "[" ++ Txt.join (Str.ofString "|") (rs.map Rw.s) ++ Str.ofString "]"
theorem sum_len {rs : List Rw} (h : ∀ r ∈ rs, r.Ok) : ((rs.map Rw.s).map (·.length)).sum ≤ rs.length * 20000 := by
  induction rs with
  | nil => simp
  | cons r rs ih =>
    have := (h r (.head _)).len
    have := ih fun q hq => h q (.tail _ hq)
    simp only [List.map_cons, List.sum_cons, List.length_cons, Nat.succ_mul]
    omega
theorem seen_text_spec {w : World} {rs : List Rw} (h : ∀ r ∈ rs, r.Ok) (hz : rs.length ≤ 3) (hj : (Txt.join (Str.ofString "|") (rs.map Rw.s)).length ≤ 90000) :
    On w (Al 840 840) (.ref 157) [kd (.list (rs.map Rw.d)), kid w [(1, .str (Str.ofString "a"))]] (kd (.str (textOf rs))) := by
  intro s vs H gg l hv
  (refine all2_2 hv fun v1 v2 e_289 g1 g2 => ?_; clear hv; subst e_289)
  k_dflt (refine' fn_enter (binds := [("rows", v1), ("names", v2)]) gg l ?k6 ?k7 ?k8 ?k9 ?kB ?kD ?_ ?c2 ?c3 ?c4; walk_at "E fn")
  intro L cells Y
  k_cells Y
  have l1 : (Str.ofString "[").length = 1 := by decide
  have l2 : (Str.ofString "]").length = 1 := by decide
  have l3 : (Str.ofString "|").length = 1 := by decide
  refine run_return' rfl ?_
  unfold textOf
  refine ev_bin (ev_bin (by walk_at "E ev") (ev_meth (P₀ := kd (.str (Str.ofString "|"))) (Ps := [kLst ((rs.map Rw.s).map fun y => kd (.str y))]) (by walk_at "E ev") gm_join (Evs.cons (Ev.weak (P := kPl _) ?cc fun _ _ q => pl_lst q) Evs.nil) (on_join (by omega) ?_) keep_b (.inr ⟨_, _, rfl⟩) rfl rfl) (op_addS (by omega))) (by walk_at "E ev") (op_addS (by rw [str_len_app]; omega))
  case cc =>
    have e : ((rs.map Rw.s).map fun y => kd (.str y)) = rs.filterMap fun r => some (kd (.str r.s)) := by
      rw [List.map_map]; simp [Function.comp_def]
    rw [e]
    have it : Iter w (kd (.list (rs.map Rw.d))) (rs.map fun r => kd r.d) := by
      have := iter_kdl (w := w) (ds := rs.map Rw.d)
      rw [List.map_map] at this
      exact this
    refine ev_compL rs (fun r => kd r.d) _ (by walk_at "E ev") it rfl (by omega) (by rfl) (by decide) rfl (by decide) (by rfl) (fun r hr C' D' wr m₃ v K1 hm S hv => ⟨rfl, fun R e => ?_⟩) (fun _ => rfl)
    obtain rfl := Option.some.inj e
    have ok := h r hr
    exact ev_call (by walk_at "E ev") (by walk_at "E args") (on_deeper (seen_row_spec ok.g ok.c ok.xa ok.ya ok.xo ok.yo) (by decide)) (keep_ref (by k_is)) (.inr ⟨_, _, rfl⟩) rfl rfl
  · have := sum_len h
    rw [List.length_map]; omega
theorem perm_sorted {l l' : List Int} (p : l.Perm l') (h : l.Pairwise (· ≤ ·)) (h' : l'.Pairwise (· ≤ ·)) : l = l' := by
  induction l generalizing l' with
  | nil => exact p.nil_eq
  | cons a l ih =>
    cases l' with
    | nil => cases p.length_eq
    | cons b l' =>
      rw [List.pairwise_cons] at h h'
      have e : a = b := by
        rcases List.mem_cons.mp (p.subset (.head _) : a ∈ b :: l') with e | m1
        · exact e
        rcases List.mem_cons.mp (p.symm.subset (.head _) : b ∈ a :: l) with e | m2
        · exact e.symm
        exact Int.le_antisymm (h.1 _ m2) (h'.1 _ m1)
      subst e
      rw [ih p.cons_inv h.2 h'.2]
theorem ints_of {h : Heap} {is : List Int} {vs : List Value} (x : All2 (fun (P : KP Value) v => P.p h v) (is.map fun i => kd (.int i)) vs) : IntsAre vs is := by
  induction is generalizing vs with
  | nil => rw [all2_nil x]; exact .nil
  | cons y ys ih => exact all2_1c x fun v us e x r => (kd_int x).elim fun t z => by rw [e, z]; exact .cons _ _ (ih r)
theorem of_ints {h : Heap} {is : List Int} {vs : List Value} (x : IntsAre vs is) : All2 (fun (P : KP Value) v => P.p h v) (is.map fun i => kd (.int i)) vs := by
  induction x with
  | nil => exact .nil
  | cons _ _ r ih => exact .cons is_int ih
section
variable {w : World} {A : Around} {E : Value → Shared → Prop} {s : Shared} {T : String} {r d : Addr} {n : Nat} {P : Nat → Value → Prop} {OK : Heap → Prop}
theorem kdl_collect {R : List Value → Shared → Prop} (K : KdlSrc PR w T r d n P OK) (hh : A.handled = none) (hok : OK s.heap) (hn : n ≤ sizeLine)
    (h : ∀ (h' : Heap) (tk : Nat) (vs : List Value), (∀ b o, s.heap.get? b = some o → h'.get? b = some o) → ItemsOf P vs.toArray n → R vs { s with heap := h', toks := tk }) :
    wpAny (model PR w) A (collect (.ref r)) R E s := by
  have hlt := K.there _ hok
  unfold collect
  refine wpAny_bind (wpAny_runValue (codeAny_builtin entry_proto_collect' ?_))
  rw [Around.under_plainId PySem.F.plain_proto_collect _]
  show wpAny _ A.in1 (newList [] >>= fun l => again (.builtin "list.__iadd__" ⟨[l, .ref r], []⟩)) _ _ s
  refine wpAny_bind (wpAny_newObj_type ?_)
  refine wpAny_pure ⟨plainId_quiet PySem.F.plain_list_iadd _, codeAny_builtin entry_list_iadd' ?_⟩
  rw [Around.under_plainId PySem.F.plain_list_iadd _]
  have hS₁ : (s.heap.push { cls := .type "list", data := .seq ([] : List Value).toArray }).get? s.heap.objs.size = some { cls := .type "list", data := .seq #[] } := Heap.get?_push_size _ rfl
  show wpAny _ A.in1 (Builtin.List.listExtendWith (.ref s.heap.objs.size) (.ref r) (.ref s.heap.objs.size)) _ _ _
  have key := kdl_extend (A := A) (s := { s with heap := s.heap.push { cls := .type "list", data := .seq ([] : List Value).toArray } })
    (R := fun (q : Result) (s' : Shared) => ∃ (h' : Heap) (tk : Nat) (acc' : Array Value) (c' : Nat), q = .ok (.ret (.ref s.heap.objs.size)) ∧ s' = { s with heap := h', toks := tk } ∧
      (∀ b o, s.heap.get? b = some o → h'.get? b = some o) ∧ h'.get? s.heap.objs.size = some { cls := .type "list", dict := none, data := .seq acc' c', slots := #[] } ∧ ItemsOf P acc' n)
    K hh (K.keep _ _ hok fun b _ o e => Heap.get?_push_of_some _ e) s.heap.objs.size (Nat.ne_of_gt hlt.1) (Nat.ne_of_gt hlt.2) (.ref s.heap.objs.size) 0 hS₁
    (fun h' tk acc' c' hk hS' hacc => ⟨h', tk, acc', c', rfl, rfl, fun b o e => hk b o (Nat.ne_of_lt (Heap.lt_size e)) (Heap.get?_push_of_some _ e), hS', hacc⟩) hn
  refine wpAny_mono key (fun fin s' x => ?_) fun e s' x => ?_
  · cases fin with
    | done f =>
      (refine ob4_5 x fun h' tk acc' c' e e_290 hk hS' hacc => ?_; try clear x; subst e_290)
      cases e
      show wpAny _ A (load s.heap.objs.size >>= _) _ _ _
      refine wpAny_bind (wpAny_load hS' ?_)
      refine wpAny_pure ?_
      show R acc'.toList _
      exact h h' tk _ hk (by rw [Array.toArray_toList]; exact hacc)
    | again c₁ =>
      refine ⟨x.1, codeAny_mono x.2 fun q s₂ y => ?_⟩
      (refine ob4_5 y fun h' tk acc' c' e_291 e_292 hk hS' hacc => ?_; try clear y; subst e_291; subst e_292)
      show wpAny _ A (load s.heap.objs.size >>= _) _ _ _
      refine wpAny_bind (wpAny_load hS' ?_)
      refine wpAny_pure ?_
      show R acc'.toList _
      exact h h' tk _ hk (by rw [Array.toArray_toList]; exact hacc)
  · (refine ob4_2 x fun _ _ _ _ e' _ => ?_; try clear x)
    cases e'
end
section
variable {w : World} {A : Around} {K0 : Type} [DecidableEq K0] {knd : PySem.KeyKind PR w K0} {kvs : List (K0 × PyData)}
theorem items_all {h : Heap} {vs : List Value} {us : List (K0 × Value)} (q : All2 (KvIs h) kvs us) (hi : ItemsOf (fun i v => ∃ k, us[i]? = some (k, v)) vs.toArray us.length) : All2 (fun (P : KP Value) v => P.p h v) (kvs.map fun p => kd p.2) vs := by
  (refine ob0_2 hi fun h1 h2 => ?_; try clear hi)
  rw [List.size_toArray] at h1
  have e : vs = us.map (·.2) := by
    apply List.ext_getElem?
    intro i
    rw [List.getElem?_map]
    cases z : vs[i]? with
    | none =>
      have : us[i]? = none := by
        rw [List.getElem?_eq_none_iff] at z ⊢
        omega
      rw [this]; rfl
    | some v =>
      (refine ob1_1 (h2 i v (by simpa using z)) fun k hk => ?_)
      rw [hk]; rfl
  subst e
  clear h1 h2
  induction q with
  | nil => exact .nil
  | cons x _ ih => exact .cons x.2 ih
theorem on_list_values (hA : A.handled = none) (hz : kvs.length ≤ 10000) : On w A (.type "list") [kVw knd kvs] (kPl (kvs.map fun p => kd p.2)) := by
  intro s vs H g l hv
  (refine all2_1 hv fun _ e_295 o_293 => ?_; clear hv; subst e_295; (refine ob3_4 o_293 fun x d us e_294 hx hd q => ?_; try clear o_293; subst e_294))
  have hx' : s.heap.IsValuesView x d := let ⟨o, a, b⟩ := hx; ⟨o, hide_sub _ _ a, b⟩
  (refine ob1_1 ((hd.keep (h' := s.heap) hide_sub).dictAt) fun ep hat => ?_)
  have hlen := q.length
  refine kdl_call (kdl_values (knd := knd) (kvs := us) (ep := ep)) hA ⟨hx', hat⟩ (by rw [sizeLine_eq]; omega) fun h' tk acc c hk hS hacc => ?_
  refine ⟨⟨h', tk, rfl, hk⟩, s.heap.objs.size, acc, c, rfl, hideAll_get _ hS (live_ne l), ?_⟩
  exact items_all (q.imp fun _ _ y => y.mono (sub_hide hk)) (by rw [Array.toArray_toList]; exact hacc)
theorem on_sorted_values {is : List Int} (hA : A.handled = none) (he : (kvs.map fun p => kd p.2) = is.map fun i => kd (.int i)) (hs : is.Pairwise (· ≤ ·)) (hz : is.length < 64) : On w A (.builtin "sorted") [kVw knd kvs] (kd (.list (is.map .int))) := by
  intro s vs H g l hv
  (refine all2_1 hv fun _ e_298 o_296 => ?_; clear hv; subst e_298; (refine ob3_4 o_296 fun x d us e_297 hx hd q => ?_; try clear o_296; subst e_297))
  have hx' : s.heap.IsValuesView x d := let ⟨o, a, b⟩ := hx; ⟨o, hide_sub _ _ a, b⟩
  (refine ob1_1 ((hd.keep (h' := s.heap) hide_sub).dictAt) fun ep hat => ?_)
  have hlen := q.length
  have hlen2 : kvs.length = is.length := by have := congrArg List.length he; simpa using this
  refine call_function_entry kind_sorted plain_sorted entry_sorted (args_sorted1 _) ?_
  unfold Builtin.«sorted»
  refine wpAny_bind (m := checkCount "sorted" 1 1 _) (wpAny_pure ?_)
  refine wpAny_bind (kdl_collect (A := A.in1) (kdl_values (knd := knd) (kvs := us) (ep := ep)) hA ⟨hx', hat⟩ (by rw [sizeLine_eq]; omega) fun h' tk ws hk hacc => ?_)
  have hall := items_all q hacc
  rw [he] at hall
  have hI := ints_of hall
  have hwl : ws.length = is.length := by have := hall.length; rw [List.length_map] at this; exact this.symm
  refine wpAny_bind (wpAny_newList ?_ (by rw [hwl, sizeLine_eq]; omega))
  have hol : (h'.push { cls := .type "list", data := .seq ws.toArray }).get? h'.objs.size = some (seqObj "list" ws.toArray 0) := Heap.get?_push_size _ rfl
  refine wpAny_bind (wpAny_holding (wpAny_call_entry slot_list_sort ⟨_, hol, rfl⟩ entry_list_sort (list_sort_tree hol hI (by omega) fun out ns' a1 a2 a3 => ⟨_, rfl, ?_⟩) (args_list_sort _)))
  refine wpAny_pure ⟨_, rfl, ?_⟩
  have e := perm_sorted a2 a3 hs
  subst e
  (refine ob1_1 (sortedHeap_at (out := out) hol) fun c hc => ?_)
  have kk : Sub s.heap (sortedHeap (h'.push { cls := .type "list", data := .seq ws.toArray }) h'.objs.size ws out) := fun b o qq => by
    have hlt : b < h'.objs.size := Heap.lt_size (hk _ _ qq)
    rw [sortedHeap_old (Nat.ne_of_lt hlt) (by rw [Heap.size_push]; exact Nat.lt_succ_of_lt hlt)]
    exact Heap.get?_push_of_some _ (hk _ _ qq)
  refine ⟨⟨_, tk, rfl, kk⟩, lst_kd (pl_lst ⟨h'.objs.size, out, c, rfl, hideAll_get _ hc fun hm => ?_, ?_⟩)⟩
  · (refine ob1_1 (l _ hm) fun o e => ?_)
    exact Nat.lt_irrefl _ (Heap.lt_size (hk _ _ e))
  · rw [List.map_map]
    exact of_ints a1
end
def IterH (w : World) (P : KP Value) (Ps : List (KP Value)) : Prop := ∀ (A : Around) (s : Shared) (v : Value) (H : List Addr) (Q : Value → Shared → Prop) (E : Value → Shared → Prop), A.handled = none → G w s.heap → Live H s.heap → P.p (hideAll s.heap H) v →
  (∀ I fp wr n Pi Stt h' tk, Walks PR w A I fp wr n Pi Stt → n = Ps.length → Stt 0 h' → Sub s.heap h' → (∀ b ∈ wr, s.heap.get? b = none) → (∀ b ∈ fp, ∃ o, h'.get? b = some o) → (∀ i h, Stt i h → ∀ b ∈ wr, ∃ o, h.get? b = some o) → (∀ b ∈ fp, b ∉ H) →
    (∀ i v, i < n → Pi i v → ∃ Pk, Ps[i]? = some Pk ∧ Pk.p (hideAll s.heap H) v) → Q (.ref I) { s with heap := h', toks := tk }) → wpAny (model PR w) A (pyIter v) Q E s
theorem iterH_list {w : World} {Ps : List (KP Value)} : IterH w (kLst Ps) Ps := by
  (intro A s v H Q E hA g l o_299 h; (refine ob4_5 o_299 fun a o vs n e_300 ha hc hd q => ?_; try clear o_299; subst e_300))
  have hl : s.heap.IsList a vs := ⟨o, hide_sub _ _ ha, hc, n, hd⟩
  have hne : a ≠ s.heap.objs.size := Nat.ne_of_lt (Heap.lt_size (hide_sub _ _ ha))
  refine wpAny_pyIter_list hl (h _ _ _ _ _ _ _ s.toks (Walks.list hA s.heap.objs.size a hne vs) (by rw [← Array.length_toList]; exact q.length.symm) ⟨⟨_, Heap.get?_push_size _ rfl, rfl, rfl⟩, hl.at fun o e => Heap.get?_push_of_some _ e⟩ (fun b o e => Heap.get?_push_of_some _ e) (fun b hb => ?_) (fun b hb => ?_) (fun i h' st b hb => ?_) (fun b hb => ?_) fun i v hi hv => ?_)
  · rw [List.mem_singleton.mp hb]; exact Heap.get?_none_of_le (Nat.le_refl _)
  · rcases List.mem_cons.mp hb with rfl | hb
    · exact ⟨_, Heap.get?_push_size _ rfl⟩
    · rw [List.mem_singleton.mp hb]; exact ⟨o, Heap.get?_push_of_some _ (hide_sub _ _ ha)⟩
  · rw [List.mem_singleton.mp hb]
    (refine ob0_2 st fun o_301 _ => ?_; try clear st; (refine ob1_2 o_301 fun o' q' _ => ?_; try clear o_301))
    exact ⟨o', q'⟩
  · rcases List.mem_cons.mp hb with rfl | hb
    · exact live_ne l
    · rw [List.mem_singleton.mp hb]; exact hide_notin ha
  · exact q.get (by simpa using hv)
theorem IterH.of {w : World} {Ps : List (KP Value)} {P P' : KP Value} (x : IterH w P Ps) (k : ∀ h v, P'.p h v → P.p h v) : IterH w P' Ps := fun A s v H Q E hA g l hv h => x A s v H Q E hA g l (k _ _ hv) h
theorem iterH_kdl {w : World} {ds : List PyData} : IterH w (kd (.list ds)) (ds.map kd) := iterH_list.of fun _ _ q => kd_lst q
theorem iterH_rng {w : World} {n : Nat} (hn : n ≤ 10000) : IterH w (kRng n) ((List.range n).map fun i => kd (.int (i : Nat))) := by
  (intro A s v H Q E hA g l o_302 h; (refine ob4_2 o_302 fun r t u x e_303 q => ?_; try clear o_302; subst e_303))
  have hr : IsRange s.heap r 0 n 1 t u x := hide_sub _ _ q
  have hsm : Builtin.Range.small 0 n 1 = true := small_one (by decide) (by decide) (by omega) (by omega)
  have hsz : Builtin.Range.rangeSize 0 n 1 = n := by rw [rangeSize_nat]; omega
  refine wpAny_pyIter_range hr hsm (h _ _ _ n _ _ _ s.toks (Walks.range hA s.heap.objs.size 0 1 n) (by simp) ?_ (fun b o e => Heap.get?_push_of_some _ e) (fun b hb => ?_) (fun b hb => ?_) (fun i h' st b hb => ?_) (fun b hb => ?_) fun i v hi hv => ?_)
  · show IsRangeIter _ _ _ _ _
    have := Heap.get?_push_size (o := { cls := .type "range_iterator", data := .fields #[rawInt 0, rawInt (Builtin.Range.rangeSize 0 n 1), rawInt 1] }) s.heap rfl
    rw [hsz] at this ⊢
    simpa using this
  · rw [List.mem_singleton.mp hb]; exact Heap.get?_none_of_le (Nat.le_refl _)
  · rw [List.mem_singleton.mp hb]; exact ⟨_, Heap.get?_push_size _ rfl⟩
  · rw [List.mem_singleton.mp hb]; exact ⟨_, st⟩
  · rw [List.mem_singleton.mp hb]; exact live_ne l
  · (refine ob1_1 hv fun t e_304 => ?_; try clear hv; subst e_304)
    refine mk1_2 (kd (.int (i : Nat))) ?_ ?_
    · rw [List.getElem?_map, List.getElem?_range hi]; rfl
    · have : (0 : Int) + (i : Int) * 1 = i := by omega
      rw [this]; exact is_int
theorem filterMap_snoc' {α : Type} (l : List (Option α)) (b : Option α) : (l ++ [b]).filterMap id = l.filterMap id ++ b.toList := by
  rw [List.filterMap_append]
  cases b <;> rfl
inductive CJP (s : Shared) (L D p c : Addr) (k0 d : Nat) (wr Hh : List Addr) (Stt : Nat → Heap → Prop) (al : Nat → Option (KP Value) → Prop) (n k : Nat) (s' : Shared) : Prop
  | mk (h' : Heap) (tk : Nat) (m' : Str → Option Value) (ys : Array Value) (bs : List (Option (KP Value))) (o : Obj) (i : Nat) (e : s' = { s with heap := h', toks := tk }) (h1 : Stt i h') (h2 : h'.PlainList D ys) (h3 : h'.Ns L m') (h4 : All2 (fun (P : KP Value) v => P.p (hideAll h' Hh) v) (bs.filterMap id) ys.toList) (h8 : bs.length = i) (h9 : ∀ j b, bs[j]? = some b → al j b) (h10 : h'.get? p = some o) (h11 : PenD c o (k0 + i * d)) (h5 : i ≤ n) (h6 : k = n + 1 - i)
    (h7 : ∀ b o, b ≠ L → b ∉ wr → b ≠ D → b ≠ p → s.heap.get? b = some o → h'.get? b = some o) : CJP s L D p c k0 d wr Hh Stt al n k s'
theorem comp_loopP {w : World} {A : Around} {s : Shared} {R : Result → Shared → Prop} {elt iter : PySem.Expr} {x : Str} {px : Pos} {ifs : List PySem.Expr} {scope : Scope} {pos : Pos} {I D p c : Addr} {d k0 : Nat} {fp wr : List Addr} {n : Nat} {P : Nat → Value → Prop} {Stt : Nat → Heap → Prop}
    {cenv : Env} {m : Str → Option Value} {o0 : Obj} (W : Walks PR w A I fp wr n P Stt) (al : Nat → Option (KP Value) → Prop) (Hh : List Addr)
    (hHC : cenv.locals ∈ Hh) (hHD : D ∈ Hh) (hHw : ∀ b ∈ wr, b ∈ Hh) (hHp : p ∈ Hh)
    (hx : cenv.kindOf x = some .local) (hp : (cenv.scope.kind == .class || (cenv.scope.kind == .module && cenv.locals != cenv.globals)) = false)
    (hDC : D ≠ cenv.locals) (hDf : D ∉ fp) (hCf : cenv.locals ∉ fp) (hpf : p ∉ fp) (hpD : D ≠ p) (hpC : cenv.locals ≠ p) (hst : Stt 0 s.heap) (hacc : s.heap.PlainList D #[]) (hn : s.heap.Ns cenv.locals m) (hpen : s.heap.get? p = some o0) (hpd : PenD c o0 k0)
    (turn : ∀ i v h tk m₃ o k, i < n → P i v → Stt (i + 1) h → h.Ns cenv.locals m₃ → m₃ x = some v → (∃ o, h.get? D = some o) → h.get? p = some o → PenD c o k → k ≤ k0 + i * d → (∀ b o, b ≠ cenv.locals → b ∉ wr → b ≠ D → b ≠ p → s.heap.get? b = some o → h.get? b = some o) →
      wpAny (model PR w) A (testsOf ifs cenv) (fun ok s₃ => Kq p { s with heap := h, toks := tk } s₃ ∧ (∃ o3, s₃.heap.get? p = some o3 ∧ PenD c o3 (k + d)) ∧ (ok = false → al i none) ∧ (ok = true → wpAny (model PR w) A (eval elt cenv) (fun y s₄ => Kq p s₃ s₄ ∧ (∃ o4, s₄.heap.get? p = some o4 ∧ PenD c o4 (k + d)) ∧ ∃ Rk, al i (some Rk) ∧ Rk.p (hideAll s₄.heap Hh) y) (fun _ _ => False) s₃)) (fun _ _ => False) { s with heap := h, toks := tk })
    (hR : ∀ h' tk m' ys (bs : List (Option (KP Value))) o, h'.Ns cenv.locals m' → h'.PlainList D ys → bs.length = n → (∀ i b, bs[i]? = some b → al i b) → All2 (fun (P : KP Value) v => P.p (hideAll h' Hh) v) (bs.filterMap id) ys.toList → h'.get? p = some o → PenD c o (k0 + n * d) →
      (∀ b o, b ≠ cenv.locals → b ∉ wr → b ≠ D → b ≠ p → s.heap.get? b = some o → h'.get? b = some o) → R (.ok .next) { s with heap := h', toks := tk })
    (hsz : n ≤ sizeLine) : codeAny (model PR w) A (.compLoop (.ListComp elt [⟨.Name x px, iter, ifs, 0⟩] scope pos) 0 (.ref I) (.ref D) cenv) R s := by
  refine codeAny_compLoop_tests
    (CJP s cenv.locals D p c k0 d wr Hh Stt al n) ?_ (n + 1)
    ⟨s.heap, s.toks, m, #[], [], o0, 0, rfl, hst, hacc, hn, .nil, rfl, fun j b h => by simp at h, hpen, by simpa using hpd, Nat.zero_le _, rfl, fun _ _ _ _ _ _ e => e⟩
  (intro k s' o_305; obtain ⟨H, tk, m', ys, bs, o, i, rfl, hst', hacc', hn', hF, hbl, hbs, ho, hod, hi, rfl, hk⟩ := o_305)
  have hCw : cenv.locals ∉ wr := fun h => hCf (W.sub _ h)
  have hDw : D ∉ wr := fun h => hDf (W.sub _ h)
  have hpw : p ∉ wr := fun h => hpf (W.sub _ h)
  by_cases hlt : i < n
  · refine W.item i _ _ _ hlt hst' fun v h₁ tk₁ hPv hst₁ hk₁ => ?_
    refine wpAny_assign_Name (wpAny_storeName_local hx (hn'.at' fun o e => hk₁ _ o hCw e) (fun h₂ hn₂ hs₂ => ?_) hp)
    have up₂ : ∀ b o, b ≠ cenv.locals → b ∉ wr → H.get? b = some o → h₂.get? b = some o := fun b o hbC hbf e => hs₂.extBut b o hbC (hk₁ b o hbf e)
    have hst₂ : Stt (i + 1) h₂ := W.frame _ _ _ hst₁ fun b hb o e => hs₂.extBut b o (fun h => hCf (h ▸ hb)) e
    have acc₂ : h₂.PlainList D ys := hacc'.at fun o e => up₂ D o hDC hDw e
    have ho₂ : h₂.get? p = some o := up₂ p o (Ne.symm hpC) hpw ho
    have ht := turn i v h₂ (tk₁ + 1) _ o _ hlt hPv hst₂ hn₂ (by simp) (let ⟨n, e⟩ := acc₂; ⟨_, e⟩) ho₂ hod (Nat.le_refl _) fun b o hbC hbf hbD hbp e => up₂ b o hbC hbf (hk b o hbC hbf hbD hbp e)
    have hilt : i + 1 ≤ n := hlt
    have kn₂ : Sub (hideAll H Hh) (hideAll h₂ Hh) := fun b o e => hideAll_get _ (up₂ b o (fun z => hide_notin e (z ▸ hHC)) (fun z => hide_notin e (hHw b z)) (hide_sub _ _ e)) (hide_notin e)
    have eqd : k0 + i * d + d = k0 + (i + 1) * d := by rw [Nat.add_mul, Nat.one_mul, Nat.add_assoc]
    refine wpAny_mono ht (fun ok s₃ h₃ => ?_) fun _ _ e => e.elim
    (refine ob0_4 h₃ fun o_308 o_309 hno hyes => ?_; try clear h₃; (refine ob0_2 o_308 fun o_310 hk₃ => ?_; try clear o_308; (refine ob2_1 o_310 fun h₃ tk₃ e_311 => ?_; try clear o_310; subst e_311)); (refine ob1_2 o_309 fun o3 ho3 hd3 => ?_; try clear o_309))
    have kn₃ : Sub (hideAll h₂ Hh) (hideAll h₃ Hh) := fun b o e => hideAll_get _ (hk₃ b o (fun z => hide_notin e (z ▸ hHp)) (hide_sub _ _ e)) (hide_notin e)
    cases ok with
    | false =>
      simp only [Bool.false_eq_true, if_false]
      refine ⟨n + 1 - (i + 1), ms hlt, h₃, tk₃, _, ys, bs ++ [none], o3, i + 1, rfl, W.frame _ _ _ hst₂ fun b hb o e => hk₃ b o (fun z => hpf (z ▸ hb)) e, acc₂.at fun o e => hk₃ _ o hpD e, hn₂.at' fun o e => hk₃ _ o hpC e, ?_, by simp [hbl], ?_, ho3, by rw [← eqd]; exact hd3, hilt, rfl, fun b o hbC hbf hbD hbp e => hk₃ b o hbp (up₂ b o hbC hbf (hk b o hbC hbf hbD hbp e))⟩
      · rw [filterMap_snoc']
        simp only [Option.toList_none, List.append_nil]
        exact hF.imp fun P _ y => P.mono (kn₂.trans kn₃) y
      · intro j b hb
        rw [List.getElem?_append] at hb
        split at hb
        · exact hbs j b hb
        · rename_i hj
          have : j = i := by
            rw [hbl] at hj hb
            rcases Nat.lt_or_ge (j - i) 1 with h | h
            · omega
            · rw [List.getElem?_eq_none (by simpa using h)] at hb; exact nos hb
          subst this
          rw [hbl, Nat.sub_self] at hb
          obtain rfl := Option.some.inj hb
          exact hno rfl
    | true =>
      simp only [if_true]
      refine wpAny_mono (hyes rfl) (fun y s₄ h₄ => ?_) fun _ _ e => e.elim
      obtain ⟨⟨⟨h₄, tk₄, rfl⟩, hk₄⟩, ⟨o4, ho4, hd4⟩, Rk, hal, hRy⟩ := h₄
      have kn₄ : Sub (hideAll h₃ Hh) (hideAll h₄ Hh) := fun b o e => hideAll_get _ (hk₄ b o (fun z => hide_notin e (z ▸ hHp)) (hide_sub _ _ e)) (hide_notin e)
      have hys : ys.size ≤ sizeLine := by
        have e1 := hF.length
        have e2 : (bs.filterMap id).length ≤ bs.length := List.length_filterMap_le _ _
        rw [Array.length_toList (xs := ys)] at e1
        omega
      refine wpAny_list_append_plain (hsz := hys) (acc₂.at fun o e => hk₄ _ o hpD (hk₃ _ o hpD e)) fun h₅ hl₅ hs₅ => ?_
      have kn₅ : Sub (hideAll h₄ Hh) (hideAll h₅ Hh) := fun b o e => hideAll_get _ ((hs₅.2 b fun z => hide_notin e (z ▸ hHD)).trans (hide_sub _ _ e)) (hide_notin e)
      refine ⟨n + 1 - (i + 1), ms hlt, h₅, tk₄, _, ys.push y, bs ++ [some Rk], o4, i + 1, rfl, W.frame _ _ _ hst₂ fun b hb o e => hs₅.extBut b o (fun h => hDf (h ▸ hb)) (hk₄ b o (fun z => hpf (z ▸ hb)) (hk₃ b o (fun z => hpf (z ▸ hb)) e)), hl₅, ((hn₂.at' fun o e => hk₃ _ o hpC e).at' fun o e => hk₄ _ o hpC e).sameBut hs₅ (Ne.symm hDC), ?_, by simp [hbl], ?_,
        (hs₅.2 p (Ne.symm hpD)).trans ho4, by rw [← eqd]; exact hd4, hilt, rfl,
        fun b o hbC hbf hbD hbp e => hs₅.extBut b o hbD (hk₄ b o hbp (hk₃ b o hbp (up₂ b o hbC hbf (hk b o hbC hbf hbD hbp e))))⟩
      · rw [filterMap_snoc', Array.toList_push]
        exact (hF.imp fun P _ y => P.mono (((kn₂.trans kn₃).trans kn₄).trans kn₅) y).append (.cons (Rk.mono kn₅ hRy) .nil)
      · intro j b hb
        rw [List.getElem?_append] at hb
        split at hb
        · exact hbs j b hb
        · rename_i hj
          have : j = i := by
            rw [hbl] at hj hb
            rcases Nat.lt_or_ge (j - i) 1 with h | h
            · omega
            · rw [List.getElem?_eq_none (by simpa using h)] at hb; exact nos hb
          subst this
          rw [hbl, Nat.sub_self] at hb
          obtain rfl := Option.some.inj hb
          exact hal
  · have hin : i = n := Nat.le_antisymm hi (Nat.not_lt.mp hlt)
    subst hin
    refine W.done _ _ _ hst' fun h₁ tk₁ hk₁ => ?_
    have kn₁ : Sub (hideAll H Hh) (hideAll h₁ Hh) := fun b o e => hideAll_get _ (hk₁ b o (fun z => hide_notin e (hHw b z)) (hide_sub _ _ e)) (hide_notin e)
    exact hR h₁ tk₁ m' ys bs o (hn'.at' fun o e => hk₁ _ o hCw e) (hacc'.at fun o e => hk₁ _ o hDw e) hbl hbs (hF.imp fun P _ y => P.mono kn₁ y) (hk₁ _ _ hpw ho) hod fun b o hbC hbf hbD hbp e => hk₁ b o hbf (hk b o hbC hbf hbD hbp e)
def TrP (w : World) (A : Around) (F : Fm) (p c : Addr) (d : Nat) (K : Heap) (env : Env) (e : PySem.Expr) (al : Bool → Prop) : Prop := ∀ o k s, PenD c o k → k + d ≤ 10000 → St w (F.pen p o) K s → wpAny (model PR w) A (isTrue e env (eval e env)) (PostP w F p c (k + d) ⟨fun _ b => al b, fun _ x => x⟩ s) (fun _ _ => False) s
def CompTurnP (w : World) (A : Around) (F : Fm) (p c : Addr) (d : Nat) (K : Heap) (cenv : Env) (ifs : List PySem.Expr) (elt : PySem.Expr) (al : Option (KP Value) → Prop) : Prop :=
  (∃ d1 d2, d1 + d2 = d ∧ (match ifs with | [] => True | [t] => TrP w A F p c d1 K cenv t (fun b => b = false → al none) | _ => False) ∧ ∃ R, al (some R) ∧ EvP w A F p c d2 K cenv elt R) ∨ ∃ t, ifs = [t] ∧ TrP w A F p c d K cenv t (fun b => b = false ∧ al none)
theorem comp_turnP {w : World} {A : Around} {F : Fm} {p c : Addr} {d k : Nat} {K : Heap} {cenv : Env} {ifs : List PySem.Expr} {elt : PySem.Expr} {al : Option (KP Value) → Prop} {o : Obj} (t : CompTurnP w A F p c d K cenv ifs elt al) {s : Shared} (hp : PenD c o k) (hk : k + d ≤ 10000) (st : St w (F.pen p o) K s) :
    wpAny (model PR w) A (testsOf ifs cenv) (fun ok s₃ => Kq p s s₃ ∧ (∃ o3, s₃.heap.get? p = some o3 ∧ PenD c o3 (k + d)) ∧ (ok = false → al none) ∧ (ok = true → wpAny (model PR w) A (eval elt cenv) (fun y s₄ => Kq p s₃ s₄ ∧ (∃ o4, s₄.heap.get? p = some o4 ∧ PenD c o4 (k + d)) ∧ ∃ Rk, al (some Rk) ∧ Rk.p (hideAll s₄.heap (F.hidp p)) y) (fun _ _ => False) s₃)) (fun _ _ => False) s := by
  rcases t with ⟨d1, d2, rfl, t1, R, hal, ev⟩ | ⟨t, rfl, t1⟩
  rotate_left
  · refine wpAny_tests_one (wpAny_mono (t1 o k s hp (by omega) st) (fun ok s3 z => ?_) fun _ _ q => q)
    (refine ob1_5 z fun o3 a1 a2 a3 o_316 a5 => ?_; try clear z; (refine ob0_2 o_316 fun e_317 a4 => ?_; try clear o_316; subst e_317))
    exact mk0_4 a5 ⟨o3, a2.mus _ (.head _), a1⟩ (fun _ => a4) nob
  match ifs, t1 with
  | [], _ =>
    refine wpAny_tests_nil ⟨Kp.rfl'.q, ⟨o, st.mus _ (.head _), hp.up (by omega)⟩, nob', fun _ => wpAny_mono (ev o k s hp (by omega) st) (fun y s4 z => ?_) fun _ _ q => q⟩
    (refine ob1_5 z fun o4 a1 a2 a3 a4 a5 => ?_; try clear z)
    exact ⟨a5, ⟨o4, a2.mus _ (.head _), a1.up (by omega)⟩, R, hal, a4⟩
  | [t], t1 =>
    refine wpAny_tests_one (wpAny_mono (t1 o k s hp (by omega) st) (fun ok s3 z => ?_) fun _ _ q => q)
    (refine ob1_5 z fun o3 a1 a2 a3 a4 a5 => ?_; try clear z)
    refine mk0_4 a5 ⟨o3, a2.mus _ (.head _), a1.up (by omega)⟩ a4 (fun _ => wpAny_mono (ev o3 (k + d1) s3 a1 (by omega) (a2.less (st.in.trans a3))) (fun y s4 z => ?_) fun _ _ q => q)
    (refine ob1_5 z fun o4 b1 b2 b3 b4 b5 => ?_; try clear z)
    exact ⟨b5, ⟨o4, b2.mus _ (.head _), b1.up (by omega)⟩, R, hal, b4⟩
def kComp (n : Nat) (al : Nat → Option (KP Value) → Prop) : KP Value := ⟨fun h v => ∃ bs : List (Option (KP Value)), bs.length = n ∧ (∀ i b, bs[i]? = some b → al i b) ∧ (kPl (bs.filterMap id)).p h v, fun k x_ => ob1_3 x_ fun bs h1 h2 h3 => mk1_3 bs h1 h2 ((kPl _).mono k h3)⟩
section
variable {w : World} {A : Around} {F : Fm} {K : Heap} {env : Env} {P : KP Value} {Ps : List (KP Value)} {elt iter : PySem.Expr} {x : Str} {px pos : Pos} {ifs : List PySem.Expr} {scope : Scope} {cl : List (Str × Addr)} {p c : Addr} {d : Nat} {al : Nat → Option (KP Value) → Prop}
theorem ev_compP (src : ∀ o, Ev w A (F.pen p o) K env iter P) (it : IterH w P Ps) (hA : A.handled = none) (hz : Ps.length ≤ 1000)
    (hclos : closureFor scope env = pure cl) (hcell : ∀ y ∈ scope.names, y.2 ≠ .cell) (hkind : scope.kind = .function)
    (hnames : ∀ y ∈ scope.names, y.2 = .local → scope.names.lookup y.1 = some .local) (hx : scope.names.lookup x = some .local)
    (turn : ∀ (i : Nat) (Pk : KP Value), Ps[i]? = some Pk → ∀ C D wr m₃ v K1, m₃ x = some v → Sub K K1 → Pk.p K1 v → CompTurnP w A ⟨F.s0, F.B, D :: (wr ++ F.L :: F.H), C, m₃, F.mu⟩ p c d K1 (compEnvC scope cl C env) ifs elt (al i))
    (hs : ∀ x, foldedSetIterable iter env x = pure x := by intro _; rfl) : EvP w A F p c (Ps.length * d) K env (.ListComp elt [⟨.Name x px, iter, ifs, 0⟩] scope pos) (kComp Ps.length al) := fun o k s hpd hkd st => by
  rw [eval_ListComp]
  refine wpAny_comprehension_free (use := none) rfl hs hclos hkind hnames ((src o s st).use fun xv s₁ k₁ p₁ => ?_)
  have st1 := st.up k₁
  refine it A s₁ xv (F.hidp p) _ _ hA st1.gh st1.lives p₁ fun I fp wr n Pi Stt h2 tk2 W hn hst k2 hwr hfp hlv hfH hPi => ?_
  refine wpAny_newObj_type (wpAny_newFunctionEnv hcell (by intro y hy; simp at hy) (fun h₁ hns₁ hsb₁ => ?_) hkind)
  dsimp only at hns₁ hsb₁ ⊢
  generalize hH2 : h2.push { cls := .type "list", dict := none, data := .seq ([] : List Value).toArray } = H2 at hns₁ hsb₁ ⊢
  have hC : H2.objs.size = h2.objs.size + 1 := by rw [← hH2, Heap.size_push]
  have lt : ∀ b o, h2.get? b = some o → b ≠ H2.objs.size ∧ b ≠ h2.objs.size := fun b o q => by
    have := Heap.lt_size q
    rw [hC]
    exact ⟨Nat.ne_of_lt (Nat.lt_succ_of_lt this), Nat.ne_of_lt this⟩
  have hDC : h2.objs.size ≠ H2.objs.size := by rw [hC]; exact Nat.ne_of_lt (Nat.lt_succ_self _)
  have old : ∀ b o, h2.get? b = some o → h₁.get? b = some o := fun b o e => hsb₁.extBut b o (lt b o e).1 (Heap.get?_push_of_some _ (hH2 ▸ Heap.get?_push_of_some _ e))
  have hacc : h₁.PlainList h2.objs.size #[] := ⟨_, hsb₁.extBut _ _ hDC (Heap.get?_push_of_some _ (hH2 ▸ Heap.get?_push_size _ rfl))⟩
  have hst₁ : Stt 0 h₁ := W.frame _ _ _ hst fun b _ o e => old b o e
  have fpn : ∀ b ∈ fp, b ≠ H2.objs.size ∧ b ≠ h2.objs.size := fun b hb => by obtain ⟨o, q⟩ := hfp b hb; exact lt b o q
  have none1 : ∀ b, h2.objs.size ≤ b → s₁.heap.get? b = none := fun b hb => by
    cases q : s₁.heap.get? b with
    | none => rfl
    | some o => exact absurd (Heap.lt_size (k2 _ _ q)) (Nat.not_lt.mpr hb)
  have hD1 : s₁.heap.get? h2.objs.size = none := none1 _ (Nat.le_refl _)
  have hC1 : s₁.heap.get? H2.objs.size = none := none1 _ (by rw [hC]; exact Nat.le_succ _)
  have hp1 : s₁.heap.get? p = some o := st1.mus _ (.head _)
  have hpD : h2.objs.size ≠ p := fun z => by rw [z, hp1] at hD1; exact nos' hD1
  have hpC : H2.objs.size ≠ p := fun z => by rw [z, hp1] at hC1; exact nos' hC1
  have hpf : p ∉ fp := fun hm => hfH p hm (.tail _ (.head _))
  have subF : ∀ (Kx : Heap), Sub Kx s₁.heap → ∀ {b}, s₁.heap.get? b = none → Kx.get? b = none := fun Kx hK b q => none_of_sub hK q
  have nd := st1.mnd
  change (p :: F.mu.map (·.1)).Nodup at nd
  rw [List.nodup_cons] at nd
  have nep : ∀ q ∈ F.mu, q.1 ≠ p := fun q hq e => nd.1 (e ▸ List.mem_map_of_mem (f := (·.1)) hq)
  have tost : ∀ (h3 : Heap) (tk3 : Nat) (m₃ : Str → Option Value) (i : Nat) (o3 : Obj), Stt i h3 → h3.Ns H2.objs.size m₃ → (∃ o, h3.get? h2.objs.size = some o) → h3.get? p = some o3 → (∀ b o, b ≠ H2.objs.size → b ∉ wr → b ≠ h2.objs.size → b ≠ p → h₁.get? b = some o → h3.get? b = some o) →
      St w (Fm.pen ⟨F.s0, F.B, h2.objs.size :: (wr ++ F.L :: F.H), H2.objs.size, m₃, F.mu⟩ p o3) (hideAll s₁.heap (F.hidp p)) { s₁ with heap := h3, toks := tk3 } := fun h3 tk3 m₃ i o3 hi3 hn3 hD3 ho3 hk3 => by
    have k3 : ∀ b o, b ≠ p → s₁.heap.get? b = some o → h3.get? b = some o := fun b o hbp q => hk3 b o (fun z => by rw [z, hC1] at q; exact nos q) (fun z => by rw [hwr b z] at q; exact nos q) (fun z => by rw [z, hD1] at q; exact nos q) hbp (old b o (k2 b o q))
    have pm : (p, o) ∈ (F.pen p o).mu := .head _
    refine ⟨st.g, st1.rl.trans ⟨_, _, rfl⟩, fun b ob q => k3 b ob (fun z => by rw [z, st.bmu _ pm] at q; exact nos q) (st1.base b ob q), fun b ob q => k3 b ob (fun z => hide_notin q (z ▸ .tail _ (.head _))) (hide_sub b ob q), hn3, fun q hq => ?_, fun b hb => ?_, fun b hb => ?_, subF F.B st1.base hC1, fun q hq => ?_, fun q hq e => ?_, st.mnd⟩
    · rcases List.mem_cons.mp hq with rfl | hq
      · exact ho3
      · exact k3 _ _ (nep q hq) (st1.mus q (.tail _ hq))
    · rcases List.mem_cons.mp hb with rfl | hb
      · exact hD3
      rcases List.mem_append.mp hb with hb | hb
      · exact hlv i h3 hi3 b hb
      · obtain ⟨ob, q⟩ := st1.lives b (by
          rcases List.mem_cons.mp hb with rfl | hb
          · exact .head _
          · exact .tail _ (List.mem_append_right _ hb))
        by_cases z : b = p
        · subst z; exact ⟨_, ho3⟩
        · exact ⟨ob, k3 _ _ z q⟩
    · have hid1 : ∀ {b}, b ∈ F.hidp p → (hideAll s₁.heap (F.hidp p)).get? b = none := fun h => hideAll_none _ h
      rcases List.mem_cons.mp hb with rfl | hb
      · exact subF _ hide_sub hC1
      rcases List.mem_append.mp hb with hb | hb
      · exact hid1 (.tail _ (List.mem_append_left _ hb))
      rcases List.mem_cons.mp hb with rfl | hb
      · exact subF _ hide_sub hD1
      rcases List.mem_append.mp hb with hb | hb
      · exact subF _ hide_sub (hwr b hb)
      rcases List.mem_cons.mp hb with rfl | hb
      · exact hid1 (.head _)
      · exact hid1 (.tail _ (List.mem_append_right _ hb))
    · rcases List.mem_cons.mp hq with rfl | hq
      · have h := st.bmu _ pm; exact h
      · exact st.bmu q (.tail _ hq)
    · rcases List.mem_cons.mp hq with rfl | hq
      · exact hpC e.symm
      · have := st1.mus q (.tail _ hq)
        rw [e] at this
        change s₁.heap.get? H2.objs.size = some _ at this
        rw [hC1] at this; exact nos this
  have loop : ∀ s₃ : Shared, s₃ = { s₁ with heap := h₁, toks := tk2 + ([] : List (Str × Value)).length } →
      codeAny (model PR w) A (.compLoop (.ListComp elt [⟨.Name x px, iter, ifs, 0⟩] scope pos) 0 (.ref I) (.ref h2.objs.size) (compEnvC scope cl H2.objs.size env))
        (compPost (model PR w) A (fun _ _ => False) none (PostP w F p c (k + Ps.length * d) (kComp Ps.length al) s) (.ref h2.objs.size) H2.objs.size) s₃ := by
    rintro s₃ rfl
    refine comp_loopP (cenv := compEnvC scope cl H2.objs.size env) (c := c) (d := d) (k0 := k) (o0 := o) W al ((Fm.mk F.s0 F.B (h2.objs.size :: (wr ++ F.L :: F.H)) H2.objs.size (fun _ => none) F.mu).hidp p) (.head _) (.tail _ (List.mem_append_right _ (.head _)))
      (fun b hb => .tail _ (List.mem_append_right _ (.tail _ (List.mem_append_left _ hb)))) (.tail _ (.head _)) (lookup_relabel_local hx) (by simp [compEnvC, relabel, hkind]) hDC (fun hm => (fpn _ hm).2 rfl) (fun hm => (fpn _ hm).1 rfl) hpf hpD hpC hst₁ hacc hns₁ (old _ _ (k2 _ _ hp1)) hpd
      (fun i v h3 tk3 m₃ o3 k3 hin hPv hst3 hn3 hm3 hD3 ho3 hod3 hkk hk3 => ?_) (fun h' tk m' ys bs o' hn' hpl hbl hbs hall ho' hod' hk => ?_) (by rw [hn, sizeLine_eq]; omega)
    · (refine ob1_2 (hPi i v hin hPv) fun Pk hPk hpk => ?_)
      have t := turn i Pk hPk H2.objs.size h2.objs.size wr m₃ v (hideAll s₁.heap (F.hidp p)) hm3 (st.in.trans (sub_hide k₁.sub)) hpk
      have hb : k3 + d ≤ 10000 := by
        have h1 : (i + 1) * d ≤ Ps.length * d := Nat.mul_le_mul_right _ (by omega)
        rw [Nat.add_mul, Nat.one_mul] at h1
        omega
      exact comp_turnP t hod3 hb (tost h3 tk3 m₃ (i + 1) o3 hst3 hn3 hD3 ho3 hk3)
    · refine mk1_2 m' hn' (fun h'' sb => ?_)
      have kk : ∀ b o, b ≠ p → s₁.heap.get? b = some o → h''.get? b = some o := fun b o hbp q => sb.extBut b o (fun z => by rw [z] at q; exact absurd (q.symm.trans hC1) (by simp)) (hk b o (fun z => by rw [z] at q; exact absurd (q.symm.trans hC1) (by simp)) (fun z => by rw [hwr b z] at q; exact nos q) (fun z => by rw [z, hD1] at q; exact nos q) hbp (old b o (k2 b o q)))
      have hDn : h2.objs.size ∉ F.hidp p := fun hm => by
        (refine ob1_1 (st1.lives _ hm) fun o q => ?_)
        rw [hD1] at q; exact nos q
      have ho'' : h''.get? p = some o' := sb.extBut _ _ (Ne.symm hpC) ho'
      have kn : Sub (hideAll h' ((Fm.mk F.s0 F.B (h2.objs.size :: (wr ++ F.L :: F.H)) H2.objs.size (fun _ => none) F.mu).hidp p)) (hideAll h'' (F.hidp p)) := fun b o q => by
        have hb := hide_notin q
        refine hideAll_get _ (sb.extBut b o (fun z => hb (z ▸ .head _)) (hide_sub _ _ q)) fun hm => hb ?_
        rcases List.mem_cons.mp hm with rfl | hm
        · exact .tail _ (List.mem_append_right _ (.tail _ (List.mem_append_right _ (.head _))))
        rcases List.mem_append.mp hm with hm | hm
        · exact .tail _ (List.mem_append_left _ hm)
        · exact .tail _ (List.mem_append_right _ (.tail _ (List.mem_append_right _ (.tail _ hm))))
      (refine ob1_1 (hpl.extBut sb.extBut hDC) fun nn hpl => ?_)
      have rl : Rl s₁ { s₁ with heap := h'', toks := tk } := ⟨h'', tk, rfl⟩
      (refine ob0_2 (st1.drawn rl kk ho'') fun b1 b2 => ?_)
      refine mk1_5 o' (by rw [← hn]; exact hod') b1 ((sub_hide k₁.sub).trans b2) ⟨bs, by omega, hbs, h2.objs.size, ys, nn, rfl, hideAll_get _ hpl hDn, hall.imp fun P _ y => P.mono kn y⟩ (k₁.q.trans ⟨rl, kk⟩)
  exact codeAny_compStart_list (loop _ rfl) (W.self 0 _ _ _ hst₁ (loop _ rfl))
end
theorem look_places {G : List Int} {i : Int} : look (placesOf G) i = if i ∈ G then some ((G.idxOf i : Nat) : Int) else none := by
  have key : ∀ (l : List Int) (k : Nat), look ((List.range l.length).map fun j => (l.getD j 0, ((k + j : Nat) : Int))) i = if i ∈ l then some ((k + l.idxOf i : Nat) : Int) else none := by
    intro l
    induction l with
    | nil => intro k; rfl
    | cons a l ih =>
      intro k
      rw [List.length_cons, List.range_succ_eq_map, List.map_cons, List.map_map]
      unfold look
      rw [List.find?_cons]
      by_cases z : a = i
      · subst z
        simp [List.idxOf_cons]
      · have z' : ¬ ((a :: l).getD 0 0 = i) := by simpa using z
        simp only [z', decide_false]
        have := ih (k + 1)
        unfold look at this
        have e : ((fun j => ((a :: l).getD j 0, ((k + j : Nat) : Int))) ∘ Nat.succ) = fun j => (l.getD j 0, ((k + 1 + j : Nat) : Int)) := by
          funext j
          simp only [Function.comp, Nat.succ_eq_add_one, List.getD_cons_succ]
          congr 2
          omega
        rw [e, this]
        have z2 : ¬ i = a := fun e => z e.symm
        have hb : (a == i) = false := by simpa using z
        rw [List.idxOf_cons, hb]
        by_cases m : i ∈ l
        · rw [if_pos m, if_pos (List.mem_cons_of_mem _ m)]
          congr 2
          simp only [Bool.false_eq_true, cond_false]
          omega
        · rw [if_neg m, if_neg (by simp [m, z2])]
  have := key G 0
  simpa [placesOf] using this
theorem in_ints {G : List Int} {i : Int} : ((G.map PyData.int).any fun z => PyData.eqv z (.int i)) = (look (placesOf G) i).isSome := by
  rw [look_places, List.any_map]
  have e : ((fun z => PyData.eqv z (.int i)) ∘ PyData.int) = fun a => a == i := by funext a; exact eqv_int a i
  rw [e]
  by_cases m : i ∈ G
  · rw [if_pos m]
    simp [m]
  · rw [if_neg m]
    simp
    exact fun x hx e => m (e ▸ hx)
theorem lay_ints {G : List Int} : PyData.canLayAll0 (G.map PyData.int) = true := by
  induction G with
  | nil => rfl
  | cons a l ih => rw [List.map_cons, PyData.canLayAll0, PyData.canLay0, ih]; rfl
section
variable {w : World} {A : Around} {G : List Int} {i j : Int}
theorem gm_index {pl : Sem Bool} : O1 w A (fun v => getMethod v "index" pl) (kPl (G.map fun i => kd (.int i))) (kMeth (.builtin "list.index") (kPl (G.map fun i => kd (.int i)))) := by
  (intro s v H g l o_319; (refine ob3_3 o_319 fun a vs n e_320 ha q => ?_; try clear o_319; subst e_320))
  have ha' := hide_sub _ _ ha
  exact getMethod_builtin (T := "list") ⟨_, ha', rfl⟩ PySem.F.plainAttrs_list PySem.F.slot_list_index PySem.F.type_list_index (fun b e => by cases e; exact ⟨_, ha', rfl⟩) ⟨.rfl', rfl, _, rfl, a, vs, n, rfl, ha, q⟩
theorem on_index (hj : look (placesOf G) i = some j) (hz : G.length ≤ 1000) : On w A (.builtin "list.index") [kPl (G.map fun i => kd (.int i)), kd (.int i)] (kd (.int j)) := by
  intro s vs H g l hv
  (refine all2_2 hv fun _ _ e_323 o_321 h2 => ?_; clear hv; subst e_323; (refine ob3_3 o_321 fun a us n e_322 ha q => ?_; try clear o_321; subst e_322))
  (refine ob1_1 (kd_int h2) fun t e_324 => ?_; subst e_324)
  have ha' := hide_sub _ _ ha
  have hI := ints_of q
  have hlen : G.length = us.size := by have := q.length; rw [List.length_map, Array.length_toList] at this; exact this
  rw [look_places] at hj
  split at hj
  · rename_i hm
    obtain rfl := Option.some.inj hj
    have hlt : G.idxOf i < G.length := List.idxOf_lt_length_iff.mpr hm
    have get : ∀ (m : Nat) (hm : m < us.size), ∃ t, us[m] = .int (G.getD m 0) t := by
      intro m hmu
      (refine ob1_2 (q.get' (i := m) (a := kd (.int G[m])) (by rw [List.getElem?_map, List.getElem?_eq_getElem (by omega)]; rfl)) fun v hv hp => ?_)
      (refine ob1_1 (kd_int hp) fun t' e_325 => ?_; subst e_325)
      have e1 : us[m] = .int G[m] t' := by
        have : us[m]? = some (Value.int G[m] t') := by simpa using hv
        rw [Array.getElem?_eq_getElem hmu] at this
        exact Option.some.inj this
      exact ⟨t', by rw [e1, getD_lt (by omega)]⟩
    refine call_meets PySem.F.slot_list_index (T := "list") ⟨_, ha', rfl⟩ PySem.F.entry_list_index (PySem.F.args_list_index_2 _ _) (MeetsSeq.list_index a us n (.int i t) (fun y => match y with | .int b _ => b == i | _ => false) (fun y hy => ?_) (G.idxOf i) (by omega) (by omega) ?_ (fun m hm hlt2 => ?_)) ⟨ha', ?_⟩
    · obtain ⟨m, hmu, rfl⟩ := Array.getElem_of_mem hy
      (refine ob1_1 (get m hmu) fun t' e => ?_)
      rw [e]
      exact MeetsSeq.EqGives.int _ _ _ _
    · (refine ob1_1 (get (G.idxOf i) (by omega)) fun t' e => ?_)
      rw [e, getD_lt hlt]
      simp
    · (refine ob1_1 (get m hm) fun t' e => ?_)
      rw [e, getD_lt (by omega)]
      have := List.not_of_lt_findIdx (p := (· == i)) (xs := G) hlt2
      simpa using this
    · exact ⟨keeps_tok, is_int⟩
  · exact nos hj
end
section
variable {w : World} {A : Around} {F : Fm} {K : Heap} {env : Env} {p c : Addr} {d : Nat} {e e₁ e₂ : PySem.Expr} {pos : Pos} {P₁ P₂ : KP Value}
theorem op_addLP {Ps Qs : List (KP Value)} (hz : Ps.length + Qs.length ≤ 10000) : O2 w A (binaryOp .Add) (kLst Ps) (kLst Qs) (kPl (Ps ++ Qs)) := by
  (intro s v u H g l o_327 o_329; (refine ob4_5 o_327 fun a o vs n e_328 ha hc hd qa => ?_; try clear o_327; subst e_328); (refine ob4_5 o_329 fun b o2 us m e_330 hb hc2 hd2 qb => ?_; try clear o_329; subst e_330))
  have ha' := hide_sub _ _ ha
  have hb' := hide_sub _ _ hb
  have e1 : Ps.length = vs.size := qa.length.trans Array.length_toList
  have e2 : Qs.length = us.size := qb.length.trans Array.length_toList
  have hsz : vs.size + us.size ≤ sizeLine := by rw [sizeLine_eq, ← e1, ← e2]; exact Nat.le_trans hz (by decide)
  obtain ⟨cls, dd, data, sl⟩ := o
  obtain ⟨cls2, dd2, data2, sl2⟩ := o2
  dsimp only at hc hd hc2 hd2
  subst hc hd hc2 hd2
  refine concat_meets ⟨_, ha', rfl⟩ ⟨_, hb', rfl⟩ noFill_list_add seq_list_add PySem.F.slot_list_add PySem.F.entry_list_add (PySem.F.args_list_add_2 _ _) (list_addW a b vs us n m dd dd2 sl sl2 hsz) ⟨ha', hb', ?_⟩
  refine ⟨keeps_push, s.heap.objs.size, vs ++ us, 0, rfl, push_known l, ?_⟩
  rw [Array.toList_append]
  exact (qa.imp fun P _ y => P.mono push_sub y).append (qb.imp fun P _ y => P.mono push_sub y)
theorem op_addLP2 {T : Type} {al : T → List (KP Value)} {Q : KP Value} {Ps : List (KP Value)} (h : ∀ h v, Q.p h v → ∃ t, (kLst (al t)).p h v) (hz : ∀ t, Ps.length + (al t).length ≤ 10000) (R : KP Value) (hR : ∀ t h v, (kPl (Ps ++ al t)).p h v → R.p h v) : O2 w A (binaryOp .Add) (kLst Ps) Q R := by
  intro s v u H g l hv hu
  (refine ob1_1 (h _ _ hu) fun t ht => ?_)
  exact (op_addLP (hz t) s v u H g l hv ht).weak (hR t)
theorem trp_more {al al' : Bool → Prop} {d1 : Nat} (x : TrP w A F p c d K env e al) (h : ∀ b, al b → al' b) (hd : d ≤ d1) : TrP w A F p c d1 K env e al' := fun o k s hp hk st => wpAny_mono (x o k s hp (by omega) st) (fun v s1 y => (y.imp (R := ⟨fun _ b => al' b, fun _ x => x⟩) (h v)).up (by omega)) fun _ _ y => y
theorem trp_cmp {op : CmpOp} {d1 d2 : Nat} (x : EvP w A F p c d1 K env e₁ P₁) (y : EvP w A F p c d2 K env e₂ P₂) (q : O2 w A (compareOp op) P₁ P₂ ⟨fun _ v => ∃ b, v = .bool b, fun _ x => x⟩) (hm : behindInMarks op e₂ = false := by with_unfolding_all rfl) : TrP w A F p c (d1 + d2) K env (.Compare e₁ [op] [e₂] pos) (fun _ => True) := fun o k s hp hk st => by
  refine wpAny_isTrue_Compare1 (wpAny_mono (two q x y hp hk st) (fun v s1 z => ?_) fun _ _ z => z) hm
  refine wpAny_mono z (fun u s2 z2 => ?_) fun _ _ z => z
  refine wpAny_mono z2 (fun r s3 z3 => ?_) fun _ _ z => z
  (refine ob1_5 z3 fun o3 a1 a2 a3 o_331 a5 => ?_; try clear z3; (refine ob1_1 o_331 fun b e_332 => ?_; try clear o_331; subst e_332))
  exact wpAny_truthy_bool ⟨o3, a1, a2, a3, trivial, a5⟩
theorem trp_and {b : Bool} {al : Bool → Prop} (x : ∀ o, Tr w A (F.pen p o) K env e₁ b) (y : b = true → TrP w A F p c d K env e₂ al) : TrP w A F p c d K env (.BoolOp .And [e₁, e₂] pos) (fun r => (b = true ∧ (r = true ∨ al r)) ∨ (b = false ∧ r = false)) := fun o k s hp hk st => by
  show wpAny _ _ (isTrue e₁ env (eval e₁ env) >>= fun c => match BoolOp.And, c with | .And, false => pure false | .Or, true => pure true | _, _ => allTrue .And [e₂] env) _ _ _
  refine wpAny_bind ((x o s st).use fun v s1 k1 p1 => ?_)
  obtain rfl : v = b := p1
  cases v with
  | false => exact wpAny_pure (PostP.of (hp.up (by omega)) st k1 (.inr ⟨rfl, rfl⟩))
  | true =>
    show wpAny _ _ (isTrue e₂ env (eval e₂ env) >>= fun c => match BoolOp.And, c with | .And, false => pure false | .Or, true => pure true | _, _ => allTrue .And [] env) _ _ _
    refine wpAny_bind (wpAny_mono (y rfl o k s1 hp hk (st.grow k1)) (fun r s2 z => ?_) fun _ _ z => z)
    have z' : PostP w F p c (k + d) (⟨fun _ r => (true = true ∧ (r = true ∨ al r)) ∨ (true = false ∧ r = false), fun _ x => x⟩ : KP Bool) s r s2 := by
      (refine ob1_5 z fun o3 a1 a2 a3 a4 a5 => ?_; try clear z)
      exact mk1_5 o3 a1 a2 ((sub_hide k1.sub).trans a3) (.inl ⟨rfl, .inr a4⟩) (k1.q.trans a5)
    cases r with
    | false => exact wpAny_pure z'
    | true =>
      refine wpAny_pure ?_
      exact z'
end
def atG (N : List (Str × Int)) (G : List Int) (p : Int × Str) : Option Int := (look N p.2).bind (look (placesOf G))
def leftOf (N : List (Str × Int)) (C : List (Int × Str)) (G : List Int) : List (Int × Int) := C.filterMap fun p => (atG N G p).map fun j => (p.1, j)
theorem fm_keys {K V U : Type} {N : List (K × V)} (g : K × V → Option U) (h : (N.map (·.1)).Nodup) : ((N.filterMap fun p => (g p).map fun j => (p.1, j)).map (·.1)).Nodup := by
  induction N with
  | nil => exact List.nodup_nil
  | cons p N ih =>
    rw [List.map_cons, List.nodup_cons] at h
    rw [List.filterMap_cons]
    have ih := ih h.2
    cases g p with
    | none => exact ih
    | some i =>
      simp only [Option.map_some]
      rw [List.map_cons, List.nodup_cons]
      refine ⟨fun hm => h.1 ?_, ih⟩
      (refine ob1_2 (List.mem_map.mp hm) fun q hq e => ?_)
      (refine ob1_2 (List.mem_filterMap.mp hq) fun r hr e2 => ?_)
      cases z : g r with
      | none => rw [z] at e2; exact nos e2
      | some j => rw [z] at e2; obtain rfl := Option.some.inj e2; exact List.mem_map.mpr ⟨r, hr, e⟩
theorem look_fm {K V U : Type} [DecidableEq K] {N : List (K × V)} (g : K × V → Option U) (h : (N.map (·.1)).Nodup) {p : K × V} (hp : p ∈ N) : look (N.filterMap fun p => (g p).map fun j => (p.1, j)) p.1 = g p := by
  cases z : g p with
  | some j => exact look_mem (fm_keys g h) (List.mem_filterMap.mpr ⟨p, hp, by rw [z]; rfl⟩)
  | none =>
    unfold look
    rw [Option.map_eq_none_iff, List.find?_eq_none]
    intro q hq
    (refine ob1_2 (List.mem_filterMap.mp hq) fun r hr e2 => ?_)
    cases z2 : g r with
    | none => rw [z2] at e2; exact nos e2
    | some j =>
      rw [z2] at e2
      obtain rfl := Option.some.inj e2
      intro e
      have e : r.1 = p.1 := by simpa using e
      have := look_mem h hp
      have h2 := look_mem h hr
      rw [e, this] at h2
      have hrp : r = p := Prod.ext e (Option.some.inj h2).symm
      rw [hrp, z] at z2
      exact nos z2
theorem left_filter {N : List (Str × Int)} {C : List (Int × Str)} {G : List Int} (hC : (C.map (·.1)).Nodup) (hnz : ∀ p ∈ C, ∀ j, atG N G p = some j → j ≠ 0) :
    (C.filter fun p => (look (leftOf N C G) p.1).getD 0 != 0) = C.filter fun p => (atG N G p).isSome := by
  refine List.filter_congr fun p hp => ?_
  unfold leftOf
  rw [look_fm (atG N G) hC hp]
  cases z : atG N G p with
  | none => rfl
  | some j =>
    have := hnz p hp j z
    simpa using this
theorem fm_congr {α β : Type} {f g : α → Option β} : ∀ {l : List α}, (∀ p ∈ l, f p = g p) → l.filterMap f = l.filterMap g
  | [], _ => rfl
  | a :: l, h => by rw [List.filterMap_cons, List.filterMap_cons, h a (.head _), fm_congr fun p hp => h p (.tail _ hp)]
theorem left_codes {N : List (Str × Int)} {C : List (Int × Str)} {G : List Int} (hC : (C.map (·.1)).Nodup) :
    ((leftOf N C G).filterMap fun q => (look C q.1).map fun x => (q.1, x)) = C.filter fun p => (atG N G p).isSome := by
  unfold leftOf
  rw [List.filterMap_filterMap, filter_fm]
  refine fm_congr fun p hp => ?_
  cases z : atG N G p with
  | none => rfl
  | some j =>
    show (look C p.1).map _ = _
    rw [look_mem hC hp]; rfl
def kKept (is : List Int) : KP Value := ⟨fun h v => ∃ G' : List Int, G'.Sublist is ∧ (∀ g ∈ G', 0 < g) ∧ (kPl ((0 :: G').map fun i => kd (.int i))).p h v, fun k x_ => ob1_3 x_ fun G' h1 h2 h3 => mk1_3 G' h1 h2 ((kPl _).mono k h3)⟩
def alG (is : List Int) (i : Nat) (b : Option (KP Value)) : Prop := b = none ∨ ∃ g, is[i]? = some g ∧ 0 < g ∧ b = some (kd (.int g))
theorem al_list {is : List Int} {bs : List (Option (KP Value))} (e : bs.length = is.length) (h : ∀ i b, bs[i]? = some b → alG is i b) : ∃ G' : List Int, G'.Sublist is ∧ (∀ g ∈ G', 0 < g) ∧ bs.filterMap id = G'.map fun i => kd (.int i) := by
  induction bs generalizing is with
  | nil => rw [List.length_eq_zero_iff.mp e.symm]; exact ⟨[], .slnil, fun g hg => (List.not_mem_nil hg).elim, rfl⟩
  | cons b bs ih =>
    cases is with
    | nil => cases e
    | cons a is =>
      refine ob1_3 (ih (is := is) (Nat.succ.inj e) fun i b' hb => h (i + 1) b' hb) fun G' g1 g2 g3 => ?_
      rcases h 0 b rfl with h | ⟨g, h1, h2, h3⟩
      · exact ⟨G', .cons _ g1, g2, by rw [h]; exact g3⟩
      · obtain rfl := Option.some.inj h1
        exact ⟨a :: G', .cons_cons _ g1, List.forall_mem_cons.mpr ⟨h2, g2⟩, by rw [h3]; exact congrArg _ g3⟩
def kCutR (w : World) (N : List (Str × Int)) (C : List (Int × Str)) (D : List (Str × Int)) (M : List Str) : KP Value := ⟨fun h v => ∃ G' : List Int, G'.Sublist (N.map fun q : Str × Int => q.2) ∧ (∀ g ∈ G', 0 < g) ∧
  (kTup [kB w (sI (cutN N (0 :: G'))) (iS (C.filter fun p => (atG N (0 :: G') p).isSome)) (sI (D.filter fun p => (look (cutN N (0 :: G')) p.1).isSome)) ((M.filter fun m => (look (cutN N (0 :: G')) m).isSome).map .str) [] (kFont w (leftOf N C (0 :: G'))),
    kLst (kW w (cutN N (0 :: G')) (C.filter fun p => (atG N (0 :: G') p).isSome) (D.filter fun p => (look (cutN N (0 :: G')) p.1).isSome) (M.filter fun m => (look (cutN N (0 :: G')) m).isSome) [] false)]).p h v, fun k x_ => ob1_3 x_ fun G' h1 h2 h3 => mk1_3 G' h1 h2 ((kTup _).mono k h3)⟩
theorem iterH_ints {w : World} {is : List Int} : IterH w (kd (.list (is.map PyData.int))) (is.map fun i => kd (.int i)) := by
  have := iterH_kdl (w := w) (ds := is.map PyData.int)
  rw [List.map_map] at this
  exact this
theorem gt_dig {w : World} {A : Around} {m : Nat} {i : Int} : O2 w A (compareOp .Gt) (kDig m) (kd (.int i)) ⟨fun _ v => ∃ b, v = .bool b, fun _ x => x⟩ := by
  (intro s v u H g l o_333 hu; (refine ob2_2 o_333 fun j t _ e_334 => ?_; try clear o_333; subst e_334))
  (refine ob1_1 (kd_int hu) fun t' e_335 => ?_; subst e_335)
  exact PyProof.Rows.gt_int ⟨.rfl', _, rfl⟩
theorem cut_law_spec {w : World} {N D : List (Str × Int)} {C : List (Int × Str)} {M : List Str} {R : List PyData} {f : KP Value} {b0 : Bool} (hf : Handed f) (hN : (N.map (·.1)).Nodup) (hD : (D.map (·.1)).Nodup) (hC : (C.map (·.1)).Nodup) (hNs : (N.map (·.2)).Pairwise (· < ·)) (hCN : ∀ p ∈ C, ∃ i, look N p.2 = some i ∧ 0 < i)
    (zN : N.length ≤ 6) (zD : D.length ≤ 900) (zC : C.length ≤ 900) (zM : M.length ≤ 900) :
    OnP w 800 (.ref 437) 10 [kB w (sI N) (iS C) (sI D) (M.map .str) R f, kLst (kW w N C D M R b0)] (kCutR w N C D M) := by
  intro A B0 X s p c o k H vs hA hd hu hpH l hp S Dp hk hv
  (refine all2_2 hv fun v1 v2 e_336 h1 h2 => ?_; clear hv; subst e_336)
  k_dflt (refine' fn_enterP (binds := [("pen", .ref p), ("bench", v1), ("world", v2)]) hpH l hp S ?k6 ?k7 ?k8 ?k9 ?kB ?kD ?_ ?c2 ?c3 ?c4)
  case k6 | k7 => k_is
  case k8 => show A.depth < 1000; omega
  case k9 => exact BindsTo.of_eq rfl
  case kB => exact rfl
  case kD => decide +kernel
  case c2 | c3 | c4 => exact rfl
  intro L cells hL Y SB hpl
  refine cells_6 Y fun o6 o5 o4 o3 o2 o1 eY d6 d5 d4 d3 d2 d1 => ?_
  clear Y; subst eY
  have dA : ∀ {env : Env} {k : Nat} {f : Value} {Ps : List (KP Value)} {P : KP Value}, On w (Al k k) f Ps P → 803 ≤ k → On w (A.deeper env) f Ps P := fun {env k f Ps P} h hk => on_any h (by exact hA) (by show A.depth + 1 ≤ k; omega) (by show A.units + 3 ≤ k; omega)
  refine run_unpack (T := "list") (Ps := kW w N C D M R b0) (.inl rfl) hA (by walk_at "E ev") rfl rfl (fun K1 us S1 hus => ?_) rfl rfl
  (refine all2_6 hus fun _ _ _ _ _ _ e_337 p1 p2 p3 p4 p5 p6 => ?_; clear hus; subst e_337)
  refine stores_cell (pre := [(p, _), (L + 1 + 1 + 1 + 1 + 1 + 1, _), (L + 1 + 1 + 1 + 1 + 1, _), (L + 1 + 1 + 1 + 1, _), (L + 1 + 1 + 1, _)]) rfl (by assumption) (fun on dn => ?_) rfl
  refine stores_cell (pre := [(p, _), (L + 1 + 1 + 1 + 1 + 1 + 1, _), (L + 1 + 1 + 1 + 1 + 1, _), (L + 1 + 1 + 1 + 1, _)]) rfl (by assumption) (fun oc dc => ?_) rfl
  refine stores_cell (pre := [(p, _), (L + 1 + 1 + 1 + 1 + 1 + 1, _), (L + 1 + 1 + 1 + 1 + 1, _)]) rfl (by assumption) (fun oa da => ?_) rfl
  refine stores_local (stores_local (stores_local (stores_nil ?_) rfl rfl rfl) rfl rfl rfl) rfl rfl rfl
  dsimp only [List.cons_append, List.nil_append, List.append, Fm.up, Fm.pen]
  have len2 : (N.map fun q : Str × Int => q.2).length = N.length := List.length_map ..
  refine run_assignCP (F := ⟨s, hideAll s.heap [p], H, L, _, [(L + 1 + 1 + 1 + 1 + 1 + 1, _), (L + 1 + 1 + 1 + 1 + 1, _), (L + 1 + 1 + 1 + 1, oa), (L + 1 + 1 + 1, oc), (L + 1 + 1, on), (L + 1, _)]⟩) (d := N.length) (P := kKept (N.map fun q : Str × Int => q.2)) (pre := [(L + 1 + 1 + 1 + 1 + 1 + 1, _)]) ?kept rfl (by assumption) Dp (by omega) (fun o2 ok K2 w2 D2 S2 q2 dk => ?_) rfl
  case kept =>
    have hsort : (sI N).map (fun q : Str × PyData => kd q.2) = (N.map fun q : Str × Int => q.2).map fun i => kd (.int i) := by rw [List.map_map, List.map_map]; rfl
    refine EvP.more (d := 0 + ((N.map fun q : Str × Int => q.2).map fun i => kd (.int i)).length * 1) (evp_bin (P₁ := kLst [kd (.int 0)]) (P₂ := kComp ((N.map fun q : Str × Int => q.2).map fun i => kd (.int i)).length (alG (N.map fun q : Str × Int => q.2))) (evp_of fun o => ev_lst (Evs.cons ev_int Evs.nil) (of_decide_eq_true rfl)) ?comp ?add) (by simp)
    case add =>
      refine op_addLP2 (T := { G' : List Int // G'.Sublist (N.map fun q : Str × Int => q.2) ∧ ∀ g ∈ G', 0 < g }) (al := fun t => t.1.map fun i => kd (.int i)) (fun h v => ?_) (fun t => ?_) _ fun t h v q => ⟨t.1, t.2.1, t.2.2, q⟩
      · (intro o_338; (refine ob1_3 o_338 fun bs b1 b2 b3 => ?_; try clear o_338))
        (refine ob1_3 (al_list (by rw [b1, List.length_map]) b2) fun G' g1 g2 g3 => ?_)
        exact ⟨⟨G', g1, g2⟩, pl_lst (g3 ▸ b3)⟩
      · have := t.2.1.length_le
        rw [List.length_map]
        simp at this ⊢
        omega
    case comp =>
      refine ev_compP (fun o => ev_call (P := kd (.list ((N.map fun q : Str × Int => q.2).map PyData.int))) (by walk_at "E ev") (Evs.cons (ev_meth (P₀ := ksd w (sI N)) (Ps := []) (by walk_at "E ev") gm_values Evs.nil on_values keep_b (.inl ⟨rfl, rfl⟩) rfl rfl) Evs.nil) (on_sorted_values hA hsort (hNs.imp fun h => Int.le_of_lt h) (by omega)) keep_b (.inr ⟨_, _, rfl⟩) rfl rfl) iterH_ints hA (by simp; omega) (by rfl) (by decide) rfl (by decide) (by rfl) (fun i Pk hP C' D' wr m₃ v K3 hm S3 hv => ?turn) (fun _ => rfl)
      rw [List.getElem?_map] at hP
      cases eg : (N.map fun q : Str × Int => q.2)[i]? with
      | none => rw [eg] at hP; exact nos hP
      | some g =>
        rw [eg] at hP
        obtain rfl := Option.some.inj hP
        have pkv : (kv (.ref p)).p K3 (.ref p) := rfl
        by_cases hg : 0 < g
        · refine .inl ⟨1, 0, rfl, ?_, kd (.int g), .inr ⟨g, eg, hg, rfl⟩, evp_of fun o => by walk_at "E ev"⟩
          refine trp_more (al := _) (trp_and (d := 1) (b := true) (al := fun _ => True) (fun o => tr_b (tr_cmp (by walk_at "E ev") (by walk_at "E ev") op_gt) (by simp [hg])) (fun _ => trp_cmp (d1 := 1) (d2 := 0) (evp_call (n := 900) (Ps := [kd (.int (3 : Nat))]) hA (by show A.depth + 1 ≤ 900; omega) (by show A.units + 3 ≤ 900; omega) SB (fun o => by walk_at "E ev") (fun o => by walk_at "E args") (draw_on (m := 3) (by decide) (by decide)) (keep_ref (by k_is)) ⟨_, _, rfl⟩ rfl rfl) (evp_of fun o => by walk_at "E ev") gt_dig)) (fun _ _ _ => .inl rfl) (Nat.le_refl _)
        · refine .inr ⟨_, rfl, trp_more (al := _) (trp_and (d := 1) (b := false) (al := fun _ => True) (fun o => tr_b (tr_cmp (by walk_at "E ev") (by walk_at "E ev") op_gt) (by simp [hg])) nob) (fun b hb => ?_) (Nat.le_refl _)⟩
          rcases hb with ⟨h, _⟩ | ⟨_, h⟩
          · exact nob h
          · exact ⟨h, .inl rfl⟩
  dsimp only [List.cons_append, List.nil_append, List.append, Fm.pen] at *
  obtain ⟨G', hsub, hpos, q2⟩ := q2
  have hG : (0 :: G').Nodup := by
    rw [List.nodup_cons]
    refine ⟨fun hm => absurd (hpos 0 hm) (by decide), ?_⟩
    exact (hNs.sublist hsub).imp fun h => Int.ne_of_lt h
  have zG : (0 :: G').length ≤ 900 := by
    have := hsub.length_le
    rw [List.length_map] at this
    simp only [List.length_cons]; omega
  generalize hGG : (0 :: G' : List Int) = G at q2 hG zG
  have q2l : (kd (.list (G.map PyData.int))).p K2 w2 := lst_kd (pl_lst (by rw [List.map_map]; exact q2))
  have q2s : (kLst (G.map fun i => kd (.int i))).p K2 w2 := pl_lst q2
  have itC : Iter w (kid w (iS C)) (C.map fun p => kd (.int p.1)) := by
    have := iter_dict (w := w) (kvs := iS C) keyI
    rw [List.map_map] at this
    exact this
  have itN : Iter w (ksd w (sI N)) (N.map fun p => kd (.str p.1)) := by
    have := iter_dict (w := w) (kvs := sI N) keyS
    rw [List.map_map] at this
    exact this
  have itD : Iter w (ksd w (sI D)) (D.map fun p => kd (.str p.1)) := by
    have := iter_dict (w := w) (kvs := sI D) keyS
    rw [List.map_map] at this
    exact this
  have itL : Iter w (kid w (iI (leftOf N C G))) ((leftOf N C G).map fun p => kd (.int p.1)) := by
    have := iter_dict (w := w) (kvs := iI (leftOf N C G)) keyI
    rw [List.map_map] at this
    exact this
  have hL1 : ((leftOf N C G).map (·.1)).Nodup := fm_keys (atG N G) hC
  have zL : (leftOf N C G).length ≤ 900 := Nat.le_trans (List.length_filterMap_le _ _) zC
  have hnz : ∀ p ∈ C, ∀ j, atG N G p = some j → j ≠ 0 := by
    intro q hq j hj
    (refine ob1_2 (hCN q hq) fun i e1 e2 => ?_)
    unfold atG at hj
    rw [e1] at hj
    have hj : look (placesOf G) i = some j := hj
    rw [look_places] at hj
    split at hj
    · obtain rfl := Option.some.inj hj
      rw [← hGG, List.idxOf_cons]
      have : ((0 : Int) == i) = false := by simp; omega
      rw [this]
      simp only [cond_false]
      omega
    · exact nos hj
  have hnz2 : ∀ q ∈ leftOf N C G, q.2 ≠ 0 := by
    intro q hq
    (refine ob1_2 (List.mem_filterMap.mp hq) fun r hr e => ?_)
    cases z : atG N G r with
    | none => rw [z] at e; exact nos e
    | some j => rw [z] at e; obtain rfl := Option.some.inj e; exact hnz r hr j z
  refine run_assign (P := kid w (iI (leftOf N C G))) ?left (fun K3 w3 S3 q3 => ?_) rfl rfl rfl rfl
  case left =>
    refine ev_call (by walk_at "E ev") (Evs.cons ?comp2 Evs.nil) (on_dict_pairs keyI hA ?_ ?_) keep_t (.inr ⟨_, _, rfl⟩) rfl rfl
    case comp2 =>
      have e : (iI (leftOf N C G)).map (fun p => kTup [kd (.int p.1), kd p.2]) = C.filterMap fun p => (atG N G p).map fun j => kTup [kd (.int p.1), kd (.int j)] := by
        unfold leftOf
        rw [List.map_map, List.map_filterMap]
        simp [Function.comp_def]
      rw [e]
      refine ev_compL C (fun p => kd (.int p.1)) _ (by walk_at "E ev") itC hA (by omega) (by rfl) (by decide) rfl (by decide) (by rfl) (fun q hq C' D' wr m₃ v K4 hm S4 hv => ?_) (fun _ => rfl)
      (refine ob1_2 (hCN q hq) fun i e1 e2 => ?_)
      have hg1 : dget (iS C) q.1 = some (.str q.2) := by rw [dget_map PyData.str, look_mem hC hq]; rfl
      have hg2 : dget (sI N) q.2 = some (.int i) := by rw [dget_map PyData.int, e1]; rfl
      have eat : atG N G q = look (placesOf G) i := by unfold atG; rw [e1]; rfl
      rw [eat]
      refine ⟨?_, fun R e => ?_⟩
      · show Tr _ _ _ _ _ _ _
        refine tr_b (tr_cmp (ev_sub (by walk_at "E ev") (ev_sub (by walk_at "E ev") (by walk_at "E ev") (sub_dict keyI hg1 (fun _ _ => rfl))) (sub_dict keyS hg2 (fun _ _ => rfl))) (P₂ := kd (.list (G.map PyData.int))) (by walk_at "E ev") (op_inL lay_ints (by rw [PyData.canLay0]) (room1 (by show A.units + 3 ≤ 1000; omega) (by rw [PyData.depth]; decide)))) ?_
        rw [in_ints]
        cases look (placesOf G) i <;> rfl
      · cases ei : look (placesOf G) i with
        | none => rw [ei] at e; exact nos e
        | some j =>
          rw [ei] at e
          obtain rfl := Option.some.inj e
          exact ev_tup (Evs.cons (by walk_at "E ev") (Evs.cons (ev_meth (P₀ := kPl (G.map fun i => kd (.int i))) (Ps := [kd (.int i)]) (by walk_at "E ev") gm_index (Evs.cons (ev_sub (by walk_at "E ev") (ev_sub (by walk_at "E ev") (by walk_at "E ev") (sub_dict keyI hg1 (fun _ _ => rfl))) (sub_dict keyS hg2 (fun _ _ => rfl))) Evs.nil) (on_index ei (by omega)) keep_b (.inr ⟨_, _, rfl⟩) rfl rfl) Evs.nil) rfl) (of_decide_eq_true rfl)
    · rw [List.map_map]; exact hL1
    · rw [List.length_map]; omega
  refine run_assign (P := kB w (sI (cutN N G)) (iS (C.filter fun p => (look (leftOf N C G) p.1).getD 0 != 0)) (sI (D.filter fun p => (look (cutN N G) p.1).isSome)) ((M.filter fun m => (look (cutN N G) m).isSome).map .str) [] (kFont w (leftOf N C G))) ?made (fun K4 w4 S4 q4 => ?_) rfl rfl rfl rfl
  case made =>
    refine ev_call (by walk_at "E ev") (Evs.cons (by walk_at "E ev") (Evs.cons (P := kLst (G.map fun i => kd (.int i))) (by walk_at "E ev") (Evs.cons (ev_call (by walk_at "E ev") (by walk_at "E args") (dA (law_font_spec hL1 hnz2 (by omega)) (by decide)) (keep_ref (by k_is)) (.inr ⟨_, _, rfl⟩) rfl rfl) Evs.nil))) (dA (cut_spec (FC := leftOf N C G) hf hN hD hC hG (by omega) (by omega) (by omega) (by omega) (by omega)) (by decide)) (keep_ref (by k_is)) (.inr ⟨_, _, rfl⟩) rfl rfl
  rw [left_filter hC hnz] at q4
  refine run_assignC (P := ksd w (sI (cutN N G))) (pre := [(p, _)]) ?plain rfl (by assumption) (fun K5 w5 o5 S5 q5 d5 => ?_) rfl
  case plain =>
    refine ev_call (by walk_at "E ev") (Evs.cons ?comp3 Evs.nil) (on_dict_pairs keyS hA ?_ ?_) keep_t (.inr ⟨_, _, rfl⟩) rfl rfl
    case comp3 =>
      have e : (sI (cutN N G)).map (fun p => kTup [kd (.str p.1), kd p.2]) = N.filterMap fun p => (look (placesOf G) p.2).map fun i => kTup [kd (.str p.1), kd (.int i)] := by
        unfold cutN
        rw [List.map_map, List.map_filterMap]
        simp [Function.comp_def]
      rw [e]
      refine ev_compL N (fun p => kd (.str p.1)) _ (by walk_at "E ev") itN hA (by omega) (by rfl) (by decide) rfl (by decide) (by rfl) (fun q hq C' D' wr m₃ v K6 hm S6 hv => ?_) (fun _ => rfl)
      have hg2 : dget (sI N) q.1 = some (.int q.2) := by rw [dget_map PyData.int, look_mem hN hq]; rfl
      refine ⟨?_, fun R e => ?_⟩
      · show Tr _ _ _ _ _ _ _
        refine tr_b (tr_cmp (ev_sub (by walk_at "E ev") (by walk_at "E ev") (sub_dict keyS hg2 (fun _ _ => rfl))) (P₂ := kd (.list (G.map PyData.int))) (by walk_at "E ev") (op_inL lay_ints (by rw [PyData.canLay0]) (room1 (by show A.units + 3 ≤ 1000; omega) (by rw [PyData.depth]; decide)))) ?_
        rw [in_ints]
        cases look (placesOf G) q.2 <;> rfl
      · cases ei : look (placesOf G) q.2 with
        | none => rw [ei] at e; exact nos e
        | some j =>
          rw [ei] at e
          obtain rfl := Option.some.inj e
          exact ev_tup (Evs.cons (by walk_at "E ev") (Evs.cons (ev_meth (P₀ := kPl (G.map fun i => kd (.int i))) (Ps := [kd (.int q.2)]) (by walk_at "E ev") gm_index (Evs.cons (ev_sub (by walk_at "E ev") (by walk_at "E ev") (sub_dict keyS hg2 (fun _ _ => rfl))) Evs.nil) (on_index ei (by omega)) keep_b (.inr ⟨_, _, rfl⟩) rfl rfl) Evs.nil) rfl) (of_decide_eq_true rfl)
    · rw [List.map_map]; exact cutN_keys hN
    · rw [List.length_map]; exact Nat.le_trans (List.length_filterMap_le _ _) (by omega)
  dsimp only [List.cons_append, List.nil_append, List.append, Fm.up]
  refine run_returnP (F := ⟨s, hideAll s.heap [p], H, L, _, [(L + 1 + 1 + 1 + 1 + 1 + 1, _), (L + 1 + 1 + 1 + 1 + 1, _), (L + 1 + 1 + 1 + 1, oa), (L + 1 + 1 + 1, oc), (L + 1 + 1, on), (L + 1, _)]⟩) (d := 0) rfl (evp_of fun o9 => Ev.weak (P := kTup [kB w (sI (cutN N G)) (iS (C.filter fun p => (atG N G p).isSome)) (sI (D.filter fun p => (look (cutN N G) p.1).isSome)) ((M.filter fun m => (look (cutN N G) m).isSome).map .str) [] (kFont w (leftOf N C G)),
    kLst (kW w (cutN N G) (C.filter fun p => (atG N G p).isSome) (D.filter fun p => (look (cutN N G) p.1).isSome) (M.filter fun m => (look (cutN N G) m).isSome) [] false)]) ?fin ?wk) D2 (by omega) (by omega)
  case wk => exact fun h v q => ⟨G', hsub, hpos, by rw [hGG]; exact q⟩
  case fin =>
    refine ev_tup (Evs.cons (by walk_at "E ev") (Evs.cons (ev_lst (Evs.cons (by walk_at "E ev") (Evs.cons ?c1 (Evs.cons ?c2 (Evs.cons ?c3 (Evs.cons ?c4 (Evs.cons (by walk_at "E ev") Evs.nil)))))) (of_decide_eq_true rfl)) Evs.nil)) (of_decide_eq_true rfl)
    case c1 =>
      refine ev_call (by walk_at "E ev") (Evs.cons ?comp4 Evs.nil) (on_dict_pairs keyI hA ?_ ?_) keep_t (.inr ⟨_, _, rfl⟩) rfl rfl
      case comp4 =>
        have e : (iS (C.filter fun p => (atG N G p).isSome)).map (fun p => kTup [kd (.int p.1), kd p.2]) = (leftOf N C G).filterMap fun q => (look C q.1).map fun x => kTup [kd (.int q.1), kd (.str x)] := by
          rw [← left_codes (N := N) (G := G) hC, List.map_map, List.map_filterMap]
          simp [Function.comp_def]
        rw [e]
        refine ev_compL (leftOf N C G) (fun p => kd (.int p.1)) _ (by walk_at "E ev") itL hA (by omega) (by rfl) (by decide) rfl (by decide) (by rfl) (fun q hq C' D' wr m₃ v K6 hm S6 hv => ?_) (fun _ => rfl)
        have hcx : ∃ x, look C q.1 = some x := by
          (refine ob1_2 (List.mem_filterMap.mp hq) fun r hr e => ?_)
          cases z : atG N G r with
          | none => rw [z] at e; exact nos e
          | some j => rw [z] at e; obtain rfl := Option.some.inj e; exact ⟨_, look_mem hC hr⟩
        obtain ⟨x, hcx⟩ := hcx
        have hg1 : dget (iS C) q.1 = some (.str x) := by rw [dget_map PyData.str, hcx]; rfl
        rw [hcx]
        refine ⟨rfl, fun R e => ?_⟩
        obtain rfl := Option.some.inj e
        exact ev_tup (Evs.cons (by walk_at "E ev") (Evs.cons (ev_sub (by walk_at "E ev") (by walk_at "E ev") (sub_dict keyI hg1 (fun _ _ => rfl))) Evs.nil) rfl) (of_decide_eq_true rfl)
      · rw [List.map_map]; exact filter_keys _ hC
      · rw [List.length_map]; exact Nat.le_trans (List.length_filter_le _ _) (by omega)
    case c2 =>
      refine ev_call (by walk_at "E ev") (Evs.cons ?comp5 Evs.nil) (on_dict_pairs keyS hA ?_ ?_) keep_t (.inr ⟨_, _, rfl⟩) rfl rfl
      case comp5 =>
        have e : (sI (D.filter fun p => (look (cutN N G) p.1).isSome)).map (fun p => kTup [kd (.str p.1), kd p.2]) = D.filterMap fun p => if (look (cutN N G) p.1).isSome then some (kTup [kd (.str p.1), kd (.int p.2)]) else none := by
          rw [filter_fm, List.map_map, List.map_filterMap]
          congr 1; funext p; split <;> rfl
        rw [e]
        refine ev_compL D (fun p => kd (.str p.1)) _ (by walk_at "E ev") itD hA (by omega) (by rfl) (by decide) rfl (by decide) (by rfl) (fun q hq C' D' wr m₃ v K6 hm S6 hv => ?_) (fun _ => rfl)
        have hg : dget (sI D) q.1 = some (.int q.2) := by rw [dget_map PyData.int, look_mem hD hq]; rfl
        refine ⟨?_, fun R e => ?_⟩
        · have tb : (if (look (cutN N G) q.1).isSome then some (kTup [kd (.str q.1), kd (.int q.2)]) else none).isSome = (dget (sI (cutN N G)) q.1).isSome := by rw [dget_map PyData.int]; cases look (cutN N G) q.1 <;> rfl
          show Tr _ _ _ _ _ _ _
          rw [tb]
          exact tr_cmp (by walk_at "E ev") (by walk_at "E ev") (op_in keyS)
        · split at e
          · obtain rfl := Option.some.inj e
            exact ev_tup (Evs.cons (by walk_at "E ev") (Evs.cons (ev_sub (by walk_at "E ev") (by walk_at "E ev") (sub_dict keyS hg (fun _ _ => rfl))) Evs.nil) rfl) (of_decide_eq_true rfl)
          · exact nos e
      · rw [List.map_map]; exact filter_keys _ hD
      · rw [List.length_map]; exact Nat.le_trans (List.length_filter_le _ _) (by omega)
    case c3 =>
      refine Ev.weak (P := kPl (((M.filter fun m => (look (cutN N G) m).isSome).map PyData.str).map kd)) ?_ fun _ _ q => lst_kd (pl_lst q)
      have e : ((M.filter fun m => (look (cutN N G) m).isSome).map PyData.str).map kd = M.filterMap fun m => if (look (cutN N G) m).isSome then some (kd (.str m)) else none := by
        rw [filter_fm, List.map_map, List.map_filterMap]
        congr 1; funext p; split <;> rfl
      rw [e]
      have itM : Iter w (kd (.list (M.map .str))) (M.map fun p => kd (.str p)) := by
        have := iter_kdl (w := w) (ds := M.map .str)
        rw [List.map_map] at this
        exact this
      refine ev_compL M (fun p => kd (.str p)) _ (by walk_at "E ev") itM hA (by omega) (by rfl) (by decide) rfl (by decide) (by rfl) (fun q hq C' D' wr m₃ v K6 hm S6 hv => ?_) (fun _ => rfl)
      refine ⟨?_, fun R e => ?_⟩
      · have tb : (if (look (cutN N G) q).isSome then some (kd (.str q)) else none).isSome = (dget (sI (cutN N G)) q).isSome := by rw [dget_map PyData.int]; cases look (cutN N G) q <;> rfl
        show Tr _ _ _ _ _ _ _
        rw [tb]
        exact tr_cmp (by walk_at "E ev") (by walk_at "E ev") (op_in keyS)
      · split at e
        · obtain rfl := Option.some.inj e
          walk_at "E ev"
        · exact nos e
    case c4 => exact (ev_lst Evs.nil (of_decide_eq_true rfl)).weak fun _ _ q => lst_kd (ds := []) q
section
variable {w : World} {A : Around} {F : Fm} {K : Heap} {env : Env} {s : Shared} {x : Str} {px pos : Pos} {iter : PySem.Expr} {body rest : List Stmt} {R : Flow → Shared → Prop}
theorem St.base' {F : Fm} (st : St w F K s) {B : Heap} (g : G w B) (hs : Sub B s.heap) (hL : B.get? F.L = none) (hm : ∀ a ∈ F.mu.map (·.1), B.get? a = none) : St w ⟨F.s0, B, F.H, F.L, F.m, F.mu⟩ K s :=
  ⟨g, st.rl, hs, st.sub, st.ns, st.mus, st.live, st.out, hL, fun q hq => hm _ (List.mem_map_of_mem (f := (·.1)) hq), st.muL, st.mnd⟩
structure Same (F F' : Fm) : Prop where
  s0 : F'.s0 = F.s0
  L : F'.L = F.L
  mu : F'.mu.map (·.1) = F.mu.map (·.1)
inductive CJR (w : World) (F : Fm) (J : Nat → Fm → Heap → Prop) (wr : List Addr) (Stt : Nat → Heap → Prop) (n k : Nat) (s' : Shared) : Prop
  | mk (i : Nat) (F' : Fm) (K' : Heap) (h1 : J i F' K') (h2 : F'.B = F.B) (h3 : F'.H = F.H) (h4 : St w F' K' s') (h5 : ∀ b ∈ wr, K'.get? b = none) (h6 : Stt i s'.heap) (h7 : i ≤ n) (h8 : k = n + 1 - i) : CJR w F J wr Stt n k s'
theorem loop_range {n : Nat} {xv : Value} {J : Nat → Fm → Heap → Prop} (hn : n ≤ 1000) (hA : A.handled = none) (hv : (kRng n).p K xv) (J0 : J 0 F K) (hJ : ∀ i F' K', J i F' K' → Same F F') (hJB : ∀ i F' K' B H, J i F' K' → J i ⟨F'.s0, B, H, F'.L, F'.m, F'.mu⟩ K')
    (turn : ∀ i v F' K' B H', i < n → J i F' K' → (kd (.int (i : Nat))).p K' v → Sub F.B B → (∀ b ∈ F.H, b ∈ H') → F'.B = B → F'.H = H' → Run w A env (F'.up x v) K' body (fun fl s' => (fl = .next ∧ ∃ F2 K2, J (i + 1) F2 K2 ∧ F2.B = B ∧ F2.H = H' ∧ St w F2 K2 s') ∨ ∃ u, fl = .ret u ∧ R (.ret u) s') (fun _ _ => False))
    (done : ∀ F' K' s', J n F' K' → F'.B = F.B → F'.H = F.H → St w F' K' s' → R .next s') (st : St w F K s)
    (hk : env.scope.kind = .function := by rfl) (hl : env.kindOf x = some .local := by rfl) (hL : env.locals = F.L := by rfl) :
    wpAny (model PR w) A (pyIter xv) (fun it s₂ => codeAny (model PR w) A (.forLoop (.Name x px) it body [] env) (fun r s' => match r with | .ok f => R f s' | .error e => cameBackBy (model PR w) A env (fun _ _ => False) e s') s₂) (fun _ _ => False) s := by
  refine iterH_rng (by omega) A s xv F.hid _ _ hA st.gh st.lives ((kRng n).mono st.in hv) fun I fp wr n' Pi Stt h' tk W hn' hst hkk hwr hfp hlv hfH hPi => ?_
  rw [List.length_map, List.length_range] at hn'
  subst hn'
  have disj : ∀ b ∈ F.hid, b ∉ fp := fun b hb hm => hfH b hm hb
  have wrB : ∀ b ∈ wr, F.B.get? b = none := fun b hb => none_of_sub st.base (hwr b hb)
  have st' : St w F K { s with heap := h', toks := tk } := st.grow ⟨h', tk, rfl, hkk⟩
  refine codeAny_forLoop (CJR w F J wr Stt n') ?_ (n' + 1) ⟨0, F, K, J0, rfl, rfl, st', fun b hb => none_of_sub st.sub (hwr b hb), hst, Nat.zero_le _, rfl⟩
  (intro k s' o_339; obtain ⟨i, F', K', hj, hB, hH, sti, hwK, hsti, hi, rfl⟩ := o_339)
  have sm := hJ i F' K' hj
  have smh : F'.hid = F.hid := by
    show F'.L :: (F'.mu.map (·.1) ++ F'.H) = _
    rw [sm.L, hH, sm.mu]
  by_cases hlt : i < n'
  · refine W.item i _ _ _ hlt hsti fun v h₁ tk₁ hP hst₁ hk₁ => ?_
    (refine ob1_2 (hPi i v hlt hP) fun Pk e hp => ?_)
    rw [List.getElem?_map, List.getElem?_range hlt] at e
    obtain rfl := Option.some.inj e
    (refine ob1_1 (kd_int hp) fun t e_341 => ?_; subst e_341)
    have hwh : ∀ b ∈ F'.hid, b ∉ wr := fun b hb hm => disj b (smh ▸ hb) (W.sub _ hm)
    have st1 : St w F' K' { s' with heap := h₁, toks := tk₁ } := by
      refine ⟨sti.g, sti.rl.trans ⟨_, _, rfl⟩, fun b o q => hk₁ b o (fun hm => by rw [hB, wrB b hm] at q; exact nos q) (sti.base b o q), fun b o q => hk₁ b o (fun hm => by rw [hwK b hm] at q; exact nos q) (sti.sub b o q), sti.ns.at' fun o q => hk₁ _ o (hwh _ (.head _)) q, fun q hq => hk₁ _ _ (hwh _ (.tail _ (List.mem_append_left _ (List.mem_map_of_mem (f := (·.1)) hq)))) (sti.mus q hq), fun b hb => ?_, sti.out, sti.bL, sti.bmu, sti.muL, sti.mnd⟩
      (refine ob1_1 (sti.live b hb) fun o q => ?_)
      exact ⟨o, hk₁ b o (hwh b (.tail _ (List.mem_append_right _ hb))) q⟩
    have hX : ∀ b, b ∈ ((List.range h₁.objs.size).filter fun b => (F.B.get? b).isNone && !(fp.contains b)) ↔ b < h₁.objs.size ∧ F.B.get? b = none ∧ b ∉ fp := fun b => by
      rw [List.mem_filter, List.mem_range]
      simp
    generalize hXX : ((List.range h₁.objs.size).filter fun b => (F.B.get? b).isNone && !(fp.contains b)) = X at hX
    have sB : Sub F.B (hideAll h₁ X) := fun b o q => hideAll_get _ (st1.base b o (by rw [hB]; exact q)) fun hm => by rw [((hX b).mp hm).2.1] at q; exact nos q
    have hidB : ∀ b ∈ F'.hid, F'.B.get? b = none → (hideAll h₁ X).get? b = none := fun b hb hbn => by
      (refine ob1_1 (st1.lives b hb) fun o q => ?_)
      exact hideAll_none _ ((hX b).mpr ⟨Heap.lt_size q, by rw [← hB]; exact hbn, disj b (smh ▸ hb)⟩)
    have st2' : St w ⟨F'.s0, hideAll h₁ X, F'.H, F'.L, F'.m, F'.mu⟩ K' { s' with heap := h₁, toks := tk₁ } :=
      st1.base' (sti.g.mono (by rw [hB]; exact sB)) hide_sub (hidB _ (.head _) sti.bL) fun a ha => by
        (refine ob1_2 (List.mem_map.mp ha) fun q hq e_342 => ?_; subst e_342)
        exact hidB _ (.tail _ (List.mem_append_left _ ha)) (sti.bmu q hq)
    have st2 : St w ⟨F'.s0, hideAll h₁ X, wr ++ F'.H, F'.L, F'.m, F'.mu⟩ K' { s' with heap := h₁, toks := tk₁ } := by
      refine ⟨st2'.g, st2'.rl, st2'.base, st2'.sub, st2'.ns, st2'.mus, fun b hb => ?_, fun b hb => ?_, st2'.bL, st2'.bmu, st2'.muL, st2'.mnd⟩
      · rcases List.mem_append.mp hb with hb | hb
        · exact hlv _ _ hst₁ b hb
        · exact st2'.live b hb
      · rcases List.mem_cons.mp hb with rfl | hb
        · exact st2'.out _ (.head _)
        rcases List.mem_append.mp hb with hb | hb
        · exact st2'.out b (.tail _ (List.mem_append_left _ hb))
        rcases List.mem_append.mp hb with hb | hb
        · exact hwK b hb
        · exact st2'.out b (.tail _ (List.mem_append_right _ hb))
    refine wpAny_mono (wpAny_assign_Name (E := fun _ _ => False) (store_local (v := .int (i : Nat) t) (Q := fun _ s3 => St w (Fm.up ⟨F'.s0, hideAll h₁ X, wr ++ F'.H, F'.L, F'.m, F'.mu⟩ x (.int (i : Nat) t)) K' s3) st2 hk hl (by rw [sm.L]; exact hL) fun s3 st3 => st3)) (fun _ s3 st3 => ?_) fun _ _ y => y.elim
    refine wpAny_mono (turn i (.int (i : Nat) t) _ K' (hideAll h₁ X) (wr ++ F'.H) hlt (hJB i F' K' _ _ hj) is_int sB (fun b hb => List.mem_append_right _ (by rw [hH]; exact hb)) rfl rfl s3 st3) (fun fl s4 h4 => ?_) fun _ _ y => y.elim
    rcases h4 with ⟨rfl, F2, K2, j2, b2, h2, st4⟩ | ⟨u, rfl, hr⟩
    · have sm2 := hJ _ _ _ j2
      have fpk : ∀ b ∈ fp, ∀ o, h₁.get? b = some o → s4.heap.get? b = some o := fun b hb o q => st4.base b o (by
        rw [b2]; exact hideAll_get _ q fun hm => ((hX b).mp hm).2.2 hb)
      refine ⟨n' + 1 - (i + 1), ms hlt, i + 1, ⟨F2.s0, F.B, F.H, F2.L, F2.m, F2.mu⟩, K2, hJB _ _ _ _ _ j2, rfl, rfl, ?_, fun b hb => st4.out b (.tail _ (List.mem_append_right _ (by rw [h2]; exact List.mem_append_left _ hb))), W.frame _ _ _ hst₁ fpk, hlt, rfl⟩
      have hF2 : ∀ b, b ∈ F.H → b ∈ F2.H := fun b hb => by rw [h2]; exact List.mem_append_right _ (by rw [hH]; exact hb)
      refine ⟨by rw [← hB]; exact sti.g, st4.rl, (sB.trans (by rw [← b2]; exact st4.base)), st4.sub, st4.ns, st4.mus, fun b hb => st4.live b (hF2 b hb), fun b hb => ?_, ?_, fun q hq => ?_, st4.muL, st4.mnd⟩
      · rcases List.mem_cons.mp hb with rfl | hb
        · exact st4.out _ (.head _)
        rcases List.mem_append.mp hb with hb | hb
        · exact st4.out b (.tail _ (List.mem_append_left _ hb))
        · exact st4.out b (.tail _ (List.mem_append_right _ (hF2 b hb)))
      · exact none_of_sub (sB.trans (by rw [← b2]; exact Sub.rfl')) st4.bL
      · exact none_of_sub (sB.trans (by rw [← b2]; exact Sub.rfl')) (st4.bmu q hq)
    · exact hr
  · have hin : i = n' := Nat.le_antisymm hi (Nat.not_lt.mp hlt)
    subst hin
    refine W.done _ _ _ hsti fun h₁ tk₁ hk₁ => wpAny_execs_nil ?_
    have hwh : ∀ b ∈ F'.hid, b ∉ wr := fun b hb hm => disj b (smh ▸ hb) (W.sub _ hm)
    refine done F' K' _ hj hB hH ⟨sti.g, sti.rl.trans ⟨_, _, rfl⟩, fun b o q => hk₁ b o (fun hm => by rw [hB, wrB b hm] at q; exact nos q) (sti.base b o q), fun b o q => hk₁ b o (fun hm => by rw [hwK b hm] at q; exact nos q) (sti.sub b o q), sti.ns.at' fun o q => hk₁ _ o (hwh _ (.head _)) q, fun q hq => hk₁ _ _ (hwh _ (.tail _ (List.mem_append_left _ (List.mem_map_of_mem (f := (·.1)) hq)))) (sti.mus q hq), fun b hb => ?_, sti.out, sti.bL, sti.bmu, sti.muL, sti.mnd⟩
    (refine ob1_1 (sti.live b hb) fun o q => ?_)
    exact ⟨o, hk₁ b o (hwh b (.tail _ (List.mem_append_right _ hb))) q⟩
theorem run_forP {F : Fm} {p c : Addr} {d k m : Nat} {K : Heap} {o : Obj} {J : Nat → Nat → Fm → Heap → Prop} (src : EvP w A F p c d K env iter ⟨fun h v => ∃ n, n < m ∧ (kRng n).p h v, fun k x_ => ob1_2 x_ fun n h1 h2 => mk1_2 n h1 ((kRng n).mono k h2)⟩) (hm : m ≤ 1000) (hp : PenD c o k) (hkd : k + d ≤ 10000) (hA : A.handled = none)
    (J0 : ∀ n o' K', n < m → PenD c o' (k + d) → Sub K K' → J n 0 (F.pen p o') K') (hJ : ∀ n i F' K', J n i F' K' → F'.s0 = F.s0 ∧ F'.L = F.L ∧ F'.mu.map (·.1) = p :: F.mu.map (·.1)) (hJB : ∀ n i F' K' B H, J n i F' K' → J n i ⟨F'.s0, B, H, F'.L, F'.m, F'.mu⟩ K')
    (turn : ∀ n i v F' K' B H', n < m → i < n → J n i F' K' → (kd (.int (i : Nat))).p K' v → Sub F.B B → (∀ b ∈ F.H, b ∈ H') → F'.B = B → F'.H = H' → Run w A env (F'.up x v) K' body (fun fl s' => (fl = .next ∧ ∃ F2 K2, J n (i + 1) F2 K2 ∧ F2.B = B ∧ F2.H = H' ∧ St w F2 K2 s') ∨ ∃ u, fl = .ret u ∧ R (.ret u) s') (fun _ _ => False))
    (done : ∀ n F' K', n < m → J n n F' K' → F'.B = F.B → F'.H = F.H → Run w A env F' K' rest R (fun _ _ => False))
    (hk : env.scope.kind = .function := by rfl) (hl : env.kindOf x = some .local := by rfl) (hL : env.locals = F.L := by rfl) (hs : ∀ x, foldedSetIterable iter env x = pure x := by intro _; rfl) :
    Run w A env (F.pen p o) K (.For (.Name x px) iter body [] pos :: rest) R (fun _ _ => False) := fun s st => by
  refine wpAny_execs_cons (wpAny_For (wpAny_mono (src o k s hp hkd st) (fun xv s1 y => ?_) fun _ _ y => y) hs)
  (refine ob1_5 y fun o1 a1 a2 a3 o_343 a5 => ?_; try clear y; (refine ob1_2 o_343 fun n hn a4 => ?_; try clear o_343))
  refine wpAny_mono (loop_range (F := F.pen p o1) (J := J n) (R := fun fl s' => match fl with | .next => wpAny (model PR w) A (execs rest env) R (fun _ _ => False) s' | fl => R fl s') (Nat.le_trans (Nat.le_of_lt hn) hm) hA a4 (J0 n o1 _ hn a1 (st.in.trans a3)) (fun i F' K' j => let ⟨h1, h2, h3⟩ := hJ n i F' K' j; ⟨h1, h2, h3⟩) (hJB n)
    (fun i v F' K' B H' hi j hv sb sh hB hH => ?_) (fun F' K' s' j hB hH st' => done n F' K' hn j hB hH s' st') a2 hk hl hL) (fun _ _ y => y) fun _ _ y => y
  intro s3 st3
  refine wpAny_mono (turn n i v F' K' B H' hn hi j hv sb sh hB hH s3 st3) (fun fl s' z => ?_) fun _ _ y => y
  rcases z with z | ⟨u, rfl, z⟩
  · exact .inl z
  · exact .inr ⟨u, rfl, z⟩
end
section
variable {w : World} {A : Around} {F : Fm} {K : Heap} {env : Env} {P : KP Value} {Ps : List (KP Value)} {e : PySem.Expr} {es : List PySem.Expr} {rest : List Stmt} {pos xp tp ap ep : Pos} {x : Str} {R : Flow → Shared → Prop} {E : Value → Shared → Prop} {s : Shared} {a : Addr} {o : Obj} {pre post : Led} {Q : KP Obj} {Qs : List (KP Obj)}
def oL (Ps : List (KP Value)) : KP Obj := ⟨fun h o => ∃ vs n, o = seqObj "list" vs n ∧ All2 (fun (P : KP Value) v => P.p h v) Ps vs.toList, fun k x_ => ob2_2 x_ fun vs n e q => mk2_2 vs n e (q.imp fun P _ y => P.mono k y)⟩
def oD {K0 : Type} [DecidableEq K0] (knd : PySem.KeyKind PR w K0) (kvs : List (K0 × PyData)) : KP Obj := ⟨OwnD knd kvs, fun k x => x.mono k⟩
def EvsN (w : World) (A : Around) (F : Fm) (K : Heap) (env : Env) (es : List PySem.Expr) (Qs : List (KP Obj)) : Prop := ∀ pos s, St w F K s → wpAny (model PR w) A (spliced (backTo pos (starEach es env))) (fun vs s' => Kp s s' ∧ ∃ as : Led, vs = as.map (fun q => Value.ref q.1) ∧ (as.map (·.1)).Nodup ∧ (∀ q ∈ as, s.heap.get? q.1 = none ∧ s'.heap.get? q.1 = some q.2 ∧ (q.1 == sysModules) = false) ∧ All2 (fun (Q : KP Obj) (q : Addr × Obj) => Q.p (hideAll s'.heap (as.map (·.1) ++ F.hid)) q.2) Qs as) (fun _ _ => False) s
theorem EvsN.nil : EvsN w A F K env [] [] := fun _ _ _ => wpAny_pure ⟨.rfl', [], rfl, List.nodup_nil, nil_all, .nil⟩
theorem EvsN.cons (x : EvN w A F K env e Q.p) (r : ∀ a, EvsN w A ⟨F.s0, F.B, a :: F.H, F.L, F.m, F.mu⟩ K env es Qs) (hs : starEach (e :: es) env = (false, eval e env) :: starEach es env := by rfl) : EvsN w A F K env (e :: es) (Q :: Qs) := fun pos s st => by
  rw [hs]
  show wpAny _ _ (eval e env >>= fun v => (pure [v] : Sem (List Value)) >>= fun here => holding here (spliced (backTo pos (starEach es env))) >>= fun r => pure (here ++ r)) _ _ _
  refine wpAny_bind (wpAny_mono (x s st) (fun v s1 y => ?_) fun _ _ y => y)
  obtain ⟨k1, a, o, rfl, hn, ha, hlo, hq⟩ := y
  have st1 := st.grow k1
  have st1' : St w ⟨F.s0, F.B, a :: F.H, F.L, F.m, F.mu⟩ K s1 := by
    refine ⟨st1.g, st1.rl, st1.base, st1.sub, st1.ns, st1.mus, fun b hb => ?_, fun b hb => ?_, st1.bL, st1.bmu, st1.muL, st1.mnd⟩
    · rcases List.mem_cons.mp hb with rfl | hb
      · exact ⟨_, ha⟩
      · exact st1.live b hb
    · rcases List.mem_cons.mp hb with rfl | hb
      · exact st1.out _ (.head _)
      rcases List.mem_append.mp hb with hb | hb
      · exact st1.out b (.tail _ (List.mem_append_left _ hb))
      rcases List.mem_cons.mp hb with rfl | hb
      · exact none_of_sub st.sub hn
      · exact st1.out b (.tail _ (List.mem_append_right _ hb))
  refine wpAny_bind (wpAny_pure (wpAny_bind (wpAny_holding (wpAny_mono (r a pos s1 st1') (fun vs s2 z => wpAny_pure ?_) fun _ _ y => y))))
  obtain ⟨k2, as, rfl, hnd, hall, hqs⟩ := z
  have hne : a ∉ as.map (·.1) := fun hm => by
    (refine ob1_2 (List.mem_map.mp hm) fun q hq e => ?_)
    have := (hall q hq).1
    rw [e, ha] at this; exact nos' this
  refine ⟨k1.trans' k2, (a, o) :: as, rfl, List.nodup_cons.mpr ⟨hne, hnd⟩, fun q hq => ?_, .cons (Q.mono (fun b ob qq => ?_) hq) (hqs.imp fun Q q y => Q.mono (fun b ob qq => ?_) y)⟩
  · rcases List.mem_cons.mp hq with rfl | hq
    · exact mk0_3 hn (k2.sub _ _ ha) hlo
    · exact ⟨none_of_sub k1.sub (hall q hq).1, (hall q hq).2⟩
  · have hb := hide_notin qq
    refine hideAll_get _ (k2.sub _ _ (hide_sub _ _ qq)) fun hm => ?_
    rcases List.mem_cons.mp hm with rfl | hm
    · exact hb (.head _)
    rcases List.mem_append.mp hm with hm | hm
    · (refine ob1_2 (List.mem_map.mp hm) fun q hq e => ?_)
      have := (hall q hq).1
      rw [e, hide_sub _ _ qq] at this; exact nos' this
    · exact hb (.tail _ hm)
  · have hb := hide_notin qq
    refine hideAll_get _ (hide_sub _ _ qq) fun hm => hb ?_
    rcases List.mem_cons.mp hm with rfl | hm
    · exact List.mem_append_right _ (.tail _ (List.mem_append_right _ (.head _)))
    rcases List.mem_append.mp hm with hm | hm
    · exact List.mem_append_left _ hm
    rcases List.mem_cons.mp hm with rfl | hm
    · exact List.mem_append_right _ (.head _)
    rcases List.mem_append.mp hm with hm | hm
    · exact List.mem_append_right _ (.tail _ (List.mem_append_left _ hm))
    · exact List.mem_append_right _ (.tail _ (List.mem_append_right _ (.tail _ hm)))
def Binds (w : World) (A : Around) (env : Env) (F : Fm) (K : Heap) (xs : List Str) (vs : List Value) (rest : List Stmt) (R : Flow → Shared → Prop) (E : Value → Shared → Prop) : Prop :=
  ∀ s, St w F K s → wpAny (model PR w) A (assignInOrder (xs.map fun n => bindName env n) vs) (fun _ s' => wpAny (model PR w) A (execs rest env) R E s') E s
theorem binds_nil (h : Run w A env F K rest R E) : Binds w A env F K [] [] rest R E := fun s st => wpAny_pure (h s st)
theorem binds_cons {xs : List Str} {v : Value} {vs : List Value} (h : Binds w A env (F.up x v) K xs vs rest R E) (hk : env.scope.kind = .function := by rfl) (hl : env.kindOf x = some .local := by rfl) (hL : env.locals = F.L := by rfl) : Binds w A env F K (x :: xs) (v :: vs) rest R E := fun s st => by
  show wpAny _ _ (holding vs (bindName env x v) >>= fun _ => assignInOrder (xs.map fun n => bindName env n) vs) _ _ _
  exact wpAny_bind (wpAny_holding (bindName_ (store_local st hk hl hL fun s' st' => h s' st')))
theorem run_swapN {ts : List PySem.Expr} {names : List Str} {kc kd' : Nat} {vp : Pos} (hA : A.handled = none) (x' : EvsN w A F K env es Qs) (hlen : names.length = Qs.length) (hz : Qs.length ≤ 100)
    (k : ∀ K' (as : Led), Sub K K' → All2 (fun (Q : KP Obj) (q : Addr × Obj) => Q.p K' q.2) Qs as → (∀ q ∈ as, K'.get? q.1 = none ∧ q.1 ∉ F.H ∧ (q.1 == sysModules) = false) → Binds w A env ⟨F.s0, F.B, F.H, F.L, F.m, as ++ F.mu⟩ K' names.reverse (as.map fun q => Value.ref q.1).reverse rest R E)
    (hs : swapsWithSole [.Tuple ts kc tp] (.Tuple es kd' vp) pos.line env = pure false := by rfl)
    (hw : swappedStores [.Tuple ts kc tp] (.Tuple es kd' vp) env = pure (some names) := by rfl) : Run w A env F K (.Assign [.Tuple ts kc tp] (.Tuple es kd' vp) pos :: rest) R E := fun s st => by
  refine wpAny_execs_cons (Assign_Tuple_swapped ?_ hs hw)
  show wpAny _ _ (standAt vp >>= fun _ => spliced (backTo vp (starEach es env)) >>= fun vs => newTuple vs) _ _ _
  refine wpAny_bind (wpAny_standAt (wpAny_bind (wpAny_mono (x' vp s st) (fun vs s1 z => ?_) fun _ _ y => y.elim)))
  obtain ⟨k1, as, rfl, hnd, hall, hqs⟩ := z
  have hl := hqs.length
  refine wpAny_newTuple ?_ (by rw [List.length_map, sizeLine_eq]; omega)
  have st1 := st.grow k1
  have kp : Kp s1 { s1 with heap := s1.heap.push { cls := .type "tuple", data := .seq (as.map fun q => Value.ref q.1).toArray } } := keeps_push (tk := s1.toks)
  have st2 := st1.grow kp
  have hT : (kSeq "tuple" (as.map fun q => kv (.ref q.1))).p (hideAll (s1.heap.push { cls := .type "tuple", data := .seq (as.map fun q => Value.ref q.1).toArray }) F.hid) (.ref s1.heap.objs.size) :=
    ⟨s1.heap.objs.size, _, _, 0, rfl, push_known st1.lives, rfl, rfl, by
      rw [List.toList_toArray]
      exact all2_map fun q _ => rfl⟩
  have ln : names.length = (as.map fun q => kv (.ref q.1)).length := by rw [List.length_map]; omega
  rw [ln]
  refine unpack_items (.inr rfl) hA st2.gh st2.lives hT fun us s3 k3 hus => ?_
  have hus' : us = as.map fun q => Value.ref q.1 := by
    have : ∀ (as : Led) (us : List Value), All2 (fun (P : KP Value) v => P.p (hideAll s3.heap F.hid) v) (as.map fun q => kv (.ref q.1)) us → us = as.map fun q => Value.ref q.1 := by
      intro as
      induction as with
      | nil => intro us h; cases h; rfl
      | cons q as ih =>
        intro us h
        (refine all2_1c h fun _ _ e_347 h1 h2 => ?_; clear h; subst e_347)
        rw [ih _ h2]
        have h1 : _ = Value.ref q.1 := h1
        rw [h1]; rfl
    exact this as us hus
  subst hus'
  have st3 := st2.grow k3
  have kk : Sub s1.heap s3.heap := kp.sub.trans k3.sub
  have nin : ∀ q ∈ as, q.1 ∉ F.hid := fun q hq hm => by
    (refine ob1_1 (st.lives _ hm) fun ob e => ?_)
    rw [(hall q hq).1] at e; exact nos e
  refine k (hideAll s3.heap (as.map (·.1) ++ F.hid)) as (fun b ob q => hideAll_get _ (st3.sub _ _ q) fun hm => ?_) (hqs.imp fun Q q y => Q.mono (sub_hide kk) y) (fun q hq => ⟨hideAll_none _ (List.mem_append_left _ (List.mem_map_of_mem (f := (·.1)) hq)), fun hm => nin q hq (.tail _ (List.mem_append_right _ hm)), (hall q hq).2.2⟩) s3 ?_
  · rcases List.mem_append.mp hm with hm | hm
    · (refine ob1_2 (List.mem_map.mp hm) fun r hr e => ?_)
      rw [← e, none_of_sub st.sub (hall r hr).1] at q; exact nos q
    · rw [st.out _ hm] at q; exact nos q
  · refine ⟨st3.g, st3.rl, st3.base, hide_sub, st3.ns, fun q hq => ?_, st3.live, fun b hb => hideAll_none _ ?_, st3.bL, fun q hq => ?_, fun q hq => ?_, ?_⟩
    · rcases List.mem_append.mp hq with hq | hq
      · exact kk _ _ (hall q hq).2.1
      · exact st3.mus q hq
    · rcases List.mem_cons.mp hb with rfl | hb
      · exact List.mem_append_right _ (.head _)
      rcases List.mem_append.mp hb with hb | hb
      · (refine ob1_2 (List.mem_map.mp hb) fun r hr e_348 => ?_; subst e_348)
        rcases List.mem_append.mp hr with hr | hr
        · exact List.mem_append_left _ (List.mem_map_of_mem (f := (·.1)) hr)
        · exact List.mem_append_right _ (.tail _ (List.mem_append_left _ (List.mem_map_of_mem (f := (·.1)) hr)))
      · exact List.mem_append_right _ (.tail _ (List.mem_append_right _ hb))
    · rcases List.mem_append.mp hq with hq | hq
      · exact none_of_sub st.base (hall q hq).1
      · exact st3.bmu q hq
    · rcases List.mem_append.mp hq with hq | hq
      · exact fun e => nin q hq (e ▸ .head _)
      · exact st3.muL q hq
    · show ((as ++ F.mu).map (·.1)).Nodup
      rw [List.map_append, List.nodup_append]
      refine mk0_3 hnd st.mnd (fun b hb c hc e => ?_)
      (refine ob1_2 (List.mem_map.mp hb) fun r hr e_349 => ?_; subst e_349)
      exact nin r hr (e ▸ .tail _ (List.mem_append_left _ hc))
theorem evn_lst (x : Evs w A F K env es Ps) (hz : Ps.length ≤ 10000) : EvN w A F K env (.List es pos) (oL Ps).p := fun s st => by
  show wpAny _ _ (standAt pos >>= fun _ => spliced (backTo pos (starEach es env)) >>= fun vs => newList vs) _ _ _
  refine wpAny_bind (wpAny_standAt (wpAny_bind ((x pos s st).use fun vs s1 k1 p1 => ?_)))
  have st1 := st.grow k1
  refine wpAny_newList ⟨k1.trans' keeps_push, s1.heap.objs.size, _, rfl, none_of_sub k1.sub (Heap.get?_none_of_le (Nat.le_refl _)), Heap.get?_push_size _ rfl, ?_, vs.toArray, 0, rfl, ?_⟩ ?_
  · obtain ⟨X, p, loose, mg, mb, T⟩ := st1.gh
    exact beq_eq_false_iff_ne.mpr (Nat.ne_of_gt (modules_low T.nolimit))
  · rw [List.toList_toArray]
    refine p1.imp fun P v y => P.mono (fun b ob q => hideAll_get _ (Heap.get?_push_of_some _ (hide_sub _ _ q)) fun hm => ?_) y
    rcases List.mem_cons.mp hm with rfl | hm
    · exact Nat.lt_irrefl _ (Heap.lt_size (hide_sub _ _ q))
    · exact hide_notin q hm
  · have := All2.length p1
    rw [sizeLine_eq]; omega
theorem run_append {xs : Str} (hmu : F.mu = pre ++ (a, o) :: post) (hx : F.m xs = some (.ref a)) (ho : (oL Ps).p K o) (hz : Ps.length ≤ 1000) (xv : Ev w A F K env e P)
    (kk : ∀ K' o', Sub K K' → (oL (Ps ++ [P])).p K' o' → Run w A env ⟨F.s0, F.B, F.H, F.L, F.m, pre ++ (a, o') :: post⟩ K' rest R E)
    (hk : env.scope.kind = .function := by rfl) (hl : env.kindOf xs = some .local := by rfl) (hL : env.locals = F.L := by rfl) (hd : (xs == ("__debug__" : Str)) = false := by decide) (hi : interactive env = false := by rfl)
    (hs : swapsWith (.Call (.Attribute (.Name xs xp) "append" ap) [e] [] pos) none ep.line env = pure false := by rfl) (hst : starEach [e] env = [(false, eval e env)] := by rfl)
    (he : ∃ pl, eval (.Call (.Attribute (.Name xs xp) "append" ap) [e] [] pos) env = (do
      let ov ← eval (.Name xs xp) env
      standAt ap.atName
      let (f, first) ← holding [ov] (getMethod ov "append" pl)
      callWith pos f first (backTo pos (starEach [e] env)) []) := by exact ⟨_, rfl⟩) : Run w A env F K (.Expr (.Call (.Attribute (.Name xs xp) "append" ap) [e] [] pos) ep :: rest) R E := fun s st => by
  obtain ⟨pl, he⟩ := he
  (refine ob2_2 ho fun vs n e_350 q => ?_; try clear ho; subst e_350)
  have hm : (a, seqObj "list" vs n) ∈ F.mu := by rw [hmu]; exact List.mem_append_right _ (.head _)
  refine wpAny_execs_cons (wpAny_Expr ?_ hi hs)
  rw [he]
  refine wpAny_bind (wpAny_Name (wpAny_loadName_local hk hl (by rw [hL]; exact st.ns) hx ?_) hd)
  refine wpAny_bind (wpAny_standAt (wpAny_bind (wpAny_holding (PySem.Calls.getMethod_list_append (st.mus _ hm) rfl rfl ?_))))
  refine callWith_of (P := G w) (by rw [hst]; rfl) (keep_b (w := w)) ((args_of (Ps := [P]) (Evs.cons xv Evs.nil hst) (.inr ⟨_, _, hst⟩) st).use fun ar s2 k2 p2 => ?_)
  obtain ⟨ps, kw⟩ := ar
  obtain ⟨rfl, p2⟩ := p2
  have st2 := st.up k2
  refine ⟨st2.gh, ?_⟩
  (refine all2_1 p2 fun _ e_352 h1 => ?_; clear p2; subst e_352)
  have hlen : Ps.length = vs.size := by rw [← Array.length_toList]; exact q.length
  refine wpAny_list_append_plain (items := vs) ⟨n, st2.mus _ hm⟩ (fun h' hp' hs' => ?_) (by rw [sizeLine_eq]; omega)
  obtain ⟨n', hp'⟩ := hp'
  have st3 := st2.setMu (tk := s2.toks) hmu hp' fun b ob hb q => (hs'.2 b hb).trans q
  have kn := st.in.trans (sub_hide k2.sub)
  refine kk _ _ kn ⟨vs.push _, n', rfl, ?_⟩ _ st3
  rw [Array.toList_push]
  exact (q.imp fun P _ y => P.mono kn y).append (.cons h1 .nil)
theorem own_kpl {K' : Heap} (k : K'.get? a = some o) (h : (oL Ps).p K' o) : (kPl Ps).p K' (.ref a) := by
  (refine ob2_2 h fun vs n e_353 q => ?_; try clear h; subst e_353)
  exact mk3_1 a vs n ⟨rfl, k, q⟩
end
theorem St.perm {w : World} {K : Heap} {s s0 : Shared} {B : Heap} {H : List Addr} {L : Addr} {m : Str → Option Value} {mu mu' : Led} (st : St w ⟨s0, B, H, L, m, mu⟩ K s) (h : mu.Perm mu') : St w ⟨s0, B, H, L, m, mu'⟩ K s := by
  refine ⟨st.g, st.rl, st.base, st.sub, st.ns, fun q hq => st.mus q (h.symm.subset hq), st.live, fun b hb => st.out b ?_, st.bL, fun q hq => st.bmu q (h.symm.subset hq), fun q hq => st.muL q (h.symm.subset hq), (h.map (·.1)).nodup_iff.mp st.mnd⟩
  rcases List.mem_cons.mp hb with rfl | hb
  · exact .head _
  rcases List.mem_append.mp hb with hb | hb
  · exact .tail _ (List.mem_append_left _ ((h.map (·.1)).symm.subset hb))
  · exact .tail _ (List.mem_append_right _ hb)
theorem run_perm {w : World} {A : Around} {env : Env} {K : Heap} {s0 : Shared} {B : Heap} {H : List Addr} {L : Addr} {m : Str → Option Value} {mu mu' : Led} {body : List Stmt} {R : Flow → Shared → Prop} {E : Value → Shared → Prop} (h : mu.Perm mu') (x : Run w A env ⟨s0, B, H, L, m, mu'⟩ K body R E) : Run w A env ⟨s0, B, H, L, m, mu⟩ K body R E := fun s st => x s (st.perm h)
def kInts (S : Int → Prop) : KP Value := ⟨fun _ v => ∃ i t, S i ∧ v = .int i t, fun _ x => x⟩
def kAnyB : KP Value := ⟨fun _ v => ∃ b, v = .bool b, fun _ x => x⟩
structure Rw.Fit (r : Rw) : Prop extends r.Ok where
  one : r.g = 1 ∨ r.g = 2
def kRow : KP Value := ⟨fun h v => ∃ r : Rw, r.Fit ∧ (kLst [kd (.int r.g), kd (.int r.c), kd (.int r.xa), kd (.int r.ya), kd (.int r.xo), kd (.int r.yo), kd (.bool r.u)]).p h v, fun k x_ => ob1_2 x_ fun r h1 h2 => mk1_2 r h1 ((kLst _).mono k h2)⟩
def four (i : Int) : Prop := i = 0 ∨ i = -7 ∨ i = 500
theorem four_small {i : Int} (h : four i) : Small i := by
  rcases h with rfl | rfl | rfl <;> (unfold Small; decide)
theorem row_of {h : Heap} {v : Value} (q : (kLst ([kInts fun i => i = 1 ∨ i = 2, kInts fun i => 0 ≤ i ∧ i < 9] ++ [kInts four, kInts four, kInts four, kInts four] ++ [kAnyB])).p h v) : kRow.p h v := by
  obtain ⟨a, o, vs, n, rfl, g, c, d, q⟩ := q
  obtain ⟨vs⟩ := vs
  (refine all2_7 q fun _ _ _ _ _ _ _ e_369 o_355 o_357 o_359 o_361 o_363 o_365 o_367 => ?_; clear q; subst e_369; (refine ob2_2 o_355 fun i1 t1 h1 e_356 => ?_; try clear o_355; subst e_356); (refine ob2_2 o_357 fun i2 t2 h2 e_358 => ?_; try clear o_357; subst e_358); (refine ob2_2 o_359 fun i3 t3 h3 e_360 => ?_; try clear o_359; subst e_360); (refine ob2_2 o_361 fun i4 t4 h4 e_362 => ?_; try clear o_361; subst e_362); (refine ob2_2 o_363 fun i5 t5 h5 e_364 => ?_; try clear o_363; subst e_364); (refine ob2_2 o_365 fun i6 t6 h6 e_366 => ?_; try clear o_365; subst e_366); (refine ob1_1 o_367 fun b e_368 => ?_; try clear o_367; subst e_368))
  refine ⟨⟨i1, i2, i3, i4, i5, i6, b⟩, ⟨⟨?_, ?_, four_small h3, four_small h4, four_small h5, four_small h6⟩, h1⟩, a, o, _, n, rfl, g, c, d, .cons is_int (.cons is_int (.cons is_int (.cons is_int (.cons is_int (.cons is_int (.cons is_bool .nil))))))⟩
  · rcases h1 with rfl | rfl
    · show Small 1; unfold Small; decide
    · show Small 2; unfold Small; decide
  · show Small i2; unfold Small; omega
section
variable {w : World} {A : Around}
theorem one_dig : O2 w A (binaryOp .Add) (kd (.int 1)) (kDig 2) (kInts fun i => i = 1 ∨ i = 2) := by
  (intro s v u H g l hv o_370; (refine ob2_2 o_370 fun j t hj e_371 => ?_; try clear o_370; subst e_371))
  (refine ob1_1 (kd_int hv) fun t' e_372 => ?_; subst e_372)
  exact PyProof.Rows.add_int ⟨keeps_tok, _, _, by omega, rfl⟩
theorem dig_one : O2 w A (compareOp .Eq) (kDig 2) (kd (.int 1)) kAnyB := by
  (intro s v u H g l o_373 hu; (refine ob2_2 o_373 fun j t hj e_374 => ?_; try clear o_373; subst e_374))
  (refine ob1_1 (kd_int hu) fun t' e_375 => ?_; subst e_375)
  exact PyProof.Rows.eq_int ⟨.rfl', _, rfl⟩
theorem four_sub {value slice : PySem.Expr} (hs : ∀ (o i : Value), subscripted slice false o i = operate [o, i] (getItem o i)) : O2 w A (subscriptTail value slice) (kTup [kd (.int 0), kd (.int 0), kd (.int (-7)), kd (.int 500)]) (kDig 4) (kInts four) := by
  (intro s v u H g l hv o_376; (refine ob2_2 o_376 fun j t hj e_377 => ?_; try clear o_376; subst e_377))
  have lt : ∀ {p : Nat → Prop} {n}, (∀ j, j < n → p j) → p n → ∀ j, j < n + 1 → p j := fun h hn j hj => (Nat.lt_succ_iff_lt_or_eq.mp hj).elim (h j) fun e => e ▸ hn
  refine ob1_2 (lt (p := fun j => ∃ i, four i ∧ ([kd (.int 0), kd (.int 0), kd (.int (-7)), kd (.int 500)] : List (KP Value))[j]? = some (kd (.int i))) (lt (lt (lt (fun j h => (Nat.not_lt_zero j h).elim) ⟨0, .inl rfl, rfl⟩) ⟨0, .inl rfl, rfl⟩) ⟨-7, .inr (.inl rfl), rfl⟩) ⟨500, .inr (.inr rfl), rfl⟩ j hj) fun i h1 h2 => ?_
  exact (sub_tup h2 (of_decide_eq_true rfl) hs s _ _ H g l hv is_int).weak fun h v q => (kd_int q).elim fun t e => ⟨i, t, h1, e⟩
end
section
variable {w : World} {A : Around} {F : Fm} {p c : Addr} {d : Nat} {K : Heap} {env : Env} {fe : PySem.Expr} {es : List PySem.Expr} {P : KP Value} {Ps : List (KP Value)} {pos : Pos} {f : Value}
theorem evp_on (hf : ∀ o, Ev w A (F.pen p o) K env fe (kv f)) (x : ∀ K', Sub K K' → EvsP w A F p c d K' env es Ps) (q : On w A f Ps P) (kp : KeepOk w f) (hs : ∃ t r, starEach es env = (false, t) :: r) (hp : (starEach es env).any (·.1) = false := by rfl)
    (he : eval (.Call fe es [] pos) env = (do callWith pos (← eval fe env) [] (backTo pos (starEach es env)) []) := by rfl) : EvP w A F p c d K env (.Call fe es [] pos) P := fun o k s hp2 hk st => by
  rw [he]
  refine wpAny_bind ((hf o s st).use fun v s1 k1 p1 => ?_)
  rw [show v = f from p1]
  have st1 := st.grow k1
  have y := x K Sub.rfl' pos o k s1 hp2 hk st1
  (refine ob2_1 hs fun t r h => ?_; try clear hs)
  refine callWith_of (P := G w) ?_ kp ?_
  · rw [List.any_nil, Bool.or_false]
    unfold backTo
    rw [List.any_map]
    exact hp
  · rw [h] at y ⊢
    refine evalArgs_plain (wpAny_mono y (fun vs s2 z => ?_) fun _ _ z => z.elim)
    (refine ob1_5 z fun o2 a1 a2 a3 a4 a5 => ?_; try clear z)
    refine ⟨a2.gh, (q s2 vs _ a2.gh a2.lives a4).use fun u s3 k3 p3 => ⟨o2, a1, a2.up k3, (sub_hide k1.sub).trans (a3.trans (sub_hide k3.sub)), p3, (k1.q.trans a5).trans k3.q⟩⟩
theorem range_dig {m : Nat} : On w A (.type "range") [kDig m] ⟨fun h v => ∃ n, n < m ∧ (kRng n).p h v, fun k x_ => ob1_2 x_ fun n h1 h2 => mk1_2 n h1 ((kRng n).mono k h2)⟩ := by
  intro s vs H g l hv
  (refine all2_1 hv fun _ e_380 o_378 => ?_; clear hv; subst e_380; (refine ob2_2 o_378 fun j t hj e_379 => ?_; try clear o_378; subst e_379))
  exact (on_range (n := j) s _ H g l (.cons is_int .nil)).weak fun h v q => ⟨j, hj, q⟩
end
theorem str_assoc (a b c : Str) : a ++ b ++ c = a ++ (b ++ c) := by
  show Str.mk (a.cps ++ b.cps ++ c.cps) = Str.mk (a.cps ++ (b.cps ++ c.cps))
  rw [Array.append_assoc]
theorem str_nil (a : Str) : a ++ Str.ofString "" = a := by
  show Str.mk (a.cps ++ #[]) = a
  rw [Array.append_empty]
def nmL (g : Int) : Str := if g = 1 then Str.ofString "a" else Str.ofString "gid2"
def txt0 (r : Rw) : Str := nmL r.g ++ Str.ofString "=" ++ strI r.c
def txt1 (r : Rw) : Str := if (r.xo != 0) || (r.yo != 0) then txt0 r ++ Str.ofString "@" ++ strI r.xo ++ Str.ofString "," ++ strI r.yo else txt0 r
def txt2 (r : Rw) : Str := txt1 r ++ Str.ofString "+" ++ strI r.xa ++ (if (r.ya != 0) then Str.ofString "," ++ strI r.ya else Str.ofString "") ++ (if r.u then Str.ofString "#" else Str.ofString "")
theorem txt_eq {r : Rw} (h : r.Fit) : txt2 r = r.s := by
  have e1 : nmL r.g = nmS r.g := by
    unfold nmL nmS
    rcases h.one with e | e
    · rw [e]; rfl
    · rw [e]; decide
  have e2 : txt1 r = nmS r.g ++ Str.ofString "=" ++ strI r.c ++ offs r.xo r.yo := by
    unfold txt1 txt0 offs
    rw [e1]
    split
    · simp only [str_assoc]
    · rw [str_nil]
  unfold txt2 Rw.s seenRow farS
  rw [e2]
  simp only [str_assoc]
theorem join_len {rs : List Rw} (h : ∀ r ∈ rs, r.Ok) (hz : rs.length ≤ 3) : (Txt.join (Str.ofString "|") (rs.map Rw.s)).length ≤ 90000 := by
  have h1 := StrLaws.join_length_le (Str.ofString "|") (rs.map Rw.s)
  have h2 := sum_len h
  have l3 : (Str.ofString "|").length = 1 := by decide
  rw [List.length_map, l3] at h1
  have e : Txt.join (Str.ofString "|") (rs.map Rw.s) = Str.join (Str.ofString "|") (rs.map Rw.s) := by first | rfl | exact StrLaws.glued_eq_join _ _
  rw [e]
  omega
theorem run_ifV {w : World} {A : Around} {env : Env} {F : Fm} {K : Heap} {rest b1 b2 : List Stmt} {e : PySem.Expr} {pos : Pos} {R : Flow → Shared → Prop} {E : Value → Shared → Prop} {b : Bool} (I : Heap → (Str → Option Value) → Prop) (t : Tr w A F K env e b)
    (y : b = true → Run w A env F K b1 (fun fl s' => fl = .next ∧ ∃ K' m, Sub K K' ∧ I K' m ∧ St w ⟨F.s0, F.B, F.H, F.L, m, F.mu⟩ K' s') E) (n : b = false → Run w A env F K b2 (fun fl s' => fl = .next ∧ ∃ K' m, Sub K K' ∧ I K' m ∧ St w ⟨F.s0, F.B, F.H, F.L, m, F.mu⟩ K' s') E)
    (k : ∀ K' m, Sub K K' → I K' m → Run w A env ⟨F.s0, F.B, F.H, F.L, m, F.mu⟩ K' rest R E) : Run w A env F K (.If e b1 b2 pos :: rest) R E :=
  run_ifJ (F' := fun m => ⟨F.s0, F.B, F.H, F.L, m, F.mu⟩) (I := I) t y n k
def kRowsR : KP Value := ⟨fun h v => ∃ rs : List Rw, rs.length ≤ 3 ∧ (∀ r ∈ rs, r.Fit) ∧ (kTup [kd (.list (rs.map Rw.d)), kd (.str (textOf rs))]).p h v, fun k x_ => ob1_3 x_ fun rs h1 h2 h3 => mk1_3 rs h1 h2 ((kTup _).mono k h3)⟩
def JRows (w : World) (s : Shared) (L p c : Addr) (aR aT : Addr) (cl : Led) (k : Nat) (n i : Nat) (F' : Fm) (K' : Heap) : Prop := ∃ (B : Heap) (H : List Addr) (m : Str → Option Value) (o oR oT : Obj) (rs : List Rw), F' = ⟨s, B, H, L, m, (p, o) :: (aR, oR) :: (aT, oT) :: cl⟩ ∧ PenD c o (k + i * 7) ∧ rs.length = i ∧ (∀ r ∈ rs, r.Fit) ∧
  (oL (rs.map fun r => kd r.d)).p K' oR ∧ (oL (rs.map fun r => kd (.str r.s))).p K' oT ∧ m (Str.ofString "rows") = some (.ref aR) ∧ m (Str.ofString "texts") = some (.ref aT)
theorem rows_law {w : World} : OnP w 800 (.ref 454) 30 [] kRowsR := by
  intro A B0 X s p c o k H vs hA hd hu hpH l hp S D hk hv
  cases hv
  k_dflt (refine' fn_enterP (binds := [("pen", .ref p)]) hpH l hp S ?k6 ?k7 ?k8 ?k9 ?kB ?kD ?_ ?c2 ?c3 ?c4)
  case k6 | k7 => k_is
  case k8 => show A.depth < 1000; omega
  case k9 => exact BindsTo.of_eq rfl
  case kB => exact rfl
  case kD => decide +kernel
  case c2 | c3 | c4 => exact rfl
  intro L cells hL Y SB hpl
  refine cells_1 Y fun oc eY d1 => ?_
  clear Y; subst eY
  have dA : ∀ {env : Env} {k : Nat} {f : Value} {Ps : List (KP Value)} {P : KP Value}, On w (Al k k) f Ps P → 803 ≤ k → On w (A.deeper env) f Ps P := fun {env k f Ps P} h hk => on_any h (by exact hA) (by show A.depth + 1 ≤ k; omega) (by show A.units + 3 ≤ k; omega)
  refine run_swapN (Qs := [oL [], oL []]) hA (EvsN.cons (evn_lst Evs.nil (of_decide_eq_true rfl)) (fun a => EvsN.cons (evn_lst Evs.nil (of_decide_eq_true rfl)) (fun a => EvsN.nil) rfl) rfl) rfl (of_decide_eq_true rfl) (fun K1 as S1 q1 n1 => ?_) rfl rfl
  (refine all2_2 q1 fun qR qT e_381 r1 r2 => ?_; clear q1; subst e_381)
  obtain ⟨aR, oR⟩ := qR
  obtain ⟨aT, oT⟩ := qT
  (refine ob0_3 (n1 (aR, oR) (.head _)) fun nR1 nR2 nR3 => ?_)
  (refine ob0_3 (n1 (aT, oT) (.tail _ (.head _))) fun nT1 nT2 nT3 => ?_)
  refine binds_cons (x := Str.ofString "texts") (xs := [Str.ofString "rows"]) (binds_cons (binds_nil ?_) rfl rfl rfl) rfl rfl rfl
  dsimp only [List.cons_append, List.nil_append, List.append, Fm.up, Fm.pen]
  refine run_perm (mu' := [(p, o), (aR, oR), (aT, oT), (L + 1, _)]) (List.perm_middle (l₁ := [(aR, oR), (aT, oT)]) (l₂ := [(L + 1, _)])) ?_
  refine run_forP (F := ⟨s, hideAll s.heap [p], H, L, _, [(aR, oR), (aT, oT), (L + 1, oc)]⟩) (d := 1) (m := 4) (J := JRows w s L p c aR aT [(L + 1, oc)] (k + 1)) ?src (by decide) D (by omega) hA (fun n o' K' hn hp' S' => ?J0) (fun n i F' K' j => ?JS) (fun n i F' K' B' H' j => ?JB) (fun n i v F' K' B' H' hn hi j hv sb sh hB hH => ?turn) (fun n F' K' hn j hB hH => ?done) rfl rfl rfl (fun _ => rfl)
  case src =>
    have pkv : (kv (.ref p)).p K1 (.ref p) := rfl
    exact evp_on (fun o => by walk_at "E ev") (fun K' S' => EvsP.cons (d1 := 1) (d2 := 0) (evp_call (n := 900) (Ps := [kd (.int (4 : Nat))]) hA (by show A.depth + 1 ≤ 900; omega) (by show A.units + 3 ≤ 900; omega) SB (fun o => by walk_at "E ev") (fun o => Evs.cons (ev_cell (c := L + 1) rfl (by k_mem) d1 rfl rfl rfl (by decide)) (Evs.cons (by walk_at "E ev") Evs.nil) rfl) (draw_on (m := 4) (by decide) (by decide)) (keep_ref (by k_is)) ⟨_, _, rfl⟩ rfl rfl) EvsP.nil rfl) range_dig keep_t ⟨_, _, rfl⟩ rfl rfl
  case J0 =>
    refine mk7_1 (hideAll s.heap [p]) H _ o' oR oT ([]) ⟨rfl, by simpa using hp', rfl, nil_all, (oL _).mono S' r1, (oL _).mono S' r2, rfl, rfl⟩
  case JS =>
    (refine ob7_1 j fun B' H' m' o' oR' oT' rs q_383 => ob0_2 q_383 fun e_382 _ => ?_; try clear j; subst e_382)
    exact mk0_3 rfl rfl rfl
  case JB =>
    obtain ⟨B', H', m', o', oR', oT', rs, rfl, j⟩ := j
    exact mk7_1 _ _ m' o' oR' oT' rs ⟨rfl, j⟩
  case turn =>
    (refine ob7_1 j fun B2 H2 m' o' oR' oT' rs q_386 => ob0_8 q_386 fun e_385 j1 j2 j3 j4 j5 j6 j7 => ?_; try clear j; subst e_385)
    have hB : B2 = B' := hB
    subst hB
    have hH : H2 = H' := hH
    subst hH
    have S2 : PenS w B0 X p c B2 := SB.mono sb
    dsimp only [Fm.up]
    refine run_assignP (F := ⟨s, B2, H2, L, _, [(aR, oR'), (aT, oT'), (L + 1, oc)]⟩) (d := 7) (P := kRow) ?row j1 (by omega) (fun o2 K2 w2 D2 Sk q2 => ?_) rfl rfl rfl rfl
    case row =>
      have pkv : (kv (.ref p)).p K' (.ref p) := rfl
      have d2 := draw_on (w := w) (m := 2) (by decide) (by decide)
      have d9 := draw_on (w := w) (m := 9) (by decide) (by decide)
      have d4 := draw_on (w := w) (m := 4) (by decide) (by decide)
      refine EvP.weak (P := kLst ([kInts fun i => i = 1 ∨ i = 2, kInts fun i => 0 ≤ i ∧ i < 9] ++ [kInts four, kInts four, kInts four, kInts four] ++ [kAnyB])) ?_ fun h v q => row_of q
      refine EvP.more (d := (0 + 1 + (1 + 0) + ((List.range 4).map fun i => kd (.int (i : Nat))).length * 1) + (1 + 0 + 0)) ?_ (by decide)
      refine evp_bin (P₁ := kLst ([kInts fun i => i = 1 ∨ i = 2, kInts fun i => 0 ≤ i ∧ i < 9] ++ [kInts four, kInts four, kInts four, kInts four])) (P₂ := kLst [kAnyB]) (evp_bin (P₁ := kLst [kInts fun i => i = 1 ∨ i = 2, kInts fun i => 0 ≤ i ∧ i < 9]) (P₂ := kComp ((List.range 4).map fun i => kd (.int (i : Nat))).length (fun _ b => b = some (kInts four))) ?e1 ?e2 ?add1) ?e3 (op_addL (of_decide_eq_true rfl))
      case e1 =>
        refine EvP.weak (P := kPl [kInts fun i => i = 1 ∨ i = 2, kInts fun i => 0 ≤ i ∧ i < 9]) (evp_lst (EvsP.cons (evp_bin (evp_of fun o => by walk_at "E ev") (evp_call (n := 900) (Ps := [kd (.int (2 : Nat))]) hA (by show A.depth + 1 ≤ 900; omega) (by show A.units + 3 ≤ 900; omega) S2 (fun o => by walk_at "E ev") (fun o => by walk_at "E args") d2 (keep_ref (by k_is)) ⟨_, _, rfl⟩ rfl rfl) one_dig) (EvsP.cons (EvP.weak (P := kDig 9) (evp_call (n := 900) (Ps := [kd (.int (9 : Nat))]) hA (by show A.depth + 1 ≤ 900; omega) (by show A.units + 3 ≤ 900; omega) S2 (fun o => by walk_at "E ev") (fun o => by walk_at "E args") d9 (keep_ref (by k_is)) ⟨_, _, rfl⟩ rfl rfl) fun h v q => ?_) EvsP.nil rfl) rfl) (of_decide_eq_true rfl)) fun _ _ q => pl_lst q
        (refine ob2_2 q fun j t hj e_387 => ?_; try clear q; subst e_387)
        exact mk2_2 _ t (by omega) rfl
      case e2 =>
        refine ev_compP (fun o => ev_call (by walk_at "E ev") (by walk_at "E args") (on_range (n := 4)) keep_t (.inr ⟨_, _, rfl⟩) rfl rfl) (iterH_rng (by decide)) hA (by decide) (by rfl) (by decide) rfl (by decide) (by rfl) (fun i Pk hP C' D' wr m₃ v K3 hm S3 hv => ?_) (fun _ => rfl)
        have pkv : (kv (.ref p)).p K3 (.ref p) := rfl
        refine .inl ⟨0, 1, rfl, trivial, kInts four, rfl, evp_sub (d1 := 0) (d2 := 1) (P₁ := kTup [kd (.int 0), kd (.int 0), kd (.int (-7)), kd (.int 500)]) (evp_of fun o => ev_tup (Evs.cons (by walk_at "E ev") (Evs.cons (by walk_at "E ev") (Evs.cons (ev_neg (by walk_at "E ev")) (Evs.cons (by walk_at "E ev") Evs.nil)))) (of_decide_eq_true rfl)) (evp_call (n := 900) (Ps := [kd (.int (4 : Nat))]) hA (by show A.depth + 1 ≤ 900; omega) (by show A.units + 3 ≤ 900; omega) S2 (fun o => by walk_at "E ev") (fun o => by walk_at "E args") d4 (keep_ref (by k_is)) ⟨_, _, rfl⟩ rfl rfl) (four_sub fun _ _ => rfl)⟩
      case add1 =>
        intro s v u H g l hv hu
        (refine ob1_3 hu fun bs b1 b2 b3 => ?_; try clear hu)
        have : bs = [some (kInts four), some (kInts four), some (kInts four), some (kInts four)] := by
          rcases bs with _ | ⟨b0, _ | ⟨bb1, _ | ⟨bb2, _ | ⟨bb3, _ | ⟨bb4, bs⟩⟩⟩⟩⟩
          · cases b1
          · cases b1
          · cases b1
          · cases b1
          · rw [b2 0 b0 rfl, b2 1 bb1 rfl, b2 2 bb2 rfl, b2 3 bb3 rfl]
          · cases b1
        subst this
        exact op_addL (Ps := [kInts fun i => i = 1 ∨ i = 2, kInts fun i => 0 ≤ i ∧ i < 9]) (Qs := [kInts four, kInts four, kInts four, kInts four]) (of_decide_eq_true rfl) s v u H g l hv (pl_lst b3)
      case e3 => exact EvP.weak (P := kPl [kAnyB]) (evp_lst (EvsP.cons (evp_cmp (evp_call (n := 900) (Ps := [kd (.int (2 : Nat))]) hA (by show A.depth + 1 ≤ 900; omega) (by show A.units + 3 ≤ 900; omega) S2 (fun o => by walk_at "E ev") (fun o => by walk_at "E args") d2 (keep_ref (by k_is)) ⟨_, _, rfl⟩ rfl rfl) (evp_of fun o => by walk_at "E ev") dig_one) EvsP.nil rfl) (of_decide_eq_true rfl)) fun _ _ q => pl_lst q
    obtain ⟨r, hr, q2⟩ := q2
    dsimp only [Fm.up, Fm.pen]
    have ok := hr.toOk
    have zr : rs.length ≤ 3 := by omega
    refine run_append (pre := [(p, o2)]) (P := kd r.d) rfl j6 ((oL _).mono Sk j4) (by rw [List.length_map]; omega) (Ev.weak (P := kTup [kd (.int r.g), kd (.int r.c), kd (.int r.xa), kd (.int r.ya), kd (.int r.xo), kd (.int r.yo), kd (.bool r.u)]) (ev_call (by walk_at "E ev") (by walk_at "E args") (on_tuple_list (of_decide_eq_true rfl)) keep_t (.inr ⟨_, _, rfl⟩) rfl rfl) fun h v q => tup_kd (ds := [.int r.g, .int r.c, .int r.xa, .int r.ya, .int r.xo, .int r.yo, .bool r.u]) q) (fun K3 oR2 S3 q3 => ?_) rfl rfl rfl (by decide) rfl rfl rfl ⟨_, rfl⟩
    dsimp only [List.cons_append, List.nil_append, List.append]
    have l1 : (Str.ofString "@").length = 1 := by decide
    have l2 : (Str.ofString ",").length = 1 := by decide
    have l3 : (Str.ofString "=").length = 1 := by decide
    have l4 : (Str.ofString "+").length = 1 := by decide
    have l5 : (Str.ofString "gid2").length = 4 := by decide
    have l6 : (Str.ofString "a").length = 1 := by decide
    have l7 : (Str.ofString "").length = 0 := by decide
    have l8 : (Str.ofString "#").length = 1 := by decide
    have m2 := small_len ok.c
    have m3 := small_len ok.xa
    have m4 := small_len ok.ya
    have m5 := small_len ok.xo
    have m6 := small_len ok.yo
    have ln : (nmL r.g).length ≤ 4 := by unfold nmL; split <;> omega
    have lt0 : (txt0 r).length ≤ 2000 := by unfold txt0; rw [str_len_app, str_len_app]; omega
    have lt1 : (txt1 r).length ≤ 6000 := by
      unfold txt1
      split
      · rw [str_len_app, str_len_app, str_len_app, str_len_app]; omega
      · omega
    refine run_assign (P := kd (.str (txt0 r))) ?t0 (fun K4 w4 S4 q4 => ?_) rfl rfl rfl rfl
    case t0 =>
      unfold txt0
      refine ev_bin (ev_bin (P₁ := kd (.str (nmL r.g))) (ev_ite (b := r.g == 1) (tr_cmp (ev_sub (by walk_at "E ev") (by walk_at "E ev") (sub_lst (i := 0) rfl (of_decide_eq_true rfl) (fun _ _ => rfl))) (by walk_at "E ev") op_eqI) (fun hb => ?_) (fun hb => ?_)) (by walk_at "E ev") (op_addS (by omega))) (ev_call (by walk_at "E ev") (Evs.cons (ev_sub (by walk_at "E ev") (by walk_at "E ev") (sub_lst (i := 1) rfl (of_decide_eq_true rfl) (fun _ _ => rfl))) Evs.nil) (on_str ok.c) keep_t (.inr ⟨_, _, rfl⟩) rfl rfl) (op_addS (by rw [str_len_app]; omega))
      · have : r.g = 1 := by simpa using hb
        unfold nmL
        rw [if_pos this]
        walk_at "E ev"
      · have : ¬ r.g = 1 := by simpa using hb
        unfold nmL
        rw [if_neg this]
        walk_at "E ev"
    dsimp only [Fm.up]
    refine run_ifV (b := (r.xo != 0) || (r.yo != 0)) (fun K' m => ∃ u, m (Str.ofString "text") = some u ∧ (kd (.str (txt1 r))).p K' u ∧ m (Str.ofString "row") = some w2 ∧ m (Str.ofString "rows") = some (.ref aR) ∧ m (Str.ofString "texts") = some (.ref aT)) ?t ?y ?n (fun K5 m5 S5 hm5 => ?_)
    case t =>
      cases hx : (r.xo != 0) with
      | true => exact tr_bool (.stop (b := true) (tr_b (tr_cmp (ev_sub (by walk_at "E ev") (by walk_at "E ev") (sub_lst (i := 4) rfl (of_decide_eq_true rfl) (fun _ _ => rfl))) (by walk_at "E ev") op_neI) hx) rfl)
      | false =>
        cases hy : (r.yo != 0) with
        | true => exact tr_bool (.go (b := false) (tr_b (tr_cmp (ev_sub (by walk_at "E ev") (by walk_at "E ev") (sub_lst (i := 4) rfl (of_decide_eq_true rfl) (fun _ _ => rfl))) (by walk_at "E ev") op_neI) hx) rfl (.stop (b := true) (tr_b (tr_cmp (ev_sub (by walk_at "E ev") (by walk_at "E ev") (sub_lst (i := 5) rfl (of_decide_eq_true rfl) (fun _ _ => rfl))) (by walk_at "E ev") op_neI) hy) rfl))
        | false => exact tr_bool (.go (b := false) (tr_b (tr_cmp (ev_sub (by walk_at "E ev") (by walk_at "E ev") (sub_lst (i := 4) rfl (of_decide_eq_true rfl) (fun _ _ => rfl))) (by walk_at "E ev") op_neI) hx) rfl (.go (b := false) (tr_b (tr_cmp (ev_sub (by walk_at "E ev") (by walk_at "E ev") (sub_lst (i := 5) rfl (of_decide_eq_true rfl) (fun _ _ => rfl))) (by walk_at "E ev") op_neI) hy) rfl .nil))
    case y =>
      intro hb
      refine run_assign (P := kd (.str (txt1 r))) ?t1 (fun K6 w6 S6 q6 => run_nil fun s6 st6 => ⟨rfl, K6, _, S6, (by exact ⟨w6, rfl, q6, rfl, j6, j7⟩), st6⟩) rfl rfl rfl rfl
      unfold txt1
      rw [if_pos hb]
      exact ev_bin (ev_bin (ev_bin (ev_bin (by walk_at "E ev") (by walk_at "E ev") (op_addS (by omega))) (ev_call (by walk_at "E ev") (Evs.cons (ev_sub (by walk_at "E ev") (by walk_at "E ev") (sub_lst (i := 4) rfl (of_decide_eq_true rfl) (fun _ _ => rfl))) Evs.nil) (on_str ok.xo) keep_t (.inr ⟨_, _, rfl⟩) rfl rfl) (op_addS (by rw [str_len_app]; omega))) (by walk_at "E ev") (op_addS (by rw [str_len_app, str_len_app]; omega))) (ev_call (by walk_at "E ev") (Evs.cons (ev_sub (by walk_at "E ev") (by walk_at "E ev") (sub_lst (i := 5) rfl (of_decide_eq_true rfl) (fun _ _ => rfl))) Evs.nil) (on_str ok.yo) keep_t (.inr ⟨_, _, rfl⟩) rfl rfl) (op_addS (by rw [str_len_app, str_len_app, str_len_app]; omega))
    case n =>
      intro hb
      refine run_nil fun s6 st6 => ⟨rfl, K4, _, .rfl', (by exact ⟨w4, rfl, (by unfold txt1; rw [hb, if_neg (by decide)]; exact q4), rfl, j6, j7⟩), st6⟩
    (refine ob1_5 hm5 fun u e1 e2 e3 e4 e5 => ?_; try clear hm5)
    dsimp only
    have row5 : (kLst [kd (.int r.g), kd (.int r.c), kd (.int r.xa), kd (.int r.ya), kd (.int r.xo), kd (.int r.yo), kd (.bool r.u)]).p K5 w2 := (kLst _).mono (S3.trans (S4.trans S5)) q2
    refine run_append (pre := [(p, o2), (aR, oR2)]) (P := kd (.str (txt2 r))) rfl e5 ((oL _).mono (Sk.trans (S3.trans (S4.trans S5))) j5) (by rw [List.length_map]; omega) ?tx (fun K7 oT2 S7 q7 => ?_) rfl rfl rfl (by decide) rfl rfl rfl ⟨_, rfl⟩
    case tx =>
      unfold txt2
      refine ev_bin (ev_bin (ev_bin (ev_bin (by walk_at "E ev") (by walk_at "E ev") (op_addS (by omega))) (ev_call (by walk_at "E ev") (Evs.cons (ev_sub (by walk_at "E ev") (by walk_at "E ev") (sub_lst (i := 2) rfl (of_decide_eq_true rfl) (fun _ _ => rfl))) Evs.nil) (on_str ok.xa) keep_t (.inr ⟨_, _, rfl⟩) rfl rfl) (op_addS (by rw [str_len_app]; omega)))
        (P₂ := kd (.str (if (r.ya != 0) then Str.ofString "," ++ strI r.ya else Str.ofString ""))) (ev_ite (b := r.ya != 0) (tr_cmp (ev_sub (by walk_at "E ev") (by walk_at "E ev") (sub_lst (i := 3) rfl (of_decide_eq_true rfl) (fun _ _ => rfl))) (by walk_at "E ev") op_neI) (fun hb => ?_) (fun hb => ?_)) (op_addS ?_))
        (P₂ := kd (.str (if r.u then Str.ofString "#" else Str.ofString ""))) (ev_ite (b := r.u) (tr_plain (ev_sub (by walk_at "E ev") (by walk_at "E ev") (sub_lst (i := 6) rfl (of_decide_eq_true rfl) (fun _ _ => rfl))) tru_bool) (fun hb => ?_) (fun hb => ?_)) (op_addS ?_)
      · rw [if_pos hb]
        exact ev_bin (by walk_at "E ev") (ev_call (by walk_at "E ev") (Evs.cons (ev_sub (by walk_at "E ev") (by walk_at "E ev") (sub_lst (i := 3) rfl (of_decide_eq_true rfl) (fun _ _ => rfl))) Evs.nil) (on_str ok.ya) keep_t (.inr ⟨_, _, rfl⟩) rfl rfl) (op_addS (by omega))
      · rw [hb, if_neg (by decide)]
        walk_at "E ev"
      · rw [str_len_app, str_len_app]
        split
        · rw [str_len_app]; omega
        · omega
      · rw [hb, if_pos rfl]; walk_at "E ev"
      · rw [hb, if_neg (by decide)]; walk_at "E ev"
      · rw [str_len_app, str_len_app, str_len_app]
        split <;> split <;> first | omega | (rw [str_len_app]; omega)
    dsimp only [List.cons_append, List.nil_append, List.append]
    rw [txt_eq hr] at q7
    refine run_nil fun s8 st8 => .inl ⟨rfl, _, K7, ⟨B2, H2, m5, o2, oR2, oT2, rs ++ [r], rfl, ?_, by simp [j2], fun q hq => ?_, ?_, ?_, e4, e5⟩, rfl, rfl, st8⟩
    · have : k + 1 + i * 7 + 7 = k + 1 + (i + 1) * 7 := by omega
      rw [← this]; exact D2
    · rcases List.mem_append.mp hq with hq | hq
      · exact j3 q hq
      · rw [List.mem_singleton.mp hq]; exact hr
    · rw [List.map_append]
      exact (oL _).mono (S4.trans (S5.trans S7)) q3
    · rw [List.map_append]
      exact q7
  case done =>
    (refine ob7_1 j fun B2 H2 m' o' oR' oT' rs q_391 => ob0_8 q_391 fun e_390 j1 j2 j3 j4 j5 j6 j7 => ?_; try clear j; subst e_390)
    have hB : B2 = hideAll s.heap [p] := hB
    have hH : H2 = H := hH
    subst hB hH
    refine run_free (pre := [(p, o')]) rfl nR2 fun K2 S2 g2 => ?_
    dsimp only [List.cons_append, List.nil_append, List.append]
    refine run_free (pre := [(p, o')]) rfl nT2 fun K3 S3 g3 => ?_
    dsimp only [List.cons_append, List.nil_append, List.append]
    have pR : (kPl (rs.map fun r => kd r.d)).p K3 (.ref aR) := own_kpl (S3 _ _ g2) ((oL _).mono (S2.trans S3) j4)
    have pT : (kPl (rs.map fun r => kd (.str r.s))).p K3 (.ref aT) := own_kpl g3 ((oL _).mono (S2.trans S3) j5)
    have pR' : (kd (.list (rs.map Rw.d))).p K3 (.ref aR) := lst_kd (pl_lst (by rw [List.map_map]; exact pR))
    have pT' : (kLst ((rs.map Rw.s).map fun y => kd (.str y))).p K3 (.ref aT) := pl_lst (by rw [List.map_map]; exact pT)
    have zr : rs.length ≤ 3 := by omega
    have okk : ∀ r ∈ rs, r.Ok := fun r hr => (j3 r hr).toOk
    have hsum := sum_len okk
    have l1 : (Str.ofString "[").length = 1 := by decide
    have l2 : (Str.ofString "]").length = 1 := by decide
    have l3 : (Str.ofString "|").length = 1 := by decide
    have hj : (Txt.join (Str.ofString "|") (rs.map Rw.s)).length ≤ 90000 := join_len okk zr
    refine run_returnP (F := ⟨s, hideAll s.heap [p], H2, L, m', [(L + 1, oc)]⟩) (d := 0) rfl (EvP.weak (P := kTup [kd (.list (rs.map Rw.d)), kd (.str (textOf rs))]) (evp_of fun o => ev_tup (Evs.cons (ev_local j6 pR' rfl rfl rfl (by decide)) (Evs.cons ?tx Evs.nil)) (of_decide_eq_true rfl)) fun h v q => ⟨rs, zr, j3, q⟩) j1 (by omega) (by omega)
    case tx =>
      unfold textOf
      exact ev_bin (ev_bin (by walk_at "E ev") (ev_meth (P₀ := kd (.str (Str.ofString "|"))) (Ps := [kLst ((rs.map Rw.s).map fun y => kd (.str y))]) (by walk_at "E ev") gm_join (Evs.cons (ev_local j7 pT' rfl rfl rfl (by decide)) Evs.nil) (on_join (by omega) (by rw [List.length_map]; omega)) keep_b (.inr ⟨_, _, rfl⟩) rfl rfl) (op_addS (by omega))) (by walk_at "E ev") (op_addS (by rw [str_len_app]; omega))
section
variable {w : World} {A : Around} {F : Fm} {K : Heap} {env : Env} {P : KP Value} {rest : List Stmt} {xp p2 : Pos} {R : Flow → Shared → Prop} {E : Value → Shared → Prop} {a : Addr} {o : Obj} {pre post : Led} {ts : List PySem.Expr} {vs : List Value}
  {K0 : Type} [DecidableEq K0] {knd : PySem.KeyKind PR w K0} {enc : K0 → PyData} {kvs : List (K0 × PyData)}
theorem stores_item {k : K0} {d : PyData} {v : Value} {xs : Str} {xi : PySem.Expr} (Ek : KeyE knd enc) (hmu : F.mu = pre ++ (a, o) :: post) (hx : F.m xs = some (.ref a)) (ho : OwnD knd kvs K o) (hn : dget kvs k = none) (hz : kvs.length ≤ 1000) (hv : (kd d).p K v) (xk : Ev w A F K env xi (kd (enc k)))
    (kk : ∀ K' o', Sub K K' → OwnD knd (kvs ++ [(k, d)]) K' o' → Stores w A env ⟨F.s0, F.B, F.H, F.L, F.m, pre ++ (a, o') :: post⟩ K' ts vs rest R E)
    (hk : env.scope.kind = .function := by rfl) (hl : env.kindOf xs = some .local := by rfl) (hL : env.locals = F.L := by rfl) (hd : (xs == ("__debug__" : Str)) = false := by decide) :
    Stores w A env F K (.Subscript (.Name xs xp) xi p2 :: ts) (v :: vs) rest R E := fun s st => by
  show wpAny _ _ (holding vs (assign (.Subscript (.Name xs xp) xi p2) env v) >>= fun _ => assignInOrder ((assignEach ts env).map (·.2)) vs) _ _ _
  refine wpAny_bind (wpAny_holding ?_)
  rw [assign_Subscript]
  refine wpAny_bind (wpAny_holding (wpAny_Name (wpAny_loadName_local hk hl (by rw [hL]; exact st.ns) hx ?_) hd))
  refine wpAny_bind (wpAny_holding ((xk s st).use fun u s2 k2 p2' => ?_))
  refine wpAny_bind (wpAny_standAt (wpAny_bind (wpAny_holding ?_)))
  have st2 := st.grow k2
  (refine ob1_2 ho fun us hd' q => ?_; try clear ho)
  have hlen := q.length
  have hm : (a, o) ∈ F.mu := by rw [hmu]; exact List.mem_append_right _ (.head _)
  refine wpAny_setItem_pairs (knd := knd) (kvs := us) (Ek.is p2') (Heap.dictOf_iff.mpr ⟨o, st2.mus _ hm, hd'⟩) (fun h' hdd hs' => ?_) (by rw [sizeLine_eq]; omega)
  (refine ob1_2 (Heap.dictOf_iff.mp hdd) fun o' ho' hd2 => ?_)
  have kn : Sub K (hideAll s2.heap F.hid) := st2.in
  have st3 := (st.up k2).setMu (tk := s2.toks + 1) hmu ho' fun b ob hb q => (hs'.2 b hb).trans q
  have es : stored us k v = us ++ [(k, v)] := by
    have e := dget_none q hn
    unfold valueAt at e
    unfold stored
    rw [if_neg]
    intro h
    rw [List.any_eq_true] at h
    (refine ob1_2 h fun p hp hpk => ?_; try clear h)
    rw [Option.map_eq_none_iff, List.find?_eq_none] at e
    exact e p hp hpk
  rw [es] at hd2
  have fin := kk _ o' kn ⟨us ++ [(k, v)], hd2, (q.imp fun _ _ y => y.mono kn).append (.cons ⟨rfl, (kd d).mono kn hv⟩ .nil)⟩ _ st3
  exact wpAny_releaseD fin
end
theorem on_isinst {w : World} {A : Around} {fs : List (Str × KP Value)} : On w A (.builtin "isinstance") [kInst 88 fs, kv (.ref 88)] (kd (.bool true)) := by
  intro s vs H g l hv
  (refine all2_2 hv fun _ _ e_394 o_392 h2 => ?_; clear hv; subst e_394; (refine ob4_4 o_392 fun x dx es n e_393 hx hdx q => ?_; try clear o_392; subst e_393))
  obtain rfl : _ = Value.ref 88 := h2
  exact isi_call g.X (t := .ref 88) (fun M => (show Looks M s.heap (typeOf (.ref x)) (.ref 88) from (Looks.ld (hide_sub _ _ hx)).andThen .now)) (by k_is) (fun z => nomatch z) ⟨.rfl', is_bool⟩
def nine : List Str := [Str.ofString "a", Str.ofString "b", Str.ofString "c", Str.ofString "d1", Str.ofString ".x", Str.ofString "1a", Str.ofString "sub", Str.ofString "", Str.ofString ".notdef"]
def foul : List Str := [Str.ofString "1a", Str.ofString "sub", Str.ofString ""]
theorem nine_ok : ∀ x ∈ nine, isNameB x = !(foul.contains x) := by decide +kernel
theorem nine_str : ∀ x ∈ nine, PyData.strOk x = true ∧ x.length ≤ 1000 := by decide +kernel
def placeL (N : List (Str × Int)) (C : List (Int × Str)) (x : Str) (co : Option Int) : Int :=
  if foul.contains x || (look N x).isSome then 1 else if (match co with | none => false | some c => (look C c).isSome) then 2 else 0
theorem place_eq {N : List (Str × Int)} {C : List (Int × Str)} {x : Str} {co : Option Int} (h : x ∈ nine) : placeOf N C x co = placeL N C x co := by
  unfold placeOf placeL
  rw [nine_ok x h, Bool.not_not]
  try rfl
theorem sub_filter {G V : List Int} (h : G.Sublist V) (hn : V.Nodup) : V.filter (fun v => decide (v ∈ G)) = G := by
  induction h with
  | slnil => rfl
  | cons a h ih =>
    rw [List.nodup_cons] at hn
    rw [List.filter_cons, if_neg fun z => hn.1 (h.subset (of_decide_eq_true z))]
    exact ih hn.2
  | cons_cons a h ih =>
    rw [List.nodup_cons] at hn
    rw [List.filter_cons, if_pos (decide_eq_true (.head _))]
    exact congrArg _ (Eq.trans (List.filter_congr fun v hv => decide_eq_decide.mpr ⟨fun m => (List.mem_cons.mp m).resolve_left fun e => hn.1 (e ▸ hv), .tail _⟩) (ih hn.2))
theorem idx_range {G : List Int} (h : G.Nodup) : G.map (fun g => ((G.idxOf g : Nat) : Int)) = (List.range G.length).map fun i => ((i : Nat) : Int) := by
  apply List.ext_getElem
  · simp
  · intro i h1 h2
    simp only [List.getElem_map, List.getElem_range]
    have hi : i < G.length := by simpa using h1
    congr 1
    exact h.idxOf_getElem i hi
theorem cutN_vals {K : Type} {N : List (K × Int)} {G : List Int} (hG : G.Sublist (N.map fun q : K × Int => q.2)) (hN : (N.map fun q : K × Int => q.2).Nodup) : (cutN N G).map (fun q : K × Int => q.2) = (List.range G.length).map fun i => ((i : Nat) : Int) := by
  have hGn : G.Nodup := hN.sublist hG
  have e1 : (cutN N G).map (fun q : K × Int => q.2) = (N.map fun q : K × Int => q.2).filterMap (look (placesOf G)) := by
    unfold cutN
    rw [List.map_filterMap, List.filterMap_map]
    congr 1
    funext p
    show Option.map _ (Option.map _ _) = look (placesOf G) p.2
    cases look (placesOf G) p.2 <;> rfl
  have e2 : ∀ V : List Int, V.filterMap (look (placesOf G)) = (V.filter fun v => decide (v ∈ G)).map fun g => ((G.idxOf g : Nat) : Int) := by
    intro V
    induction V with
    | nil => rfl
    | cons v V ih =>
      rw [List.filterMap_cons, List.filter_cons, look_places]
      by_cases m : v ∈ G
      · rw [if_pos m, if_pos (by simpa using m), List.map_cons, ih]
      · rw [if_neg m, if_neg (by simpa using m), ih]
  rw [e1, e2, sub_filter hG hN, idx_range hGn]
theorem nodup_len {α : Type} [DecidableEq α] : ∀ {l s : List α}, l.Nodup → (∀ a ∈ l, a ∈ s) → l.length ≤ s.length
  | [], _, _, _ => Nat.zero_le _
  | a :: l, s, h, hs => by
    rw [List.nodup_cons] at h
    have ha := hs a (.head _)
    have : l.length ≤ (s.erase a).length := nodup_len h.2 fun b hb => by
      have hne : b ≠ a := fun e => h.1 (e ▸ hb)
      exact (List.mem_erase_of_ne hne).mpr (hs b (.tail _ hb))
    rw [List.length_erase_of_mem ha] at this
    have hpos := List.length_pos_of_mem ha
    rw [List.length_cons]; omega
def six : List Str := [Str.ofString ".notdef", Str.ofString "a", Str.ofString "b", Str.ofString "c", Str.ofString "d1", Str.ofString ".x"]
structure Inv (N : List (Str × Int)) (C : List (Int × Str)) (D : List (Str × Int)) : Prop where
  nk : (N.map (·.1)).Nodup
  nv : (N.map fun q : Str × Int => q.2) = (List.range N.length).map fun i => ((i : Nat) : Int)
  n0 : ∃ t, N = (Str.ofString ".notdef", 0) :: t
  s6 : ∀ p ∈ N, p.1 ∈ six
  dk : (D.map (·.1)).Nodup
  ds : ∀ p ∈ D, p.1 ∈ six
  dn : ∀ x, look N x = none → look D x = none
  ck : (C.map (·.1)).Nodup
  c3 : ∀ p ∈ C, p.1 ∈ ([97, 98, 99] : List Int)
  cn : ∀ p ∈ C, ∃ i, look N p.2 = some i ∧ 0 < i
section
variable {N D : List (Str × Int)} {C : List (Int × Str)}
theorem Inv.zN (x : Inv N C D) : N.length ≤ 6 := by
  have := nodup_len x.nk (s := six) fun a ha => by
    (refine ob1_2 (List.mem_map.mp ha) fun p hp e_395 => ?_; subst e_395)
    exact x.s6 p hp
  simpa [six] using this
theorem Inv.zD (x : Inv N C D) : D.length ≤ 6 := by
  have := nodup_len x.dk (s := six) fun a ha => by
    (refine ob1_2 (List.mem_map.mp ha) fun p hp e_396 => ?_; subst e_396)
    exact x.ds p hp
  simpa [six] using this
theorem Inv.zC (x : Inv N C D) : C.length ≤ 3 := by
  have := nodup_len x.ck (s := ([97, 98, 99] : List Int)) fun a ha => by
    (refine ob1_2 (List.mem_map.mp ha) fun p hp e_397 => ?_; subst e_397)
    exact x.c3 p hp
  simpa using this
theorem Inv.lt (x : Inv N C D) : (N.map fun q : Str × Int => q.2).Pairwise (· < ·) := by
  rw [x.nv, List.pairwise_map]
  exact List.pairwise_lt_range.imp fun h => by omega
end
theorem inv0 : Inv [(Str.ofString ".notdef", 0)] [] [] := by
  refine ⟨by decide, rfl, ⟨[], rfl⟩, ?_, List.nodup_nil, nil_all, fun _ _ => rfl, List.nodup_nil, nil_all, nil_all⟩
  intro p hp
  rw [List.mem_singleton.mp hp]
  exact .head _
section
variable {N D : List (Str × Int)} {C : List (Int × Str)} {x : Str} {co : Option Int} {wd : Int}
theorem Inv.max (h : Inv N C D) : maxI (N.map fun q : Str × Int => q.2) + 1 = (N.length : Int) := by
  (refine ob1_1 h.n0 fun t ht => ?_)
  have hl : 1 ≤ N.length := by rw [ht]; simp
  rw [maxI_eq (m := ((N.length - 1 : Nat) : Int))]
  · omega
  · rw [h.nv]
    exact List.mem_map.mpr ⟨N.length - 1, List.mem_range.mpr (by omega), rfl⟩
  · intro i hi
    rw [h.nv] at hi
    (refine ob1_2 (List.mem_map.mp hi) fun j hj e_398 => ?_; subst e_398)
    have := List.mem_range.mp hj
    omega
theorem look_none_keys {V : Type} {L : List (Str × V)} {x : Str} (h : look L x = none) : x ∉ L.map (·.1) := fun hm => by
  (refine ob1_2 (List.mem_map.mp hm) fun p hp e_399 => ?_; subst e_399)
  unfold look at h
  rw [Option.map_eq_none_iff, List.find?_eq_none] at h
  exact h p hp (by simp)
theorem look_append_left {K V : Type} [DecidableEq K] {L L' : List (K × V)} {x : K} {v : V} (h : look L x = some v) : look (L ++ L') x = some v := by
  unfold look at h ⊢
  rw [List.find?_append]
  cases z : L.find? fun p => p.1 = x with
  | none => rw [z] at h; exact nos h
  | some p => rw [z] at h; exact h
theorem look_append_none {K V : Type} [DecidableEq K] {L L' : List (K × V)} {x : K} (h : look (L ++ L') x = none) : look L x = none ∧ look L' x = none := by
  unfold look at h ⊢
  rw [Option.map_eq_none_iff, List.find?_append, Option.or_eq_none_iff] at h
  exact ⟨by rw [h.1]; rfl, by rw [h.2]; rfl⟩
theorem nodup_snoc {α : Type} {l : List α} {a : α} (h : l.Nodup) (ha : a ∉ l) : (l ++ [a]).Nodup := by
  rw [List.nodup_append]
  refine mk0_3 h (List.nodup_cons.mpr ⟨by simp, List.nodup_nil⟩) (fun b hb c hc e => ?_)
  rw [List.mem_singleton.mp hc] at e
  exact ha (e ▸ hb)
theorem inv_grow (h : Inv N C D) (hx : x ∈ six) (hN : look N x = none) (hco : ∀ c, co = some c → c ∈ ([97, 98, 99] : List Int) ∧ look C c = none) : Inv (N ++ [(x, maxI (N.map (·.2)) + 1)]) (putC C x co) (D ++ [(x, wd)]) := by
  have hm : maxI (N.map (·.2)) + 1 = (N.length : Int) := h.max
  rw [hm]
  have hD := h.dn x hN
  have lx : look (N ++ [(x, (N.length : Int))]) x = some (N.length : Int) := by
    unfold look at hN ⊢
    rw [Option.map_eq_none_iff] at hN
    rw [List.find?_append, hN]
    simp
  (refine ob1_1 h.n0 fun t ht => ?_)
  have hl : 1 ≤ N.length := by rw [ht]; simp
  refine ⟨?_, ?_, ⟨t ++ [(x, (N.length : Int))], by rw [ht]; rfl⟩, fun p hp => ?_, ?_, fun p hp => ?_, fun y hy => ?_, ?_, fun p hp => ?_, fun p hp => ?_⟩
  · rw [List.map_append]; exact nodup_snoc h.nk (look_none_keys hN)
  · rw [List.map_append, h.nv, List.length_append, List.length_singleton, List.range_succ, List.map_append]; rfl
  · rcases List.mem_append.mp hp with hp | hp
    · exact h.s6 p hp
    · rw [List.mem_singleton.mp hp]; exact hx
  · rw [List.map_append]; exact nodup_snoc h.dk (look_none_keys hD)
  · rcases List.mem_append.mp hp with hp | hp
    · exact h.ds p hp
    · rw [List.mem_singleton.mp hp]; exact hx
  · (refine ob0_2 (look_append_none hy) fun h1 h2 => ?_)
    have h3 := h.dn y h1
    unfold look at h2 h3 ⊢
    rw [Option.map_eq_none_iff] at h2 h3 ⊢
    rw [List.find?_append, h3]
    simpa using h2
  · cases co with
    | none => exact h.ck
    | some c =>
      show ((C ++ [(c, x)]).map (·.1)).Nodup
      rw [List.map_append]
      refine nodup_snoc h.ck fun hm => ?_
      (refine ob1_2 (List.mem_map.mp hm) fun p hp e_400 => ?_; subst e_400)
      have := (hco p.1 rfl).2
      unfold look at this
      rw [Option.map_eq_none_iff, List.find?_eq_none] at this
      exact this p hp (by simp)
  · cases co with
    | none => exact h.c3 p hp
    | some c =>
      rcases List.mem_append.mp (show p ∈ C ++ [(c, x)] from hp) with hp | hp
      · exact h.c3 p hp
      · rw [List.mem_singleton.mp hp]; exact (hco c rfl).1
  · have old : ∀ p ∈ C, ∃ i, look (N ++ [(x, (N.length : Int))]) p.2 = some i ∧ 0 < i := fun p hp => by
      (refine ob1_2 (h.cn p hp) fun i e1 e2 => ?_)
      exact mk1_2 i (look_append_left e1) e2
    cases co with
    | none => exact old p hp
    | some c =>
      rcases List.mem_append.mp (show p ∈ C ++ [(c, x)] from hp) with hp | hp
      · exact old p hp
      · rw [List.mem_singleton.mp hp]; exact ⟨_, lx, by omega⟩
end
section
variable {N D : List (Str × Int)} {C : List (Int × Str)} {G' : List Int}
theorem cut_sub (h : Inv N C D) (hs : G'.Sublist (N.map fun q : Str × Int => q.2)) (hp : ∀ g ∈ G', 0 < g) : (0 :: G').Sublist (N.map fun q : Str × Int => q.2) := by
  (refine ob1_1 h.n0 fun t ht => ?_)
  rw [ht, List.map_cons] at hs ⊢
  refine .cons_cons 0 ?_
  cases hs with
  | cons _ hs => exact hs
  | cons_cons _ hs => exact absurd (hp 0 (.head _)) (by decide)
theorem inv_cut (h : Inv N C D) (hs : G'.Sublist (N.map fun q : Str × Int => q.2)) (hp : ∀ g ∈ G', 0 < g) :
    Inv (cutN N (0 :: G')) (C.filter fun p => (atG N (0 :: G') p).isSome) (D.filter fun p => (look (cutN N (0 :: G')) p.1).isSome) := by
  have hsub := cut_sub h hs hp
  have hNn : (N.map fun q : Str × Int => q.2).Nodup := h.lt.imp fun e => Int.ne_of_lt e
  have vals := cutN_vals (N := N) hsub hNn
  have len : (cutN N (0 :: G')).length = (0 :: G').length := by
    have := congrArg List.length vals
    simpa using this
  (refine ob1_1 h.n0 fun t ht => ?_)
  have l0 : look (placesOf (0 :: G')) 0 = some 0 := by rw [look_places, if_pos (.head _)]; simp
  have mem : ∀ q ∈ cutN N (0 :: G'), ∃ p ∈ N, p.1 = q.1 := fun q hq => by
    (refine ob1_2 (List.mem_filterMap.mp hq) fun p hp e => ?_)
    cases z : look (placesOf (0 :: G')) p.2 with
    | none => rw [z] at e; exact nos e
    | some j => rw [z] at e; obtain rfl := Option.some.inj e; exact ⟨p, hp, rfl⟩
  refine ⟨cutN_keys h.nk, by rw [vals, len], ⟨cutN t (0 :: G'), ?_⟩, fun q hq => ?_, filter_keys _ h.dk, fun p hp => h.ds p (List.mem_filter.mp hp).1, fun y hy => ?_, filter_keys _ h.ck, fun p hp => h.c3 p (List.mem_filter.mp hp).1, fun p hp => ?_⟩
  · unfold cutN
    rw [ht, List.filterMap_cons]
    dsimp only
    rw [l0]; rfl
  · (refine ob1_2 (mem q hq) fun p hp e => ?_)
    rw [← e]; exact h.s6 p hp
  · unfold look
    rw [Option.map_eq_none_iff, List.find?_eq_none]
    intro p hp e
    have e : p.1 = y := by simpa using e
    have := (List.mem_filter.mp hp).2
    change (look (cutN N (0 :: G')) p.1).isSome = true at this
    rw [e, hy] at this
    exact nob this
  · (refine ob0_2 (List.mem_filter.mp hp) fun hp1 hp2 => ?_)
    (refine ob1_2 (h.cn p hp1) fun i e1 e2 => ?_)
    obtain ⟨q, hq, rfl⟩ : ∃ q ∈ N, q = (p.2, i) := by
      unfold look at e1
      rw [Option.map_eq_some_iff] at e1
      (refine ob1_2 e1 fun q f1 f2 => ?_; try clear e1)
      have h1 := List.mem_of_find?_eq_some f1
      have h2 : q.1 = p.2 := by simpa using List.find?_some f1
      exact mk1_2 q h1 (Prod.ext h2 f2)
    have lk := look_fm (N := N) (fun q => look (placesOf (0 :: G')) q.2) h.nk hq
    have hat : atG N (0 :: G') p = look (placesOf (0 :: G')) i := by unfold atG; rw [e1]; rfl
    rw [hat] at hp2
    cases z : look (placesOf (0 :: G')) i with
    | none => rw [z] at hp2; exact nob hp2
    | some j =>
      refine mk1_2 j (lk.trans z) ?_
      rw [look_places] at z
      split at z
      · obtain rfl := Option.some.inj z
        rw [List.idxOf_cons]
        have : ((0 : Int) == i) = false := by simp; omega
        rw [this]
        simp only [cond_false]
        omega
      · exact nos z
end
def lawWords : List Str := ["", "0", "7", "65535", "65536", "999999999", "0000000012", "-1", "1x", "x", "U+0041", "U+10FFFF", "U+110000", "U+041", "U+004g", "u+0041", "ab", "-", "é", "U+0041,U+0062", "U+0041,", "12"].map Str.ofString
theorem words_at {w : World} : tupStrIn (Mine.hd.heap_39 w.params) 375 lawWords = true := by kernel_rfl
theorem words_len : lawWords.length = 22 := rfl
def kWord : KP Value := ⟨fun _ v => ∃ x t, x ∈ lawWords ∧ v = .str x t, fun _ x => x⟩
theorem words_sub {w : World} {A : Around} {value slice : PySem.Expr} (hs : ∀ (o i : Value), subscripted slice false o i = operate [o, i] (getItem o i)) : O2 w A (subscriptTail value slice) (kv (.ref 375)) (kDig 22) kWord := by
  (intro s v u H g l e_401 o_402; subst e_401; (refine ob2_2 o_402 fun j t hj e_403 => ?_; try clear o_402; subst e_403))
  have q0 := tupStr_reads (w := w) (h := s.heap) g.X words_at
  (refine ob4_5 (kd_tup q0) fun a o vs n e ha hc hd q => ?_)
  cases e
  have hlen : (lawWords.map PyData.str).length = vs.size := by rw [← Array.length_toList]; have := q.length; rw [List.length_map] at this; exact this
  have hl22 : (lawWords.map PyData.str).length = 22 := by rw [List.length_map]; rfl
  have hlt : j < vs.size := by omega
  have hi : (((lawWords.map PyData.str).map kd) : List (KP Value))[j]? = some (kd ((lawWords.map PyData.str).getD j .none)) := by
    rw [List.getElem?_map, List.getElem?_eq_getElem (by omega)]
    simp [List.getD, List.getElem?_eq_getElem (show j < (lawWords.map PyData.str).length by omega)]
  (refine ob1_2 (q.get' hi) fun x hx hp => ?_)
  refine tail_any (T := "tuple") ⟨o, ha, hc⟩ slot_tuple_getitem.lookup (getItem_tuple (j := j) ⟨o, ha, hc, n, hd⟩ (by omega) (by omega) (seqIndex_nat hlt) (by simpa using hx) ⟨.rfl', ?_⟩) (hs _ _)
  have hjl : j < lawWords.length := by rw [words_len]; exact hj
  have e2 : (lawWords.map PyData.str).getD j .none = .str lawWords[j] := by
    simp [List.getD, hjl]
  rw [e2] at hp
  (refine ob1_1 (kd_str hp) fun t' e_404 => ?_; subst e_404)
  exact mk2_2 (lawWords[j]) t' (List.getElem_mem _) rfl
def Fr2 (a b : Led) : Prop := All2 (fun (q r : Addr × Obj) => r.1 = q.1 ∧ ∃ sl, r.2 = { q.2 with slots := sl }) a b
theorem Fr2.addr {a b : Led} (x : Fr2 a b) : b.map (·.1) = a.map (·.1) := by
  induction x with
  | nil => rfl
  | cons h r ih => rw [List.map_cons, List.map_cons, h.1, ih]
theorem Fr2.refl : ∀ {a : Led}, Fr2 a a
  | [] => .nil
  | q :: r => .cons ⟨rfl, q.2.slots, rfl⟩ Fr2.refl
def FrOk (outer : List Env) (fr : Led) : Prop := All2 (fun (env : Env) (q : Addr × Obj) => env.scope.kind ≠ .module ∧ env.frame = some q.1 ∧ ∀ vs, q.2.data ≠ .fields vs) outer fr
theorem FrOk.fun {h base : Heap} {outer : List Env} {fr : Led} (x : FrOk outer fr) (hh : ∀ q ∈ fr, h.get? q.1 = some q.2 ∧ base.get? q.1 = none) : h.FunFrames base outer := by
  induction x with
  | nil => trivial
  | @cons a b as bs x r ih => exact ⟨x.1, ⟨b.1, b.2, x.2.1, (hh b (.head _)).2, (hh b (.head _)).1, x.2.2⟩, ih fun q' hq => hh q' (.tail _ hq)⟩
theorem FrOk.data {outer : List Env} {fr : Led} (x : FrOk outer fr) (q : Addr × Obj) (hq : q ∈ fr) (vs : Array Value) : q.2.data ≠ .fields vs := by
  induction x with
  | nil => cases hq
  | cons x r ih => exact (List.mem_cons.mp hq).elim (fun e => e ▸ x.2.2 vs) ih
theorem fr2_of {h h' : Heap} (u : h.UpToSlots h') : ∀ {fr : Led}, (∀ q ∈ fr, h.get? q.1 = some q.2) → (∀ q ∈ fr, ∀ vs, q.2.data ≠ .fields vs) → ∃ fr', Fr2 fr fr' ∧ ∀ q ∈ fr', h'.get? q.1 = some q.2
  | [], _, _ => ⟨[], .nil, nil_all⟩
  | q :: r, h1, h2 => by
    (refine ob1_2 (fr2_of u (fr := r) (fun q hq => h1 q (.tail _ hq)) fun q hq => h2 q (.tail _ hq)) fun fr' a b => ?_)
    (refine ob1_1 (u q.1 q.2 (h1 q (.head _)) (h2 q (.head _))) fun sl e => ?_)
    refine mk1_2 ((q.1, { q.2 with slots := sl }) :: fr') (.cons ⟨rfl, sl, rfl⟩ a) (fun q' hq => ?_)
    rcases List.mem_cons.mp hq with rfl | hq
    · exact e
    · exact b q' hq
abbrev Fm.with (F : Fm) (mu : Led) : Fm := ⟨F.s0, F.B, F.H, F.L, F.m, mu⟩
section
variable {w : World} {A : Around} {F : Fm} {K K' : Heap} {env : Env} {outer : List Env} {s : Shared} {mA fr : Led} {h' : Heap} {tk : Nat}
theorem St.slots (st : St w F K s) (hmu : F.mu = mA ++ fr) (fo : FrOk outer fr) (hb : (hideAll s.heap (F.L :: fr.map (·.1))).StaysIn h') (hu : s.heap.UpToSlots h') :
    ∃ fr', Fr2 fr fr' ∧ St w (F.with (mA ++ fr')) (hideAll h' F.hid) { s with heap := h', toks := tk } ∧ Sub K (hideAll h' F.hid) := by
  have hm : ∀ q ∈ mA ++ fr, q ∈ F.mu := fun q hq => hmu ▸ hq
  (refine ob1_2 (fr2_of hu (fun q hq => st.mus q (hm q (List.mem_append_right _ hq))) fo.data) fun fr' a b => ?_)
  have ea : (mA ++ fr').map (·.1) = F.mu.map (·.1) := by rw [hmu, List.map_append, List.map_append, a.addr]
  have keep : ∀ c o, s.heap.get? c = some o → c ≠ F.L → c ∉ fr.map (·.1) → h'.get? c = some o := fun c o q h1 h2 => hb c o (hideAll_get _ q fun m => by
    rcases List.mem_cons.mp m with m | m
    · exact h1 m
    · exact h2 m)
  have nd := st.mnd
  rw [hmu, List.map_append, List.nodup_append] at nd
  have inmu : ∀ c ∈ fr.map (·.1), c ∈ F.mu.map (·.1) := fun c hc => by rw [hmu, List.map_append]; exact List.mem_append_right _ hc
  have hidm : ∀ c ∈ fr.map (·.1), c ∈ F.hid := fun c hc => .tail _ (List.mem_append_left _ (inmu c hc))
  have kk : ∀ {D : Heap}, Sub D s.heap → D.get? F.L = none → (∀ c ∈ fr.map (·.1), D.get? c = none) → Sub D h' := fun {D} h1 h2 h3 c o q => keep c o (h1 c o q) (fun z => by rw [z, h2] at q; exact nos q) fun z => by rw [h3 c z] at q; exact nos q
  have hK : Sub K h' := kk st.sub (st.out _ (.head _)) fun c hc => st.out c (hidm c hc)
  have of_mu : ∀ {T : Addr → Prop}, (∀ q ∈ F.mu, T q.1) → ∀ q ∈ mA ++ fr', T q.1 := fun {T} h q hq => by
    have : q.1 ∈ F.mu.map (·.1) := by rw [← ea]; exact List.mem_map_of_mem (f := (·.1)) hq
    (refine ob1_2 (List.mem_map.mp this) fun r hr e => ?_)
    rw [← e]; exact h r hr
  refine ⟨fr', a, ⟨st.g, st.rl.trans ⟨_, _, rfl⟩, kk st.base st.bL fun c hc => ?_, hide_sub, hu.ns st.ns, fun q hq => ?_, fun c hc => ?_, fun c hc => ?_, st.bL, of_mu (T := fun c => F.B.get? c = none) st.bmu, of_mu (T := fun c => c ≠ F.L) st.muL, by
    show ((mA ++ fr').map (·.1)).Nodup
    rw [ea]; exact st.mnd⟩, sub_into hK st.out⟩
  · (refine ob1_2 (List.mem_map.mp (inmu c hc)) fun q hq e => ?_)
    rw [← e]; exact st.bmu q hq
  · rcases List.mem_append.mp hq with hq | hq
    · have hq2 := hm q (List.mem_append_left _ hq)
      exact keep _ _ (st.mus q hq2) (st.muL q hq2) fun m => nd.2.2 q.1 (List.mem_map_of_mem (f := (·.1)) hq) q.1 m rfl
    · exact b q hq
  · by_cases h1 : c = F.L
    · subst h1
      (refine ob3_2 (hu.ns st.ns) fun o _ _ e _ => ?_)
      exact ⟨o, e⟩
    by_cases h2 : c ∈ fr.map (·.1)
    · rw [← a.addr] at h2
      (refine ob1_2 (List.mem_map.mp h2) fun q hq e_405 => ?_; subst e_405)
      exact ⟨_, b q hq⟩
    (refine ob1_1 (st.live c hc) fun o e => ?_)
    exact ⟨o, keep c o e h1 h2⟩
  · refine hideAll_none _ ?_
    have e : Fm.hid (F.with (mA ++ fr')) = F.hid := by
      show F.L :: ((mA ++ fr').map (·.1) ++ F.H) = F.L :: (F.mu.map (·.1) ++ F.H)
      rw [ea]
    rw [← e]; exact hc
end
def PX (w : World) (F : Fm) (K : Heap) {α : Type} (R : α → Led → Heap → Prop) (v : α) (s' : Shared) : Prop := ∃ mu' K', Sub K K' ∧ St w (F.with mu') K' s' ∧ R v mu' K'
def EvX (w : World) (A : Around) (F : Fm) (K : Heap) (env : Env) (e : PySem.Expr) (R : Value → Led → Heap → Prop) : Prop := ∀ s, St w F K s → wpAny (model PR w) A (eval e env) (PX w F K R) (fun _ _ => False) s
def TrX (w : World) (A : Around) (F : Fm) (K : Heap) (env : Env) (e : PySem.Expr) (R : Bool → Led → Heap → Prop) : Prop := ∀ s, St w F K s → wpAny (model PR w) A (isTrue e env (eval e env)) (PX w F K R) (fun _ _ => False) s
def EvsX (w : World) (A : Around) (F : Fm) (K : Heap) (env : Env) (es : List PySem.Expr) (R : List Value → Led → Heap → Prop) : Prop := ∀ pos s, St w F K s → wpAny (model PR w) A (spliced (backTo pos (starEach es env))) (PX w F K R) (fun _ _ => False) s
def CallX (w : World) (A : Around) (F : Fm) (K : Heap) (f : Value) (vs : List Value) (R : Value → Led → Heap → Prop) : Prop := ∀ s, St w F K s → wpAny (model PR w) A (call f vs) (PX w F K R) (fun _ _ => False) s
section
variable {w : World} {A : Around} {F : Fm} {K K' : Heap} {env : Env} {e e₁ e₂ fe : PySem.Expr} {es : List PySem.Expr} {P : KP Value} {Ps : List (KP Value)} {s s' : Shared} {pos xp tp : Pos} {R R' : Value → Led → Heap → Prop} {RL RL' : List Value → Led → Heap → Prop} {f : Value} {mu' : Led}
theorem PX.imp {α : Type} {R R' : α → Led → Heap → Prop} {v : α} (x : PX w F K R v s) (h : ∀ mu' K', Sub K K' → R v mu' K' → R' v mu' K') : PX w F K R' v s := by
  (refine ob2_3 x fun m K' a b c => ?_; try clear x)
  exact mk2_3 m K' a b (h m K' a c)
theorem PX.then {α β : Type} {R : α → Led → Heap → Prop} {u : α} (k : Sub K K') (y : PX w (F.with mu') K' R u s) : PX w F K R u s := by
  (refine ob2_3 y fun m K2 a b c => ?_; try clear y)
  exact mk2_3 m K2 (k.trans a) b c
theorem evx_of (x : Ev w A F K env e P) : EvX w A F K env e fun v mu' K' => mu' = F.mu ∧ P.p K' v := fun s st => (x s st).use fun v s1 k1 p1 => ⟨F.mu, _, st.in.trans (sub_hide k1.sub), st.up k1, rfl, p1⟩
theorem evsx_of (x : Evs w A F K env es Ps) : EvsX w A F K env es fun vs mu' K' => mu' = F.mu ∧ (KPs Ps).p K' vs := fun pos s st => (x pos s st).use fun v s1 k1 p1 => ⟨F.mu, _, st.in.trans (sub_hide k1.sub), st.up k1, rfl, p1⟩
theorem evsx_nil (h : RL [] F.mu K) : EvsX w A F K env [] RL := fun pos s st => wpAny_pure ⟨F.mu, K, .rfl', st, h⟩
theorem evsx_cons (x : EvX w A F K env e R) (r : ∀ v mu' K', Sub K K' → R v mu' K' → EvsX w A (F.with mu') K' env es fun vs => RL (v :: vs)) (hs : starEach (e :: es) env = (false, eval e env) :: starEach es env := by rfl) : EvsX w A F K env (e :: es) RL := fun pos s st => by
  rw [hs]
  show wpAny _ _ (eval e env >>= fun v => (pure [v] : Sem (List Value)) >>= fun here => holding here (spliced (backTo pos (starEach es env))) >>= fun r => pure (here ++ r)) _ _ _
  refine wpAny_bind (wpAny_mono (x s st) (fun v s1 y => ?_) fun _ _ y => y)
  (refine ob2_3 y fun m1 K1 a b c => ?_; try clear y)
  refine wpAny_bind (wpAny_pure (wpAny_bind (wpAny_holding (wpAny_mono (r v m1 K1 a c pos s1 b) (fun vs s2 z => wpAny_pure ?_) fun _ _ y => y))))
  exact PX.then (β := List Value) (α := List Value) a z
theorem callx (hf : Ev w A F K env fe (kv f)) (x : ∀ K', Sub K K' → EvsX w A F K' env es RL) (q : ∀ vs mu1 K1, Sub K K1 → RL vs mu1 K1 → CallX w A (F.with mu1) K1 f vs R) (kp : KeepOk w f) (hs : ∃ t r, starEach es env = (false, t) :: r) (hp : (starEach es env).any (·.1) = false := by rfl)
    (he : eval (.Call fe es [] pos) env = (do callWith pos (← eval fe env) [] (backTo pos (starEach es env)) []) := by rfl) : EvX w A F K env (.Call fe es [] pos) R := fun s st => by
  rw [he]
  refine wpAny_bind ((hf s st).use fun v s1 k1 p1 => ?_)
  rw [show v = f from p1]
  have st1 := st.up k1
  have sK := st.in.trans (sub_hide k1.sub)
  (refine ob2_1 hs fun t r hst => ?_; try clear hs)
  refine callWith_of (P := G w) ?_ kp ?_
  · rw [List.any_nil, Bool.or_false]
    unfold backTo
    rw [List.any_map]
    exact hp
  have y := x _ sK pos s1 st1
  rw [hst] at y ⊢
  refine evalArgs_plain (wpAny_mono y (fun vs s2 z => ?_) fun _ _ y => y)
  (refine ob2_3 z fun m1 K1 a b c => ?_; try clear z)
  refine ⟨b.gh, ?_⟩
  exact wpAny_mono (q vs m1 K1 (sK.trans a) c s2 b) (fun v s3 z => PX.then (α := Value) (β := Value) (sK.trans a) z) fun _ _ y => y
theorem evx_cmp {op : CmpOp} {R₁ R₂ : Value → Led → Heap → Prop} {RB : Bool → Led → Heap → Prop} (x : EvX w A F K env e₁ R₁) (y : ∀ v mu' K', Sub K K' → R₁ v mu' K' → EvX w A (F.with mu') K' env e₂ R₂) (q : ∀ v u mu1 K1 mu2 K2, Sub K1 K2 → R₁ v mu1 K1 → R₂ u mu2 K2 → ∃ P₁ P₂ b, P₁.p K1 v ∧ P₂.p K2 u ∧ O2 w A (compareOp op) P₁ P₂ (kd (.bool b)) ∧ ∀ K3, Sub K2 K3 → RB b mu2 K3) (hm : behindInMarks op e₂ = false := by with_unfolding_all rfl) :
    TrX w A F K env (.Compare e₁ [op] [e₂] pos) RB := fun s st => wpAny_isTrue_Compare1 (wpAny_mono (x s st) (fun v s1 y1 => by
  (refine ob2_3 y1 fun m1 K1 a1 a2 a3 => ?_; try clear y1)
  refine wpAny_mono (y v m1 K1 a1 a3 s1 a2) (fun u s2 y2 => ?_) fun _ _ y => y
  (refine ob2_3 y2 fun m2 K2 b1 b2 b3 => ?_; try clear y2)
  (refine ob3_4 (q v u m1 K1 m2 K2 b1 a3 b3) fun P₁ P₂ b c1 c2 c3 c4 => ?_)
  refine (c3 s2 v u _ b2.gh b2.lives (P₁.mono (b1.trans b2.in) c1) (P₂.mono b2.in c2)).use fun r s3 k3 p3 => ?_
  rw [kd_bool p3]
  exact wpAny_truthy_bool ⟨m2, _, (a1.trans b1).trans (b2.in.trans (sub_hide k3.sub)), b2.up k3, c4 _ (b2.in.trans (sub_hide k3.sub))⟩) fun _ _ y => y) hm
theorem trx_or2 {R₁ RB : Bool → Led → Heap → Prop} (x : TrX w A F K env e₁ fun b mu' K' => b = false ∧ R₁ b mu' K') (y : ∀ mu' K', Sub K K' → R₁ false mu' K' → TrX w A (F.with mu') K' env e₂ fun b mu' K' => b = false ∧ RB b mu' K') : TrX w A F K env (.BoolOp .Or [e₁, e₂] pos) RB := fun s st => by
  show wpAny _ _ (isTrue e₁ env (eval e₁ env) >>= fun c => match BoolOp.Or, c with | .And, false => pure false | .Or, true => pure true | _, _ => allTrue .Or [e₂] env) _ _ _
  refine wpAny_bind (wpAny_mono (x s st) (fun c s1 z => ?_) fun _ _ y => y)
  (refine ob2_4 z fun m1 K1 a b e_406 h => ?_; try clear z; subst e_406)
  show wpAny _ _ (isTrue e₂ env (eval e₂ env) >>= fun c => match BoolOp.Or, c with | .And, false => pure false | .Or, true => pure true | _, _ => allTrue .Or [] env) _ _ _
  refine wpAny_bind (wpAny_mono (y m1 K1 a h s1 b) (fun c s2 z => ?_) fun _ _ y => y)
  (refine ob2_4 z fun m2 K2 a2 b2 e_407 h2 => ?_; try clear z; subst e_407)
  exact wpAny_pure ⟨m2, K2, a.trans a2, b2, h2⟩
end
section
variable {w : World} {A : Around} {F : Fm} {K K' : Heap} {env : Env} {e : PySem.Expr} {P : KP Value} {Ps : List (KP Value)} {rest b1 b2 : List Stmt} {ts : List PySem.Expr} {s s' : Shared} {pos xp tp : Pos} {x : Str} {RV : Value → Led → Heap → Prop} {R : Flow → Shared → Prop} {E : Value → Shared → Prop}
theorem runx_assign (x' : EvX w A F K env e RV) (k : ∀ v mu' K', Sub K K' → RV v mu' K' → Run w A env ((F.with mu').up x v) K' rest R E) (hk : env.scope.kind = .function := by rfl) (hl : env.kindOf x = some .local := by rfl) (hL : env.locals = F.L := by rfl)
    (hs : swapsWith e (some (.Name x xp)) pos.line env = pure false := by rfl) : Run w A env F K (.Assign [.Name x xp] e pos :: rest) R E := fun s st => by
  refine wpAny_execs_cons (wpAny_Assign_Name (wpAny_mono (x' s st) (fun v s1 y => ?_) fun _ _ y => y.elim) hs)
  (refine ob2_3 y fun m1 K1 a b c => ?_; try clear y)
  exact store_local b hk hl hL fun s2 st2 => k v m1 K1 a c s2 st2
theorem runx_return (x : EvX w A F K env e RV) (k : ∀ v s mu' K', Sub K K' → St w (F.with mu') K' s → RV v mu' K' → R (.ret v) s) : Run w A env F K (.Return (some e) pos :: rest) R E := fun s st =>
  wpAny_execs_cons (wpAny_Return_some (wpAny_mono (x s st) (fun v s1 y => by
    (refine ob2_3 y fun m1 K1 a b c => ?_; try clear y)
    exact k v s1 m1 K1 a b c) fun _ _ y => y.elim))
theorem runx_if {RB : Bool → Led → Heap → Prop} (t : TrX w A F K env e RB) (h : ∀ b mu' K', Sub K K' → RB b mu' K' → Run w A env (F.with mu') K' (if b then b1 else b2) (fun fl s' => match fl with | .next => wpAny (model PR w) A (execs rest env) R E s' | fl => R fl s') E) :
    Run w A env F K (.If e b1 b2 pos :: rest) R E := fun s st => by
  refine wpAny_execs_cons (wpAny_If (wpAny_mono (t s st) (fun c s1 y => ?_) fun _ _ y => y.elim))
  (refine ob2_3 y fun m1 K1 a b h1 => ?_; try clear y)
  have := h c m1 K1 a h1 s1 b
  cases c <;> exact this
theorem runx_unpack {T : String} {kc : Nat} (hT : T = "list" ∨ T = "tuple") (hA : A.handled = none) (x' : EvX w A F K env e RV) (hst : (assignEach ts env).findIdx? (·.1) = none)
    (hv : ∀ v mu' K', Sub K K' → RV v mu' K' → ∃ Ps, (kSeq T Ps).p K' v ∧ Ps.length = ts.length ∧ ∀ K2 vs, Sub K' K2 → All2 (fun (P : KP Value) v => P.p K2 v) Ps vs → Stores w A env (F.with mu') K2 ts vs rest R E)
    (hs : swapsWithSole [.Tuple ts kc tp] e pos.line env = pure false := by rfl)
    (hw : swappedStores [.Tuple ts kc tp] e env = pure none := by rfl) : Run w A env F K (.Assign [.Tuple ts kc tp] e pos :: rest) R E := fun s st => by
  have el := assign_len ts env
  refine wpAny_execs_cons (Assign_Tuple (wpAny_mono (x' s st) (fun v s1 y => ?_) fun _ _ y => y.elim) hs hw)
  (refine ob2_3 y fun m1 K1 a b c => ?_; try clear y)
  (refine ob1_3 (hv v m1 K1 a c) fun Ps c1 c2 c3 => ?_)
  show wpAny _ _ (standAt tp >>= fun _ => unpack v (assignEach ts env)) _ _ _
  refine wpAny_bind (wpAny_standAt ?_)
  unfold unpack
  refine wpAny_bind (wpAny_holding ?_)
  rw [hst, el, ← c2]
  refine unpack_items hT hA b.gh b.lives ((kSeq T Ps).mono b.in c1) fun vs s2 k2 hall => ?_
  exact c3 _ vs (b.in.trans (sub_hide k2.sub)) hall s2 (b.up k2)
end
def Trip (q : Str) : List Pos → List Value → Heap → Prop
  | [], vs, _ => vs = []
  | p :: ps, vs, K => ∃ c r, vs = rawInt p.line :: rawInt p.col :: .ref c :: r ∧ K.CodeRec (.ref c) q ∧ Trip q ps r K
theorem codeRec_mono {K K' : Heap} {cd : Value} {q : Str} (k : Sub K K') (x : K.CodeRec cd q) : K'.CodeRec cd q := by
  (refine ob4_3 x fun c o vs t e h r => ?_; try clear x)
  exact mk4_1 c o vs t ⟨e, k _ _ h, r⟩
theorem Trip.mono {q : Str} {K K' : Heap} (k : Sub K K') {ps : List Pos} {vs : List Value} (x : Trip q ps vs K) : Trip q ps vs K' := by
  induction ps generalizing vs with
  | nil => exact x
  | cons p ps ih => exact ob2_3 x fun c r e h t => ⟨c, r, e, codeRec_mono k h, ih t⟩
def samePos (a b : Pos) : Bool := ((a.line : Int) == b.line) && ((a.col : Int) == b.col)
theorem Trip.ok {q : Str} {K : Heap} : ∀ {ps : List Pos} {vs : List Value}, Trip q ps vs K → TriplesOk vs
  | [], _, h => by rw [show _ = [] from h]; exact True.intro
  | _ :: _, _, ⟨c, r, e, h, t⟩ => by rw [e]; exact (Trip.ok t : TriplesOk r)
theorem Trip.none {q : Str} {K : Heap} {pos : Pos} : ∀ {ps : List Pos} {vs : List Value}, Trip q ps vs K → (ps.any fun p => samePos p pos) = false → codeAmong pos vs = .none
  | [], _, h, _ => by rw [show _ = [] from h]; rfl
  | p :: ps, _, ⟨c, r, e, h, t⟩, hn => by
    rw [List.any_cons, Bool.or_eq_false_iff] at hn
    rw [e]
    show (if ((p.line : Int) == pos.line && (p.col : Int) == pos.col) = true then _ else codeAmong pos r) = _
    have h1 := hn.1
    unfold samePos at h1
    rw [if_neg (by rw [h1]; decide)]
    exact Trip.none t hn.2
theorem Trip.hit {q : Str} {K : Heap} {pos : Pos} {ps : List Pos} {vs : List Value} (x : Trip q ps vs K) (hn : (ps.any fun p => samePos p pos) = true) : ∃ c, codeAmong pos vs = some (.ref c) ∧ K.CodeRec (.ref c) q := by
  induction ps generalizing vs with
  | nil => exact nob hn
  | cons p ps ih =>
    refine ob2_3 x fun c r e h t => ?_
    rw [e]
    have ce : codeAmong pos (rawInt p.line :: rawInt p.col :: .ref c :: r) = if samePos p pos = true then some (.ref c) else codeAmong pos r := rfl
    rw [ce]
    cases hp : samePos p pos with
    | true => exact ⟨c, rfl, h⟩
    | false =>
      rw [List.any_cons, hp, Bool.false_or] at hn
      exact ih t hn
theorem Trip.snoc {q : Str} {K : Heap} {p : Pos} {c : Addr} (h : K.CodeRec (.ref c) q) : ∀ {ps : List Pos} {vs : List Value}, Trip q ps vs K → Trip q (ps ++ [p]) (vs ++ [rawInt p.line, rawInt p.col, .ref c]) K
  | [], _, e => by
    rw [show _ = [] from e]
    exact mk2_3 c ([]) rfl h rfl
  | _ :: _, _, ⟨c2, r, e, h2, t⟩ => by
    rw [e]
    exact mk2_3 c2 _ rfl h2 (Trip.snoc h t)
def addp (ps : List Pos) (p : Pos) : List Pos := if (ps.any fun q => samePos q p) = true then ps else ps ++ [p]
section
variable {w : World} {A : Around} {F : Fm} {K K' : Heap} {env : Env} {s : Shared} {pos : Pos} {pre post : Led} {P c : Addr} {ps : Array Value} {xs : List Pos} {params : Arguments} {body : PySem.Expr} {scope : Scope} {clos : List (Str × Addr)} {q : Str} {B0 : Heap}
theorem evx_lam (hmu : F.mu = pre ++ (P, tabObj ps) :: post) (gt : GT w B0) (sB : Sub B0 F.B) (cd : CodeHd B0 c P) (tr : Trip q xs ps.toList K) (hq : env.qual ++ "<lambda>" = q) (hdef : defaultsOf params env = ([], []) := by rfl) (hcode : env.code = .ref c := by rfl) (hge : env.globals = mainGlobals := by rfl) (hcl : closureFor scope env = pure clos := by rfl) :
    EvX w A F K env (.Lambda params body scope pos) fun v mu' K' => ∃ wa ps' c' pm ctv, v = .ref wa ∧ mu' = pre ++ (P, tabObj ps') :: post ∧ Trip q (addp xs pos) ps'.toList K' ∧ K'.get? wa = some (kla_obj "<lambda>" q params body scope clos pm c' ctv) ∧ K'.CodeRec (.ref c') q := fun s st => by
  (refine ob5_1 gt.T fun pg loose mean mg mb T => ?_)
  have T' := T.keeps (sB.trans st.base)
  have hm : (P, tabObj ps) ∈ F.mu := by rw [hmu]; exact List.mem_append_right _ (.head _)
  have hP := st.mus _ hm
  have hgs := T'.g
  (refine ob2_1 T'.bmain fun bm ob q_408 => ob0_6 q_408 fun b1 b2 b3 b4 b5 b6 => ?_)
  have hgP : mainGlobals ≠ P := fun q => by
    (refine ob3_3 hgs fun o es ep e hd _ => ?_; try clear hgs)
    rw [q, hP] at e; obtain rfl := Option.some.inj e; cases hd
  have hbP : bm ≠ P := fun q => by
    rw [q, hP] at b3; obtain rfl := Option.some.inj b3; cases b4
  have hbG : bm ≠ mainGlobals := fun q => by
    (refine ob3_3 hgs fun o es ep e hd _ => ?_; try clear hgs)
    rw [q, e] at b3; obtain rfl := Option.some.inj b3; rw [hd] at b6; cases b6
  have hidl : ∀ b ∈ F.hid, b < s.heap.objs.size := fun b hb => by
    (refine ob1_1 (st.lives b hb) fun o e => ?_)
    exact Heap.lt_size e
  refine kla_eval hdef ?_
  rw [hq]
  cases hx : xs.any fun p => samePos p pos with
  | false =>
    refine kla_makeFunction (mg := mg) (clos := clos) hcl hge hgs hcode (cd.keeps (sB.trans st.base)) hP tr.ok (tr.none hx) hgP ⟨bm, ob, b1, b2, hbG, hbP, b3, b4, b5, b6⟩ fun c' ctv h' tk hx' hge' hlt hrec htb => ?_
    have hkeep : ∀ b ob, b ≠ P → s.heap.get? b = some ob → (h'.push (kla_obj "<lambda>" q params body scope clos ((mg "__name__").getD .none) c' ctv)).get? b = some ob := fun b ob hb e => Heap.get?_push_of_some _ (hx' b ob hb e)
    have st2 := (st.setMu (tk := tk) hmu (Heap.get?_push_of_some _ htb) hkeep).know
    have hsz : s.heap.objs.size ≤ h'.objs.size := Nat.le_trans hge' (Nat.le_of_lt hlt)
    have eh : Fm.hid { F with mu := pre ++ (P, tabObj (ps ++ #[rawInt pos.line, rawInt pos.col, .ref c'])) :: post } = F.hid := by
      show F.L :: ((pre ++ (P, _) :: post).map (·.1) ++ F.H) = F.L :: (F.mu.map (·.1) ++ F.H)
      rw [hmu]; simp
    rw [eh] at st2
    have hcr : (hideAll (h'.push (kla_obj "<lambda>" q params body scope clos ((mg "__name__").getD .none) c' ctv)) F.hid).CodeRec (.ref c') q := by
      (refine ob4_3 hrec fun c2 o vs t e h r => ?_; try clear hrec)
      cases e
      exact mk4_1 c' o vs t ⟨rfl, hideAll_get _ (Heap.get?_push_of_some _ h) fun m => absurd (hidl _ m) (Nat.not_lt.mpr hge'), r⟩
    have sK : Sub K (hideAll (h'.push (kla_obj "<lambda>" q params body scope clos ((mg "__name__").getD .none) c' ctv)) F.hid) := fun b ob e => hideAll_get _ (hkeep b ob (fun z => by
      have hPh : P ∈ F.hid := .tail _ (List.mem_append_left _ (List.mem_map_of_mem (f := (·.1)) hm))
      rw [z, st.out P hPh] at e; exact nos e) (st.sub _ _ e)) fun m => by rw [st.out b m] at e; exact nos e
    refine ⟨_, _, sK, st2, h'.objs.size, _, c', _, ctv, rfl, rfl, ?_, hideAll_get _ (Heap.get?_push_size _ rfl) fun m => absurd (hidl _ m) (Nat.not_lt.mpr hsz), hcr⟩
    unfold addp
    rw [hx, if_neg (by decide), Array.toList_append]
    exact Trip.snoc hcr (tr.mono sK)
  | true =>
    (refine ob1_2 (tr.hit hx) fun c' hc' hr => ?_)
    refine kla_makeFunctionHit (mg := mg) (clos := clos) hcl hge hgs hcode (cd.keeps (sB.trans st.base)) hP tr.ok hc' ⟨bm, ob, b1, b2, hbG, hbP, b3, b4, b5, b6⟩ fun ctv h' tk hk hsz => ?_
    have kp : Kp s { s with heap := h'.push { cls := .type "function", data := .func (kla_fn "<lambda>" q params body scope clos ((mg "__name__").getD .none) (.ref c') ctv) }, toks := tk } := keeps_with fun b o e => Heap.get?_push_of_some _ (hk b o e)
    have sK := st.in.trans (sub_hide kp.sub)
    refine ⟨F.mu, _, sK, st.up kp, h'.objs.size, ps, c', _, ctv, rfl, hmu, ?_, hideAll_get _ (Heap.get?_push_size _ rfl) fun m => absurd (hidl _ m) (Nat.not_lt.mpr hsz), codeRec_mono sK hr⟩
    unfold addp
    rw [hx, if_pos rfl]
    exact tr.mono sK
end
section
variable {w : World} {F : Fm} {K : Heap} {env : Env} {outer : List Env} {mA fr : Led} {B0 : Heap} {P : KP Value} {d u : Nat} {gd : Option (List Code)} {f : Value} {vs : List Value}
theorem callx_raw (hmu : F.mu = mA ++ fr) (fo : FrOk outer fr) (hf : env.frame = some F.L) (hk : env.scope.kind ≠ .module) (gt : GT w B0) (sB : Sub B0 F.B)
    (q : ∀ s base, St w F K s → Below (Ar d u (env :: outer) gd) base (env :: outer) s.heap → GT w base → Sub K base → (∀ b o, s.heap.get? b = some o → b ∉ F.L :: fr.map (·.1) → base.get? b = some o) → base = hideAll s.heap (F.L :: fr.map (·.1)) →
      wpAny (model PR w) (Ar d u (env :: outer) gd) (call f vs) (fun v s' => ∃ h' tk, s' = { s with heap := h', toks := tk } ∧ base.StaysIn h' ∧ s.heap.UpToSlots h' ∧ P.p (hideAll h' F.hid) v) (fun _ _ => False) s) :
    CallX w (Ar d u (env :: outer) gd) F K f vs fun v mu' K' => ∃ fr', Fr2 fr fr' ∧ mu' = mA ++ fr' ∧ P.p K' v := fun s st => by
  have hm : ∀ r ∈ fr, r ∈ F.mu := fun r hr => by rw [hmu]; exact List.mem_append_right _ hr
  have outK : ∀ b ∈ F.L :: fr.map (·.1), b ∈ F.hid := fun b hb => by
    rcases List.mem_cons.mp hb with rfl | hb
    · exact .head _
    · (refine ob1_2 (List.mem_map.mp hb) fun r hr e_409 => ?_; subst e_409)
      exact .tail _ (List.mem_append_left _ (List.mem_map_of_mem (f := (·.1)) (hm r hr)))
  have sBs : Sub F.B (hideAll s.heap (F.L :: fr.map (·.1))) := sub_into st.base fun b hb => by
    rcases List.mem_cons.mp hb with rfl | hb
    · exact st.bL
    · (refine ob1_2 (List.mem_map.mp hb) fun r hr e_410 => ?_; subst e_410)
      exact st.bmu r (hm r hr)
  have gB : GT w (hideAll s.heap (F.L :: fr.map (·.1))) := ⟨gt.X.keeps (sB.trans sBs), let ⟨p, l, m, a, b, T⟩ := gt.T; ⟨p, l, m, a, b, T.keeps (sB.trans sBs)⟩⟩
  refine wpAny_mono (q s _ st ⟨rfl, hide_sub, .cons hk hf st.ns (hideAll_none _ (.head _)) (fo.fun fun r hr => ⟨st.mus r (hm r hr), hideAll_none _ (.tail _ (List.mem_map_of_mem (f := (·.1)) hr))⟩)⟩ gB (sub_into st.sub fun b hb => st.out b (outK b hb)) (fun b o e hb => hideAll_get _ e hb) rfl) (fun v s' h => ?_) fun _ _ y => y
  (refine ob2_4 h fun h' tk e_411 h1 h2 h3 => ?_; try clear h; subst e_411)
  (refine ob1_3 (st.slots (tk := tk) hmu fo h1 h2) fun fr' a b c => ?_)
  exact ⟨mA ++ fr', _, c, b, fr', a, rfl, h3⟩
end
noncomputable def liveNot (h K : Heap) : List Addr := (List.range h.objs.size).filter fun b => (h.get? b).isSome && (K.get? b).isNone
theorem liveNot_mem {h K : Heap} {b : Addr} : b ∈ liveNot h K ↔ (∃ o, h.get? b = some o) ∧ K.get? b = none := by
  unfold liveNot
  rw [List.mem_filter, List.mem_range]
  constructor
  · (intro o_412; (refine ob0_2 o_412 fun _ e => ?_; try clear o_412))
    rw [Bool.and_eq_true, Option.isSome_iff_exists, Option.isNone_iff_eq_none] at e
    exact e
  · (intro o_413; (refine ob0_2 o_413 fun o_414 n => ?_; try clear o_413; (refine ob1_1 o_414 fun o e => ?_; try clear o_414)))
    exact ⟨Heap.lt_size e, by rw [e, n]; rfl⟩
def kHe (place : Int) (P : KP Value) : KP Value := ⟨fun h v => (place = 0 ∧ P.p h v) ∨ (place ≠ 0 ∧ (kd (.tuple [.str (Str.ofString "fault"), .int place])).p h v), fun k x => x.imp (fun y => ⟨y.1, P.mono k y.2⟩) fun y => ⟨y.1, (kd _).mono k y.2⟩⟩
theorem fault_kd {h : Heap} {D : Addr} {k : Int} {t t' : Tok} (e : h.get? D = some (faultO k t t')) : (kd (.tuple [.str (Str.ofString "fault"), .int k])).p h (.ref D) :=
  tup_kd (ds := [.str (Str.ofString "fault"), .int k]) ⟨D, _, _, 0, rfl, e, rfl, rfl, .cons is_str (.cons is_int .nil)⟩
section
variable {w : World} {F : Fm} {K : Heap} {env : Env} {outer : List Env} {mA fr : Led} {B0 : Heap} {d u : Nat} {gd : Option (List Code)} {wa : Addr} {q0 q1 q2 q3 q4 : Pos} {v0 v1 v2 v3 v4 : Value}
  {N D : List (Str × Int)} {C : List (Int × Str)} {M : List Str} {R : List PyData} {f : KP Value} {x : Str} {co : Option Int} {wd : Int} {mk : Bool}
theorem heard_glyph (hmu : F.mu = mA ++ fr) (fo : FrOk outer fr) (hf : env.frame = some F.L) (hk : env.scope.kind ≠ .module) (gt : GT w B0) (sB : Sub B0 F.B) (hd : d ≤ 780) (hu : u ≤ 700)
    (I : ∀ s, St w F K s → IsLam s.heap wa (Str.ofString "with_glyph") (Str.ofString "bench", q0, v0) [(Str.ofString "name", q1, v1), (Str.ofString "code", q2, v2), (Str.ofString "width", q3, v3), (Str.ofString "is_mark", q4, v4)])
    (hv : (KPs [kB w (sI N) (iS C) (sI D) (M.map .str) R f, kd (.str x), kd (optI co), kd (.int wd), kd (.bool mk)]).p K [v0, v1, v2, v3, v4])
    (hx0 : PyData.strOk x = true) (hxz : x.length ≤ 1000) (zN : N.length ≤ 900) (zC : C.length ≤ 900) (zD : D.length ≤ 900) (zM : M.length ≤ 900) (hN0 : N ≠ []) (hDN : look N x = none → look D x = none) :
    CallX w (Ar d u (env :: outer) gd) F K (.ref 396) [.ref wa] fun v mu' K' => ∃ fr', Fr2 fr fr' ∧ mu' = mA ++ fr' ∧ (kHe (placeOf N C x co) (kB w (sI (N ++ [(x, maxI (N.map (·.2)) + 1)])) (iS (putC C x co)) (sI (D ++ [(x, wd)])) ((M ++ if mk then [x] else []).map .str) R (kd .none))).p K' v := by
  refine callx_raw hmu fo hf hk gt sB fun s base st B gb sKb hbb eb => ?_
  (refine ob5_1 gb.T fun pg loose mean mg mb T => ?_)
  have hsub : Sub K s.heap := st.sub
  generalize hP : kB w (sI (N ++ [(x, maxI (N.map (·.2)) + 1)])) (iS (putC C x co)) (sI (D ++ [(x, wd)])) ((M ++ if mk then [x] else []).map .str) R (kd .none) = P
  refine heard_lam (fa := 121) (k := placeOf N C x co) (Bad := placeOf N C x co ≠ 0) (G := fun h0 v h1 => placeOf N C x co = 0 ∧ (Sub (hideAll s.heap F.hid) h0 → ∃ K', Sub K' h1 ∧ P.p K' v ∧ ∀ b, (∃ o, h0.get? b = some o) → (hideAll s.heap F.hid).get? b = none → K'.get? b = none)) B gb.X T (by omega) (by omega) (I s st) (by k_is) (by k_is) (by decide) ?hG ?hG0 ?hcall ?ret ?exc
  case hG =>
    (intro h0 h0' v h1 h2 L k1 o_415 hL' k2 o_416; (refine ob1_1 o_415 fun oL hL => ?_; try clear o_415); (refine ob0_2 o_416 fun g1 g2 => ?_; try clear o_416))
    refine ⟨g1, fun sk => ?_⟩
    (refine ob1_3 (g2 (sk.trans k1)) fun K' a b c => ?_)
    have hLK : (hideAll s.heap F.hid).get? L = none := none_of_sub sk hL'
    refine mk1_3 K' (fun b' o q => k2 b' o (fun z => ?_) (a b' o q)) b (fun b' ⟨o, q⟩ n => c b' ⟨o, k1 _ _ q⟩ n)
    rw [z, c L ⟨oL, hL⟩ hLK] at q; exact nos q
  case hG0 =>
    (intro h0 h0' v h1 k1 o_417; (refine ob0_2 o_417 fun g1 g2 => ?_; try clear o_417))
    refine ⟨g1, fun sk => ?_⟩
    (refine ob1_3 (g2 (sk.trans k1)) fun K' a b c => ?_)
    exact mk1_3 K' a b (fun b' ⟨o, q⟩ n => c b' ⟨o, k1 _ _ q⟩ n)
  case hcall =>
    intro d1 u1 o1 b4 h1 tk Q' E' l1 l2 B4 hb4 hk4 r1 r2
    have hl : Live (liveNot h1 (hideAll s.heap F.hid)) h1 := fun b hb => (liveNot_mem.mp hb).1
    have sKK : Sub (hideAll s.heap F.hid) (hideAll h1 (liveNot h1 (hideAll s.heap F.hid))) := fun b o q => hideAll_get _ (hk4 _ _ (hide_sub _ _ q)) fun m => by
      rw [(liveNot_mem.mp m).2] at q; exact nos q
    refine with_glyph_spec (H := liveNot h1 (hideAll s.heap F.hid)) (s := { s with heap := h1, toks := tk }) B4 (gb.X.keeps hb4) (T.keeps hb4) rfl (show d1 ≤ 800 by omega) (show u1 ≤ 800 by omega) hl ((KPs _).mono (st.in.trans sKK) hv) hx0 hxz zN zC zD zM hN0 hDN (fun hp v s' kp pv => ?_) (fun hp e h' tk' R U => ?_)
    · (refine ob2_2 kp fun h' tk' e_418 k5 => ?_; try clear kp; subst e_418)
      refine r1 v h' tk' ⟨hp, fun _ => ⟨_, hide_sub, hP ▸ pv, fun b hb n => hideAll_none _ (liveNot_mem.mpr ⟨hb, n⟩)⟩⟩ k5
    · exact r2 e h' tk' hp R U
  case ret =>
    (intro v h' tk' o_419 kk; (refine ob0_2 o_419 fun g1 g2 => ?_; try clear o_419))
    (refine ob1_3 (g2 hide_sub) fun K' a b c => ?_)
    refine mk2_4 h' tk' rfl (fun b o q => kk b o (B.stays b o q)) (Heap.UpToSlots.of_keeps kk) (.inl ⟨g1, P.mono (sub_into a fun b hb => c b (st.lives b hb) (hideAll_none _ hb)) b⟩)
  case exc =>
    intro hb D t t' h' tk' a1 a2 a3 a4
    refine mk2_4 h' tk' rfl a1 a2 (.inr ⟨hb, fault_kd (hideAll_get _ a4 fun m => ?_)⟩)
    (refine ob1_1 (st.lives D m) fun o e => ?_)
    rw [a3] at e; exact nos e
end
def qG : Str := Str.ofString "_law_grown.<locals>.<lambda>"
def T427 (ps : Array Value) (h : Heap) : Prop := ∃ xs, Trip qG xs ps.toList h
theorem T427.mono {ps : Array Value} {h h' : Heap} (k : Sub h h') (x : T427 ps h) : T427 ps h' := let ⟨xs, t⟩ := x; ⟨xs, t.mono k⟩
structure Dy (w : World) (B0 : Heap) (p c : Addr) (outer : List Env) (fr : Led) (ps : Array Value) (H : List Addr) (o : Obj) (k : Nat) (s : Shared) : Prop where
  fo : FrOk outer fr
  hp : p ∈ H
  ht : (427 : Addr) ∈ H
  hf : ∀ q ∈ fr, q.1 ∈ H
  l : Live H s.heap
  op : s.heap.get? p = some o
  ot : s.heap.get? 427 = some (tabObj ps)
  of : ∀ q ∈ fr, s.heap.get? q.1 = some q.2
  nd : (p :: 427 :: fr.map (·.1)).Nodup
  S : PenS w B0 (427 :: fr.map (·.1)) p c s.heap
  b4 : B0.get? 427 = none
  bf : ∀ q ∈ fr, B0.get? q.1 = none
  cd : CodeHd B0 431 427
  D : PenD c o k
  T : T427 ps (hideAll s.heap H)
def OutX (s : Shared) (p c : Addr) (H : List Addr) (fr : Led) (k : Nat) (P : KP Value) (v : Value) (s' : Shared) : Prop :=
  ∃ o' fr' ps', Rl s s' ∧ (∀ b ob, b ∉ p :: 427 :: fr.map (·.1) → s.heap.get? b = some ob → s'.heap.get? b = some ob) ∧ s'.heap.get? p = some o' ∧ s'.heap.get? 427 = some (tabObj ps') ∧ Fr2 fr fr' ∧ (∀ q ∈ fr', s'.heap.get? q.1 = some q.2) ∧ PenD c o' k ∧ T427 ps' (hideAll s'.heap H) ∧ P.p (hideAll s'.heap H) v
def OnX (w : World) (n : Nat) (f : Value) (d : Nat) (Ps : List (KP Value)) (P : KP Value) : Prop :=
  ∀ A B0 s p c o k H vs outer fr ps, A.handled = none → A.frames = some outer → A.depth ≤ n → A.units ≤ n → Dy w B0 p c outer fr ps H o k s → k + d ≤ 10000 → (KPs Ps).p (hideAll s.heap H) vs →
    wpAny (model PR w) A (call f (.ref p :: vs)) (OutX s p c H fr (k + d) P) (fun _ _ => False) s
section
variable {w : World} {A : Around} {s : Shared} {H : List Addr} {P : KP Value} {p c : Addr} {o : Obj} {k kt : Nat} {B0 : Heap} {outer : List Env} {fr : Led} {ps : Array Value}
  {name qual : Str} {params : Arguments} {body : List Stmt} {scope : Scope} {dV kV doc pm cdv ct oc : Value} {an od : Option Addr} {osl : Array (Option Value)} {f : Addr} {vs : List Value} {binds : List (Str × Value)}
theorem Dy.sB (D : Dy w B0 p c outer fr ps H o k s) : Sub B0 (hideAll s.heap (p :: 427 :: fr.map (·.1))) := sub_into D.S.sub fun b hb => by
  rcases List.mem_cons.mp hb with rfl | hb
  · exact D.S.bp
  rcases List.mem_cons.mp hb with rfl | hb
  · exact D.b4
  · (refine ob1_2 (List.mem_map.mp hb) fun q hq e_420 => ?_; subst e_420)
    exact D.bf q hq
theorem Dy.SB (D : Dy w B0 p c outer fr ps H o k s) : PenS w B0 (427 :: fr.map (·.1)) p c (hideAll s.heap (p :: 427 :: fr.map (·.1))) := by
  have sB := D.sB
  obtain ⟨gt, sub, bp, bc, ne, nX, us, ns, nc, hc, hi⟩ := D.S
  exact ⟨gt, sB, bp, bc, ne, nX, us, ns, nc, hideAll_get _ hc fun hm => by
    rcases List.mem_cons.mp hm with hm | hm
    · exact ne hm
    · exact nX hm, hi⟩
theorem fn_enterX (D : Dy w B0 p c outer fr ps H o k s)
    (ho : (Mine.hd.heap_39 w.params).lookup f = some ⟨oc, od, .func (fnX name qual params body scope [] dV kV doc pm an cdv ct), osl⟩) (hcd : codeIn (Mine.hd.heap_39 w.params) cdv qual = true) (hroom : A.depth < recursionLimit)
    (hbind : BindsTo s (fnX name qual params body scope [] dV kV doc pm an cdv ct) ⟨vs, []⟩ binds)
    (hkind : (binds.all fun y => scope.names.lookup y.1 == some .local || scope.names.lookup y.1 == some .cell) = true)
    (hnd : ((cellsFrom 0 scope.names []).map (·.1)).Nodup)
    (h : ∀ L cells, CellsAre (bindC (envOfC qual scope L f cdv).kindOf binds fun _ => none) (cellsFrom (L + 1) scope.names []) cells →
      Run w (A.deeper (envOfC qual scope L f cdv)) (envOfC qual scope L f cdv) (Fm.pen ⟨s, hideAll s.heap (p :: 427 :: fr.map (·.1)), H, L, bindL (envOfC qual scope L f cdv).kindOf binds fun _ => none, cells ++ (427, tabObj ps) :: fr⟩ p o) (hideAll s.heap H) body (fun fl s' => OutX s p c H fr kt P (retOf fl) s') fun _ _ => False)
    (hco : scope.isCoroutine = false := by rfl) (hgen : scope.isGenerator = false := by rfl) (hk : scope.kind = .function := by rfl) :
    wpAny (model PR w) A (call (.ref f) vs) (OutX s p c H fr kt P) (fun _ _ => False) s := by
  refine wpAny_call (fn_enterG (B := hideAll s.heap (p :: 427 :: fr.map (·.1))) (K := hideAll s.heap H) (mu0 := (p, o) :: (427, tabObj ps) :: fr) (D.S.gt.g.mono D.sB) hide_sub hide_sub D.l (fun q hq => ?_) (fun b hb => hideAll_none _ hb) D.nd ho hcd hroom hbind hkind hnd (fun L cells hL _ _ Y s1 st => ?_) hco hgen hk)
  · have hin : q.1 ∈ p :: 427 :: fr.map (·.1) := List.mem_map_of_mem (f := (·.1)) hq
    rcases List.mem_cons.mp hq with rfl | hq
    · exact mk0_3 D.op (hideAll_none _ hin) (hideAll_none _ D.hp)
    rcases List.mem_cons.mp hq with rfl | hq
    · exact mk0_3 D.ot (hideAll_none _ hin) (hideAll_none _ D.ht)
    · exact mk0_3 (D.of q hq) (hideAll_none _ hin) (hideAll_none _ (D.hf q hq))
  · refine wpAny_mono (h L cells Y s1 (st.perm List.perm_middle)) (fun fl s' q => q) fun _ _ q => q.elim
theorem outx_of {B : Heap} {L : Addr} {m : Str → Option Value} {own fr' : Led} {ps' : Array Value} {K' : Heap} {v : Value} {o' : Obj} {s' : Shared} (hB : B = hideAll s.heap (p :: 427 :: fr.map (·.1))) (st : St w (Fm.pen ⟨s, B, H, L, m, own ++ (427, tabObj ps') :: fr'⟩ p o') K' s') (hp : PenD c o' kt) (a : Fr2 fr fr') (t : T427 ps' K') (hv : P.p K' v) : OutX s p c H fr kt P v s' := by
  have sK : Sub K' (hideAll s'.heap H) := sub_into st.sub fun b hb => st.out b (.tail _ (List.mem_append_right _ hb))
  have m1 : ∀ q ∈ (427, tabObj ps') :: fr', q ∈ (p, o') :: (own ++ (427, tabObj ps') :: fr') := fun q hq => .tail _ (List.mem_append_right _ hq)
  exact ⟨o', fr', ps', st.rl, fun b ob hb q => st.base b ob (by
    show B.get? b = some ob
    rw [hB]; exact hideAll_get _ q hb), st.mus _ (.head _), st.mus _ (m1 _ (.head _)), a, fun q hq => st.mus q (m1 q (.tail _ hq)), hp, t.mono sK, P.mono sK hv⟩
end
section
variable {w : World} {s0 : Shared} {B : Heap} {H : List Addr} {L : Addr} {m : Str → Option Value} {own fr : Led} {ps : Array Value} {p c : Addr} {o : Obj} {K : Heap} {d u n dd k : Nat} {gd : Option (List Code)} {env : Env} {outer : List Env} {f : Value} {Ps : List (KP Value)} {P : KP Value} {vs : List Value} {B0 : Heap}
theorem callx_on (q : OnX w n f dd Ps P) (hd : d ≤ n) (hu : u ≤ n) (fo : FrOk outer fr) (hf : env.frame = some L) (hk : env.scope.kind ≠ .module) (S : PenS w B0 (427 :: fr.map (·.1)) p c B) (b4 : B0.get? 427 = none) (bf : ∀ q ∈ fr, B0.get? q.1 = none) (cd : CodeHd B0 431 427) (D : PenD c o k) (hkd : k + dd ≤ 10000) (T : T427 ps K) (hv : (KPs Ps).p K vs) :
    CallX w (Ar d u (env :: outer) gd) (Fm.pen ⟨s0, B, H, L, m, own ++ (427, tabObj ps) :: fr⟩ p o) K f (.ref p :: vs) fun v mu' K' => ∃ o' fr' ps', mu' = (p, o') :: (own ++ (427, tabObj ps') :: fr') ∧ Fr2 fr fr' ∧ PenD c o' (k + dd) ∧ T427 ps' K' ∧ P.p K' v := fun s st => by
  (refine ob3_3 st.ns fun oL es ep hoL hdL hrL => ?_)
  have hbL : B.get? L = none := st.bL
  have hm : ∀ q ∈ (427, tabObj ps) :: fr, q ∈ (p, o) :: (own ++ (427, tabObj ps) :: fr) := fun q hq => .tail _ (List.mem_append_right _ hq)
  have hin : ∀ {r : Addr × Obj} {mu : Led}, r ∈ mu → r.1 ∈ L :: (mu.map (·.1) ++ H) := fun h => .tail _ (List.mem_append_left _ (List.mem_map_of_mem (f := (·.1)) h))
  have hs2 : Sub K (hideAll s.heap (Fm.hid (Fm.pen ⟨s0, B, H, L, m, own ++ (427, tabObj ps) :: fr⟩ p o))) := st.in
  have nd := st.mnd
  change (p :: (own ++ (427, tabObj ps) :: fr).map (·.1)).Nodup at nd
  rw [List.nodup_cons, List.map_append, List.nodup_append] at nd
  have nd2 : (p :: 427 :: L :: fr.map (·.1)).Nodup := by
    have h3 := nd.2.2.1
    change (427 :: fr.map (·.1)).Nodup at h3
    rw [List.nodup_cons] at h3
    have hLp : p ≠ L := st.muL (p, o) (.head _)
    have hL4 : (427 : Addr) ≠ L := st.muL (427, tabObj ps) (hm _ (.head _))
    have hLf : L ∉ fr.map (·.1) := fun hx => by
      (refine ob1_2 (List.mem_map.mp hx) fun r hr e => ?_)
      exact st.muL r (hm _ (.tail _ hr)) e
    rw [List.nodup_cons, List.nodup_cons, List.nodup_cons]
    refine mk0_4 (fun hx => ?_) (fun hx => ?_) hLf h3.2
    · rcases List.mem_cons.mp hx with rfl | hx
      · exact nd.1 (List.mem_append_right _ (.head _))
      rcases List.mem_cons.mp hx with e | hx
      · exact hLp e
      · exact nd.1 (List.mem_append_right _ (.tail _ hx))
    · rcases List.mem_cons.mp hx with e | hx
      · exact hL4 e
      · exact h3.1 hx
  have S2 : PenS w B0 (427 :: L :: fr.map (·.1)) p c s.heap := by
    obtain ⟨gt, sub, bp, bc, ne, nX, us, ns, nc, hc, hi⟩ := S
    refine ⟨gt, sub.trans st.base, bp, bc, ne, fun hx => ?_, us, ns, nc, st.base _ _ hc, hi⟩
    rcases List.mem_cons.mp hx with e | hx
    · exact nX (e ▸ .head _)
    rcases List.mem_cons.mp hx with e | hx
    · rw [e, hbL] at hc; exact nos hc
    · exact nX (.tail _ hx)
  have Dd : Dy w B0 p c (env :: outer) ((L, oL) :: fr) ps (Fm.hid (Fm.pen ⟨s0, B, H, L, m, own ++ (427, tabObj ps) :: fr⟩ p o)) o k s := by
    refine ⟨.cons ⟨hk, hf, fun vs e => ?_⟩ fo, hin (.head _), hin (r := (427, tabObj ps)) (hm _ (.head _)), fun r hr => ?_, st.lives, st.mus (p, o) (.head _), st.mus (427, tabObj ps) (hm _ (.head _)), fun r hr => ?_, nd2, S2, b4, fun r hr => ?_, cd, D, T.mono hs2⟩
    · have e : oL.data = .fields vs := e
      rw [hdL] at e; cases e
    · rcases List.mem_cons.mp hr with rfl | hr
      · exact .head _
      · exact hin (hm _ (.tail _ hr))
    · rcases List.mem_cons.mp hr with rfl | hr
      · exact hoL
      · exact st.mus r (hm _ (.tail _ hr))
    · rcases List.mem_cons.mp hr with rfl | hr
      · exact none_of_sub S.sub hbL
      · exact bf r hr
  refine wpAny_mono (q (Ar d u (env :: outer) gd) B0 s p c o k _ vs (env :: outer) ((L, oL) :: fr) ps rfl rfl hd hu Dd hkd ((KPs Ps).mono hs2 hv)) (fun v s' y => ?_) fun _ _ y => y
  (refine ob3_1 y fun o' fr2 ps' q_421 => ob0_9 q_421 fun r1 r2 r3 r4 r5 r6 r7 r8 r9 => ?_; try clear y)
  (refine all2_1c r5 fun qL fr' e_424 o_422 r_423 => ?_; clear r5; subst e_424; revert r_423; intro r5; obtain ⟨e1, sl, e2⟩ := o_422)
  have gL : s'.heap.get? L = some { oL with slots := sl } := by
    have := r6 qL (.head _)
    rw [e1, e2] at this
    exact this
  have adr : ((p, o') :: (own ++ (427, tabObj ps') :: fr')).map (·.1) = ((p, o) :: (own ++ (427, tabObj ps) :: fr)).map (·.1) := by simp [Fr2.addr r5]
  have keep : ∀ {Dm : Heap}, Sub Dm s.heap → (∀ b ∈ p :: 427 :: L :: fr.map (·.1), Dm.get? b = none) → Sub Dm s'.heap := fun {Dm} h1 h2 b ob e => r2 b ob (fun hx => by rw [h2 b hx] at e; exact nos e) (h1 b ob e)
  have dirty : ∀ b ∈ p :: 427 :: L :: fr.map (·.1), b = L ∨ ∃ q, q ∈ (p, o) :: (own ++ (427, tabObj ps) :: fr) ∧ q.1 = b := fun b hb => by
    rcases List.mem_cons.mp hb with rfl | hb
    · exact .inr ⟨_, .head _, rfl⟩
    rcases List.mem_cons.mp hb with rfl | hb
    · exact .inr ⟨_, hm (427, tabObj ps) (.head _), rfl⟩
    rcases List.mem_cons.mp hb with rfl | hb
    · exact .inl rfl
    · (refine ob1_2 (List.mem_map.mp hb) fun r hr e => ?_)
      exact .inr ⟨r, hm _ (.tail _ hr), e⟩
  have of_mu : ∀ {Z : Addr → Prop}, (∀ q ∈ (p, o) :: (own ++ (427, tabObj ps) :: fr), Z q.1) → ∀ q ∈ (p, o') :: (own ++ (427, tabObj ps') :: fr'), Z q.1 := fun {Z} h q hq => by
    have : q.1 ∈ ((p, o) :: (own ++ (427, tabObj ps) :: fr)).map (·.1) := by rw [← adr]; exact List.mem_map_of_mem (f := (·.1)) hq
    (refine ob1_2 (List.mem_map.mp this) fun r hr e => ?_)
    rw [← e]; exact h r hr
  have kB : Sub B s'.heap := keep st.base fun b hb => by
    rcases dirty b hb with rfl | ⟨r, hr, rfl⟩
    · exact hbL
    · exact st.bmu r hr
  have kK : Sub K s'.heap := keep st.sub fun b hb => by
    rcases dirty b hb with rfl | ⟨r, hr, rfl⟩
    · exact st.out _ (.head _)
    · exact st.out _ (hin hr)
  refine ⟨(p, o') :: (own ++ (427, tabObj ps') :: fr'), hideAll s'.heap (Fm.hid (Fm.pen ⟨s0, B, H, L, m, own ++ (427, tabObj ps) :: fr⟩ p o)), sub_into kK st.out, ⟨st.g, st.rl.trans r1, kB, hide_sub, ⟨_, es, ep, gL, hdL, hrL⟩, fun r hr => ?_, fun b hb => ?_, fun b hb => hideAll_none _ ?_, hbL, of_mu (Z := fun b => B.get? b = none) st.bmu, of_mu (Z := fun b => b ≠ L) st.muL, by
    show (((p, o') :: (own ++ (427, tabObj ps') :: fr')).map (·.1)).Nodup
    rw [adr]; exact st.mnd⟩, o', fr', ps', rfl, r5, r7, r8, r9⟩
  · rcases List.mem_cons.mp hr with rfl | hr
    · exact r3
    rcases List.mem_append.mp hr with hr | hr
    · refine r2 _ _ (fun hx => ?_) (st.mus r (.tail _ (List.mem_append_left _ hr)))
      have hro : r.1 ∈ own.map (·.1) := List.mem_map_of_mem (f := (·.1)) hr
      rcases List.mem_cons.mp hx with e | hx
      · exact nd.1 (e ▸ List.mem_append_left _ hro)
      rcases List.mem_cons.mp hx with e | hx
      · exact nd.2.2.2 _ hro 427 (.head _) e
      rcases List.mem_cons.mp hx with e | hx
      · exact st.muL r (.tail _ (List.mem_append_left _ hr)) e
      · exact nd.2.2.2 _ hro _ (.tail _ hx) rfl
    rcases List.mem_cons.mp hr with rfl | hr
    · exact r4
    · exact r6 r (.tail _ hr)
  · by_cases hx : b ∈ p :: 427 :: L :: fr.map (·.1)
    · rcases List.mem_cons.mp hx with rfl | hx
      · exact ⟨_, r3⟩
      rcases List.mem_cons.mp hx with rfl | hx
      · exact ⟨_, r4⟩
      rcases List.mem_cons.mp hx with rfl | hx
      · exact ⟨_, gL⟩
      · rw [← Fr2.addr r5] at hx
        (refine ob1_2 (List.mem_map.mp hx) fun r hr e_425 => ?_; subst e_425)
        exact ⟨_, r6 r (.tail _ hr)⟩
    · (refine ob1_1 (st.live b hb) fun ob e => ?_)
      exact ⟨ob, r2 b ob hx e⟩
  · have e : Fm.hid ((Fm.pen ⟨s0, B, H, L, m, own ++ (427, tabObj ps) :: fr⟩ p o).with ((p, o') :: (own ++ (427, tabObj ps') :: fr'))) = Fm.hid (Fm.pen ⟨s0, B, H, L, m, own ++ (427, tabObj ps) :: fr⟩ p o) := by
      show L :: (((p, o') :: (own ++ (427, tabObj ps') :: fr')).map (·.1) ++ H) = L :: (((p, o) :: (own ++ (427, tabObj ps) :: fr)).map (·.1) ++ H)
      rw [adr]
    rw [← e]; exact hb
end
def kFt (w : World) (b : Bool) : KP Value := if b then kd .none else ⟨fun h v => ∃ C, (kFont w C).p h v, fun k ⟨C, x⟩ => ⟨C, (kFont w C).mono k x⟩⟩
theorem handed_ft {w : World} {b : Bool} : Handed (kFt w b) := by
  cases b with
  | true => exact handed_kd
  | false => exact fun h v ⟨C, x⟩ => handed_inst h v x
theorem pn_ft {w : World} {b : Bool} : plainNone (kFt w b) b := by
  cases b with
  | true => exact pn_none
  | false => exact fun h v ⟨C, x⟩ => pn_inst h v x
theorem kB_font {w : World} {N C D M R} {f f' : KP Value} (hf : ∀ h v, f.p h v → f'.p h v) {h : Heap} {v : Value} (x : (kB w N C D M R f).p h v) : (kB w N C D M R f').p h v := by
  (refine ob4_4 x fun a dx es n e h1 h2 q => ?_; try clear x)
  refine mk4_1 a dx es n ⟨e, h1, h2, ?_⟩
  rcases q with _ | ⟨q1, _ | ⟨q2, _ | ⟨q3, _ | ⟨q4, _ | ⟨q5, _ | ⟨q6, q7⟩⟩⟩⟩⟩⟩
  exact .cons q1 (.cons q2 (.cons q3 (.cons q4 (.cons q5 (.cons ⟨q6.1, hf _ _ q6.2⟩ q7)))))
def kSt (w : World) (N : List (Str × Int)) (C : List (Int × Str)) (D : List (Str × Int)) (M R : List Str) (b : Bool) : KP Value := kTup [kB w (sI N) (iS C) (sI D) (M.map .str) (R.map .str) (kFt w b), kLst (kW w N C D M (R.map .str) b)]
def kStepR (w : World) (m r : Nat) : KP Value := ⟨fun h v => ∃ N C D M R b, Inv N C D ∧ (M.length ≤ m ∧ ∀ x ∈ M, PyData.strOk x = true) ∧ (R.length ≤ r ∧ ∀ x ∈ R, PyData.strOk x = true) ∧ (kSt w N C D M R b).p h v, fun k x_ => ob6_4 x_ fun N C D M R b h1 h2 h3 h4 => mk6_4 N C D M R b h1 h2 h3 ((kSt w N C D M R b).mono k h4)⟩
def kNine : KP Value := ⟨fun h v => ∃ x ∈ nine, (kd (.str x)).p h v, fun k x_ => ob1_2 x_ fun x hx q => mk1_2 x hx ((kd _).mono k q)⟩
def four3 : List (Option Int) := [none, some 97, some 98, some 99]
def kOpt : KP Value := ⟨fun h v => ∃ co ∈ four3, (kd (optI co)).p h v, fun k x_ => ob1_2 x_ fun x hx q => mk1_2 x hx ((kd _).mono k q)⟩
section
variable {w : World} {A : Around} {value slice : PySem.Expr}
theorem list_sub {Ps : List (KP Value)} {m : Nat} (hm : Ps.length = m) (hz : m ≤ 1000) (P : KP Value) (hP : ∀ (i : Nat) (Q : KP Value), Ps[i]? = some Q → ∀ h v, Q.p h v → P.p h v) (hs : ∀ (o i : Value), subscripted slice false o i = operate [o, i] (getItem o i)) : O2 w A (subscriptTail value slice) (kTup Ps) (kDig m) P := by
  (intro s v u H g l hv o_427; (refine ob2_2 o_427 fun j t hj e_428 => ?_; try clear o_427; subst e_428))
  have hjl : j < Ps.length := by omega
  have h2 : Ps[j]? = some Ps[j] := List.getElem?_eq_getElem hjl
  exact (sub_tup h2 (by omega) hs s _ _ H g l hv is_int).weak fun h v q => hP j _ h2 h v q
theorem nine_sub (hs : ∀ (o i : Value), subscripted slice false o i = operate [o, i] (getItem o i)) : O2 w A (subscriptTail value slice) (kTup [kd (.str (Str.ofString "a")), kd (.str (Str.ofString "b")), kd (.str (Str.ofString "c")), kd (.str (Str.ofString "d1")), kd (.str (Str.ofString ".x")), kd (.str (Str.ofString "1a")), kd (.str (Str.ofString "sub")), kd (.str (Str.ofString "")), kd (.str (Str.ofString ".notdef"))]) (kDig 9) kNine := by
  refine list_sub rfl (by decide) kNine (fun i Q hQ h v q => ?_) hs
  have e : ([kd (.str (Str.ofString "a")), kd (.str (Str.ofString "b")), kd (.str (Str.ofString "c")), kd (.str (Str.ofString "d1")), kd (.str (Str.ofString ".x")), kd (.str (Str.ofString "1a")), kd (.str (Str.ofString "sub")), kd (.str (Str.ofString "")), kd (.str (Str.ofString ".notdef"))] : List (KP Value)) = nine.map fun x => kd (.str x) := rfl
  rw [e, List.getElem?_map, Option.map_eq_some_iff] at hQ
  (refine ob1_2 hQ fun x hx e_429 => ?_; try clear hQ; subst e_429)
  exact mk1_2 x (List.mem_of_getElem? hx) q
theorem opt_sub (hs : ∀ (o i : Value), subscripted slice false o i = operate [o, i] (getItem o i)) : O2 w A (subscriptTail value slice) (kTup [kd .none, kd (.int 97), kd (.int 98), kd (.int 99)]) (kDig 4) kOpt := by
  refine list_sub rfl (by decide) kOpt (fun i Q hQ h v q => ?_) hs
  have e : ([kd .none, kd (.int 97), kd (.int 98), kd (.int 99)] : List (KP Value)) = four3.map fun x => kd (optI x) := rfl
  rw [e, List.getElem?_map, Option.map_eq_some_iff] at hQ
  (refine ob1_2 hQ fun x hx e_430 => ?_; try clear hQ; subst e_430)
  exact mk1_2 x (List.mem_of_getElem? hx) q
theorem dig_eq {m : Nat} {i : Int} : O2 w A (compareOp .Eq) (kDig m) (kd (.int i)) kAnyB := by
  (intro s v u H g l o_431 hu; (refine ob2_2 o_431 fun j t hj e_432 => ?_; try clear o_431; subst e_432))
  (refine ob1_1 (kd_int hu) fun t' e_433 => ?_; subst e_433)
  exact PyProof.Rows.eq_int ⟨.rfl', _, rfl⟩
theorem foul_in {x : Str} : ((foul.map PyData.str).any fun z => PyData.eqv z (.str x)) = foul.contains x := by
  rw [List.any_map]
  have e : ((fun z => PyData.eqv z (.str x)) ∘ PyData.str) = fun a => a == x := by
    funext a
    show PyData.eqv (.str a) (.str x) = (a == x)
    rw [PyData.eqv]
  rw [e, List.contains_eq_any_beq]
  congr 1
  funext a
  exact Bool.beq_comm (a := a) (b := x)
end
theorem around_eta {A : Around} {outer : List Env} (h1 : A.handled = none) (h2 : A.frames = some outer) : ∃ d u gd, A = Ar d u outer gd := by
  cases A
  cases h1
  cases h2
  exact mk3_1 _ _ _ rfl
theorem foul_lay : PyData.canLayAll0 (foul.map PyData.str) = true := by decide +kernel
theorem fault_ok : PyData.strOk (Str.ofString "fault") = true := by decide +kernel
theorem fault_lay {k : Int} : (PyData.tuple [.str (Str.ofString "fault"), .int k]).canLay0 = true := by
  rw [PyData.canLay0, PyData.canLayAll0, PyData.canLayAll0, PyData.canLayAll0, PyData.canLay0, PyData.canLay0, fault_ok]; rfl
theorem fault_depth {k : Int} : (PyData.tuple [.str (Str.ofString "fault"), .int k]).depth ≤ 1000 := by
  simp [PyData.depth, PyData.depthAll]
theorem six_of : ∀ x ∈ nine, foul.contains x = false → x ∈ six := by decide +kernel
theorem inv_max0 {N D : List (Str × Int)} {C : List (Int × Str)} (h : Inv N C D) : maxI (0 :: N.map fun q : Str × Int => q.2) = maxI (N.map fun q : Str × Int => q.2) := by
  have e := h.max
  (refine ob1_1 h.n0 fun t ht => ?_)
  have hl : 1 ≤ N.length := by rw [ht]; simp
  refine maxI_eq ?_ ?_
  · refine .tail _ ?_
    rw [show maxI (N.map fun q : Str × Int => q.2) = ((N.length - 1 : Nat) : Int) by omega, h.nv]
    exact List.mem_map.mpr ⟨N.length - 1, List.mem_range.mpr (by omega), rfl⟩
  · intro i hi
    rcases List.mem_cons.mp hi with rfl | hi
    · omega
    · rw [h.nv] at hi
      (refine ob1_2 (List.mem_map.mp hi) fun j hj e_434 => ?_; subst e_434)
      rw [List.mem_range] at hj
      omega
def takenB (C : List (Int × Str)) : Option Int → Bool
  | none => false
  | some c => (look C c).isSome
theorem placeL_eq {N : List (Str × Int)} {C : List (Int × Str)} {x : Str} {co : Option Int} : placeL N C x co = if foul.contains x || (look N x).isSome then 1 else if takenB C co then 2 else 0 := by
  unfold placeL
  cases co <;> rfl
theorem placeL_zero {N : List (Str × Int)} {C : List (Int × Str)} {x : Str} {co : Option Int} (h : placeL N C x co = 0) : foul.contains x = false ∧ look N x = none ∧ ∀ c, co = some c → look C c = none := by
  rw [placeL_eq] at h
  cases h1 : foul.contains x || (look N x).isSome with
  | true => rw [h1, if_pos rfl] at h; cases h
  | false =>
    rw [h1, if_neg (by decide)] at h
    rw [Bool.or_eq_false_iff] at h1
    refine mk0_3 h1.1 (by simpa using h1.2) (fun c hc => ?_)
    subst hc
    cases h2 : takenB C (some c) with
    | true => rw [h2, if_pos rfl] at h; cases h
    | false =>
      have h2 : (look C c).isSome = false := h2
      simpa using h2
theorem placeL_pos {N : List (Str × Int)} {C : List (Int × Str)} {x : Str} {co : Option Int} : 0 ≤ placeL N C x co := by
  rw [placeL_eq]
  split
  · exact Int.zero_le_ofNat 1
  · split
    · exact Int.zero_le_ofNat 2
    · exact Int.le_refl 0
abbrev c1 (L : Addr) : Addr := L + 1
abbrev c2 (L : Addr) : Addr := L + 1 + 1
abbrev c3 (L : Addr) : Addr := L + 1 + 1 + 1
abbrev c4 (L : Addr) : Addr := L + 1 + 1 + 1 + 1
abbrev c5 (L : Addr) : Addr := L + 1 + 1 + 1 + 1 + 1
theorem cell_of {h : Heap} {env : Env} {x : Str} {p : Pos} {v : Value} {c : Addr} {o : Obj} (hl : env.cells.lookup x = some c) (hm : h.get? c = some o) (hd : o.data = .cell (some v)) (hk : env.kindOf x = some .free) (b1 : (x == ("__debug__" : Str)) = false) (b2 : (x == ("__classdict__" : Str)) = false) : CellOf h env (x, p, v) := ⟨c, o, hl, hm, hd, hk, b1, b2⟩
theorem mem0 {α : Type} {p : α → Prop} : ∀ q ∈ ([] : List α), p q := nil_all
theorem mem1 {α : Type} {p : α → Prop} {a : α} {l : List α} (x : p a) (y : ∀ q ∈ l, p q) : ∀ q ∈ a :: l, p q := List.forall_mem_cons.mpr ⟨x, y⟩
inductive RG (fr pre : Led) (P : KP Value) (v : Value) (mu' : Led) (K' : Heap) : Prop
  | mk (fr' : Led) (ps : Array Value) (f2 : Fr2 fr fr') (e : mu' = pre ++ (427, tabObj ps) :: fr') (t : T427 ps K') (g : P.p K' v) : RG fr pre P v mu' K'
theorem heard_raw {w : World} {A : Around} {F : Fm} {K : Heap} {env : Env} {pre post : Led} {fe : PySem.Expr} {pos posl : Pos} {B0 : Heap} {ps : Array Value} {body : PySem.Expr} {params : Arguments} {scope : Scope} {clos : List (Str × Addr)} {a c : Addr} {q : Str} {R : Value → Led → Heap → Prop}
    (t6 : ∃ xs, Trip q xs ps.toList K) (hmu : F.mu = pre ++ (a, tabObj ps) :: post) (gt : GT w B0) (sB : Sub B0 F.B) (cd : CodeHd B0 c a) (hf : Ev w A F K env fe (kv (.ref 396))) (kp : KeepOk w (.ref 396)) (hq : env.qual ++ "<lambda>" = q) (hdef : defaultsOf params env = ([], [])) (hcode : env.code = .ref c) (hge : env.globals = mainGlobals) (hcl : closureFor scope env = pure clos)
    (he : eval (.Call fe [.Lambda params body scope posl] [] pos) env = (do callWith pos (← eval fe env) [] (backTo pos (starEach [.Lambda params body scope posl] env)) []))
    (work : ∀ wa ps' K1 c' pm ctv, Sub K K1 → (∃ xs, Trip q xs ps'.toList K1) → K1.get? wa = some (kla_obj "<lambda>" q params body scope clos pm c' ctv) → K1.CodeRec (.ref c') q → CallX w A (F.with (pre ++ (a, tabObj ps') :: post)) K1 (.ref 396) [.ref wa] R) :
    EvX w A F K env (.Call fe [.Lambda params body scope posl] [] pos) R := by
  obtain ⟨xs, t6⟩ := t6
  refine callx (RL := fun vs mu1 K1 => ∃ wa ps' c' pm ctv, vs = [.ref wa] ∧ mu1 = pre ++ (a, tabObj ps') :: post ∧ (∃ xs, Trip q xs ps'.toList K1) ∧ K1.get? wa = some (kla_obj "<lambda>" q params body scope clos pm c' ctv) ∧ K1.CodeRec (.ref c') q) hf (fun K6 S6 => evsx_cons (evx_lam (pre := pre) (post := post) (P := a) (c := c) (q := q) hmu gt sB cd (t6.mono S6) hq hdef hcode hge hcl) (fun v mu K S hv => evsx_nil ?_) rfl) (fun vs mu1 K1 S1 hl => ?_) kp ⟨_, _, rfl⟩ rfl he
  · (refine ob5_5 hv fun wa ps' c' pm ctv e1 e2 tr hg hc => ?_; try clear hv)
    exact mk5_1 wa ps' c' pm ctv ⟨by rw [e1], e2, ⟨_, tr⟩, hg, hc⟩
  · (refine ob5_5 hl fun wa ps' c' pm ctv e1 e2 tr hg hc => ?_; try clear hl)
    subst e1 e2
    exact work wa ps' K1 c' pm ctv S1 tr hg hc
theorem grown_spec {w : World} {N D : List (Str × Int)} {C : List (Int × Str)} {M R : List Str} {b : Bool} (hI : Inv N C D) (zM : M.length ≤ 800) (oM : ∀ x ∈ M, PyData.strOk x = true) (oR : ∀ x ∈ R, PyData.strOk x = true) :
    OnX w 690 (.ref 432) 4 [kB w (sI N) (iS C) (sI D) (M.map .str) (R.map .str) (kFt w b), kLst (kW w N C D M (R.map .str) b)] (kStepR w (M.length + 1) R.length) := by
  intro A B0 s p c o k H vs outer fr ps hA hfr hd hu Dp hk hv
  (refine all2_2 hv fun v1 v2 e_435 h1 h2 => ?_; clear hv; subst e_435)
  k_dflt (refine' fn_enterX (binds := [("pen", .ref p), ("bench", v1), ("world", v2)]) Dp ?k6 ?k7 ?k8 ?k9 ?kB ?kD ?_ ?c2 ?c3 ?c4)
  case k6 | k7 => k_is
  case k8 => show A.depth < 1000; omega
  case k9 => exact BindsTo.of_eq rfl
  case kB => exact rfl
  case kD => decide +kernel
  case c2 | c3 | c4 => exact rfl
  intro L cells Y
  refine cells_5 Y fun oW oN oK oC oB eY d5 d4 d3 d2 d1 => ?_
  clear Y; subst eY
  have SB := Dp.SB
  have D0 := Dp.D
  have sB := Dp.sB
  have pkv : ∀ K, (kv (.ref p)).p K (.ref p) := fun _ => rfl
  dsimp only [List.cons_append, List.nil_append, List.append, Fm.pen]
  show Run w _ _ ⟨s, _, H, L, _, (p, o) :: (c5 L, oW) :: (c4 L, oN) :: (c3 L, oK) :: (c2 L, oC) :: (c1 L, oB) :: (427, tabObj ps) :: fr⟩ _ _ _ _
  have hA' : ∀ env, (A.deeper env).handled = none := fun _ => hA
  have hd9 : ∀ env, (A.deeper env).depth ≤ 900 := fun _ => show A.depth + 1 ≤ 900 from Nat.le_trans (Nat.succ_le_succ hd) (by decide)
  have hu9 : ∀ env, (A.deeper env).units ≤ 900 := fun _ => show A.units + 3 ≤ 900 from Nat.le_trans (Nat.add_le_add_right hu 3) (by decide)
  have hu10 : ∀ env, (A.deeper env).units ≤ 1000 := fun e => Nat.le_trans (hu9 e) (by decide)
  replace d1 : oB.data = .cell (some v1) := d1
  have dr : ∀ {m : Nat}, 1 ≤ m → m ≤ 1000 → OnP w 900 (.ref 382) 1 [kd (.int (m : Nat))] (kDig m) := fun h1 h2 => draw_on h1 h2
  have pkv : (kv (.ref p)).p (hideAll s.heap H) (.ref p) := rfl
  with_reducible refine run_assignCP (F := ⟨s, hideAll s.heap (p :: 427 :: fr.map (·.1)), H, L, _, (c5 L, oW) :: (c4 L, oN) :: (c3 L, oK) :: (c2 L, oC) :: (c1 L, oB) :: (427, tabObj ps) :: fr⟩) (d := 1) (P := kNine) (pre := [(c5 L, oW)]) ?nm (Eq.refl _) d4 D0 ?ho (fun o2 oN2 K2 vn D2 S2 q2 d4' => ?_) ?h2 ?h3 ?h4 ?h5
  case ho => omega
  case h2 | h3 | h4 | h5 => exact rfl
  case nm =>
    with_reducible refine evp_sub (d1 := 0) (d2 := 1) (P₂ := kDig 9) (evp_of fun o => ?e1) ?e2 (nine_sub ?e3)
    case e1 => walk_at "E ev"
    case e2 => exact evp_call (n := 900) (Ps := [kd (.int (9 : Nat))]) (hA' _) (hd9 _) (hu9 _) SB (fun o => by walk_at "E ev") (fun o => by walk_at "E args") (dr (m := 9) (by decide) (by decide)) (keep_ref (by k_is)) ⟨_, _, rfl⟩ rfl rfl
    case e3 => exact fun _ _ => rfl
  dsimp only [List.cons_append, List.nil_append, List.append, Fm.pen]
  obtain ⟨x, hx, q2⟩ := q2
  have pkv2 : (kv (.ref p)).p K2 (.ref p) := rfl
  with_reducible refine run_unpackP (F := ⟨s, hideAll s.heap (p :: 427 :: fr.map (·.1)), H, L, _, (c5 L, oW) :: (c4 L, oN2) :: (c3 L, oK) :: (c2 L, oC) :: (c1 L, oB) :: (427, tabObj ps) :: fr⟩) (d := 3) (T := "tuple") (Ps := [kOpt, kDig 900, kAnyB]) (.inr rfl) (hA' _) ?cw D2 ?ho ?hl ?h1 (fun o3 K3 us D3 S3 hus => ?_) ?h2 ?h3
  case hl => exact rfl
  case ho => omega
  case h1 | h2 | h3 => exact rfl
  case cw =>
    refine evp_tup (EvsP.cons (d1 := 1) (d2 := 2) (evp_sub (d1 := 0) (d2 := 1) (evp_of fun o => by walk_at "E ev") (evp_call (n := 900) (Ps := [kd (.int (4 : Nat))]) hA (hd9 _) (hu9 _) SB (fun o => by walk_at "E ev") (fun o => by walk_at "E args") (dr (m := 4) (by decide) (by decide)) (keep_ref (by k_is)) ⟨_, _, rfl⟩ rfl rfl) (opt_sub fun _ _ => rfl)) (EvsP.cons (d1 := 1) (d2 := 1) (evp_call (n := 900) (Ps := [kd (.int (900 : Nat))]) hA (hd9 _) (hu9 _) SB (fun o => by walk_at "E ev") (fun o => by walk_at "E args") (dr (m := 900) (by decide) (by decide)) (keep_ref (by k_is)) ⟨_, _, rfl⟩ rfl rfl) (EvsP.cons (d1 := 1) (d2 := 0) (evp_cmp (d1 := 1) (d2 := 0) (evp_call (n := 900) (Ps := [kd (.int (3 : Nat))]) hA (hd9 _) (hu9 _) SB (fun o => by walk_at "E ev") (fun o => by walk_at "E args") (dr (m := 3) (by decide) (by decide)) (keep_ref (by k_is)) ⟨_, _, rfl⟩ rfl rfl) (evp_of fun o => by walk_at "E ev") dig_eq) EvsP.nil rfl) rfl) rfl) (of_decide_eq_true rfl)
  (refine all2_3 hus fun vc vw vm e_436 p1 p2 p3 => ?_; clear hus; subst e_436)
  (refine ob1_2 p1 fun co hco pc => ?_; try clear p1)
  (refine ob2_2 p2 fun wd tw hw e_437 => ?_; try clear p2; subst e_437)
  (refine ob1_1 p3 fun mk e_438 => ?_; try clear p3; subst e_438)
  with_reducible refine stores_cell (pre := [(p, o3), (c5 L, oW), (c4 L, oN2), (c3 L, oK)]) (Eq.refl _) d2 (fun oC2 d2' => ?_) ?h1 ?h2 ?h3
  case h1 | h2 | h3 => exact rfl
  with_reducible refine stores_cell (pre := [(p, o3)]) (Eq.refl _) d5 (fun oW2 d5' => ?_) ?h1 ?h2 ?h3
  case h1 | h2 | h3 => exact rfl
  with_reducible refine stores_cell (pre := [(p, o3), (c5 L, oW2), (c4 L, oN2)]) (Eq.refl _) d3 (fun oK2 d3' => stores_nil ?_) ?h1 ?h2 ?h3
  case h1 | h2 | h3 => exact rfl
  dsimp only [List.cons_append, List.nil_append, List.append, Fm.pen]
  with_reducible refine run_unpack (T := "list") (Ps := kW w N C D M (R.map .str) b) (.inl rfl) (hA' _) ?ev (Eq.refl _) ?h1 (fun K4 us S4 hus => ?_) ?h2 ?h3
  case ev => walk_at "E ev"
  case h1 | h2 | h3 => exact rfl
  (refine all2_6 hus fun _ _ _ _ _ _ e_439 w1 w2 w3 w4 w5 w6 => ?_; clear hus; subst e_439)
  iterate 6 ((with_reducible refine stores_local ?_ ?h1 ?h2 ?h3); (case h1 | h2 | h3 => exact rfl))
  with_reducible refine stores_nil ?_
  dsimp only [List.cons_append, List.nil_append, List.append, Fm.up, Fm.pen]
  have q4 : (kd (.str x)).p K4 vn := (kd _).mono (S3.trans S4) q2
  have pc4 : (kd (optI co)).p K4 vc := (kd _).mono S4 pc
  have pw4 : (kd (.int (wd : Nat))).p K4 (.int (wd : Nat) tw) := is_int
  have pm4 : (kd (.bool mk)).p K4 (.bool mk) := is_bool
  have hfo := nine_str x hx
  have q5 := q4
  (refine ob3_1 (around_eta hA hfr) fun dd uu gg eA => ?_)
  have hAe : ∀ env, A.deeper env = Ar (dd + 1) (uu + 3) (env :: outer) gg := fun env => by rw [eA]; rfl
  have hdd : dd ≤ 690 := by rw [eA] at hd; exact hd
  have huu : uu ≤ 690 := by rw [eA] at hu; exact hu
  have pb : plainNone (kd (optI co)) co.isNone := by
    cases co with
    | none => exact pn_none
    | some c => exact pn_int
  with_reducible refine run_assign (P := kd (.int (placeL N C x co))) ?pl (fun K5 v5 S5 q6 => ?_) ?h1 ?h2 ?h3 ?h4
  case h1 | h2 | h3 | h4 => exact rfl
  case pl =>
    rw [placeL_eq]
    with_reducible refine ev_ite (b := foul.contains x || (look N x).isSome) ?t1 (fun h => ?y1) (fun h => ?n1)
    case y1 => rw [if_pos h]; exact ev_int
    case t1 =>
      have opT := fun (A : Around) (h : A.units ≤ 1000) => @op_inT w A (.str x) (foul.map .str) foul_lay (by rw [PyData.canLay0]; exact hfo.1) (room1 h (by rw [PyData.depth]; decide))
      cases hf : foul.contains x with
      | true =>
        with_reducible refine tr_bool (.stop (b := true) (tr_b (tr_cmp ?l (Ev.weak (P := kTup [kd (.str (Str.ofString "1a")), kd (.str (Str.ofString "sub")), kd (.str (Str.ofString ""))]) ?r ?wk) (opT _ (hu10 _)) ?hm) ?e) ?s)
        case l | r => walk_at "E ev"
        case wk => exact fun h v q => tup_kd (ds := foul.map .str) q
        case hm => exact rfl
        case e => exact foul_in.trans hf
        case s => exact rfl
      | false =>
        refine tr_b (b := (look N x).isSome) ?_ rfl
        with_reducible refine tr_bool (.go (b := false) (tr_b (tr_cmp ?l (Ev.weak (P := kTup [kd (.str (Str.ofString "1a")), kd (.str (Str.ofString "sub")), kd (.str (Str.ofString ""))]) ?r ?wk) (opT _ (hu10 _)) ?hm) ?e) ?s ?rest)
        case l | r => walk_at "E ev"
        case wk => exact fun h v q => tup_kd (ds := foul.map .str) q
        case hm => exact rfl
        case e => exact foul_in.trans hf
        case s => exact rfl
        case rest =>
          cases hn : (look N x).isSome with
          | true =>
            with_reducible refine .stop (b := true) (tr_b (tr_cmp ?l ?r (op_in (knd := PySem.strKind PR w) (k := x) (kvs := sI N) keyS) ?hm) ?e) ?s
            case l | r => walk_at "E ev"
            case hm => exact rfl
            case e => rw [dget_sI]; simpa using hn
            case s => exact rfl
          | false =>
            with_reducible refine .go (b := false) (tr_b (tr_cmp ?l ?r (op_in (knd := PySem.strKind PR w) (k := x) (kvs := sI N) keyS) ?hm) ?e) ?s .nil
            case l | r => walk_at "E ev"
            case hm => exact rfl
            case e => rw [dget_sI]; simpa using hn
            case s => exact rfl
    case n1 =>
      rw [if_neg (by rw [h]; decide)]
      with_reducible refine ev_ite (b := takenB C co) ?t2 (fun h => ?y2) (fun h => ?n2)
      case y2 => rw [if_pos h]; exact ev_int
      case n2 => rw [if_neg (by rw [h]; decide)]; exact ev_int
      case t2 =>
        cases co with
        | none =>
          with_reducible refine tr_bool (.stop (b := false) (tr_b (tr_cmp ?l ?r (op_isnot pb) ?hm) ?e) ?s)
          case l | r => walk_at "E ev"
          case hm | e | s => exact rfl
        | some c =>
          refine tr_b (b := (look C c).isSome) ?_ rfl
          with_reducible refine tr_bool (.go (b := true) (tr_b (tr_cmp ?l ?r (op_isnot pb) ?hm) ?e) ?s ?rest)
          case l | r => walk_at "E ev"
          case hm | e | s => exact rfl
          case rest =>
            have pc5 : (kd (.int c)).p K4 vc := pc4
            cases hn : (look C c).isSome with
            | true =>
              with_reducible refine .go (b := true) (tr_b (tr_cmp (P₁ := kd (.int c)) ?l ?r (op_in (knd := PySem.intKind PR w) (k := c) (kvs := iS C) keyI) ?hm) ?e) ?s .nil
              case l | r => walk_at "E ev"
              case hm => exact rfl
              case e => rw [dget_iS]; simpa using hn
              case s => exact rfl
            | false =>
              with_reducible refine .stop (b := false) (tr_b (tr_cmp (P₁ := kd (.int c)) ?l ?r (op_in (knd := PySem.intKind PR w) (k := c) (kvs := iS C) keyI) ?hm) ?e) ?s
              case l | r => walk_at "E ev"
              case hm => exact rfl
              case e => rw [dget_iS]; simpa using hn
              case s => exact rfl
  dsimp only [List.cons_append, List.nil_append, List.append, Fm.up, Fm.pen]
  have T5 : T427 ps K5 := Dp.T.mono (S2.trans (S3.trans (S4.trans S5)))
  have hpl := place_eq (N := N) (C := C) (co := co) hx
  show Run w _ _ ⟨s, _, H, L, _, [(p, o3), (c5 L, oW2), (c4 L, oN2), (c3 L, oK2), (c2 L, oC2), (c1 L, oB)] ++ (427, tabObj ps) :: fr⟩ _ _ _ _
  generalize hpre : [(p, o3), (c5 L, oW2), (c4 L, oN2), (c3 L, oK2), (c2 L, oC2), (c1 L, oB)] = pre
  have mB : (c1 L, oB) ∈ pre := by rw [← hpre]; k_mem
  have mN : (c4 L, oN2) ∈ pre := by rw [← hpre]; k_mem
  have mC : (c2 L, oC2) ∈ pre := by rw [← hpre]; k_mem
  have mW : (c5 L, oW2) ∈ pre := by rw [← hpre]; k_mem
  have mK : (c3 L, oK2) ∈ pre := by rw [← hpre]; k_mem
  with_reducible refine runx_assign (RV := RG fr pre (kHe (placeL N C x co) (kB w (sI (N ++ [(x, maxI (N.map (·.2)) + 1)])) (iS (putC C x co)) (sI (D ++ [(x, ((wd : Nat) : Int))])) ((M ++ if mk then [x] else []).map .str) (R.map .str) (kd .none)))) ?he (fun vh mu6 K6 S6 hv6 => ?_) ?h1 ?h2 ?h3 ?h4
  case h1 | h2 | h3 | h4 => exact rfl
  case he =>
    with_reducible refine' heard_raw (a := 427) (c := 431) (q := qG) (ps := ps) (B0 := B0) ?t5 ?e0 Dp.S.gt sB Dp.cd ?hf ?kp ?g1 ?g2 ?g3 ?g4 ?g5 ?g6 ?work
    case t5 => exact T5
    case e0 => exact rfl
    case hf => walk_at "E ev"
    case kp => exact keep_ref (by k_is)
    case g1 | g2 | g3 | g4 | g5 | g6 => exact rfl
    case work =>
      intro wa ps' K1 c' pm ctv S1 t6 hg hc
      rw [hAe]
      intro s1 st1
      refine' wpAny_mono (heard_glyph (w := w) (N := N) (D := D) (C := C) (M := M) (R := R.map .str) (f := kFt w b) (x := x) (co := co) (wd := ((wd : Nat) : Int)) (mk := mk) (mA := pre ++ [(427, tabObj ps')]) (fr := fr) ?ap Dp.fo rfl (by show ScopeKind.function ≠ ScopeKind.module; decide) Dp.S.gt sB (by omega) (by omega) (fun s st => ⟨_, qG, _, _, _, pm, c', ctv, _, _, st.sub _ _ hg, rfl, codeRec_mono st.sub hc, rfl, fun L => rfl, fun L => ?cl, ?nc, rfl, rfl, rfl⟩) ?hv hfo.1 hfo.2 (by have := hI.zN; omega) (by have := hI.zC; omega) (by have := hI.zD; omega) (by omega) (by obtain ⟨t, ht⟩ := hI.n0; rw [ht]; exact fun h => nomatch h) (hI.dn x) s1 st1) (fun v s' y => y.imp fun mu' K' S' h => ?fin) fun _ _ y => y
      case ap => exact (List.append_assoc pre [(427, tabObj ps')] fr).symm
      case nc => decide
      case cl => exact mem1 (cell_of rfl (st.mus _ (List.mem_append_left _ mB)) d1 rfl (by decide) (by decide)) (mem1 (cell_of rfl (st.mus _ (List.mem_append_left _ mN)) d4' rfl (by decide) (by decide)) (mem1 (cell_of rfl (st.mus _ (List.mem_append_left _ mC)) d2' rfl (by decide) (by decide)) (mem1 (cell_of rfl (st.mus _ (List.mem_append_left _ mW)) d5' rfl (by decide) (by decide)) (mem1 (cell_of rfl (st.mus _ (List.mem_append_left _ mK)) d3' rfl (by decide) (by decide)) mem0))))
      case hv => exact .cons ((kB _ _ _ _ _ _ _).mono (S2.trans (S3.trans (S4.trans (S5.trans S1)))) h1) (.cons ((kd _).mono (S5.trans S1) q5) (.cons ((kd _).mono (S5.trans S1) pc4) (.cons is_int (.cons is_bool .nil))))
      case fin =>
        (refine ob1_3 h fun fr' f2 e hk => ?_; try clear h)
        exact ⟨fr', ps', f2, by rw [e, List.append_assoc]; rfl, t6.imp fun xs t => t.mono S', hpl ▸ hk⟩
  cases hv6 with | mk fr' ps' f2 e t6 hk6 =>
  subst e hpre
  dsimp only [List.cons_append, List.nil_append, List.append, Fm.up, Fm.pen, Fm.with]
  have D3' : PenD c o3 (k + 4) := by
    have : k + 1 + 3 = k + 4 := by omega
    rw [← this]; exact D3
  have hp0 := placeL_pos (N := N) (C := C) (x := x) (co := co)
  by_cases hz : placeL N C x co = 0
  case neg =>
    have hlt : 0 < placeL N C x co := by omega
    rcases hk6 with ⟨h0, _⟩ | ⟨_, hk6⟩
    · exact absurd h0 hz
    with_reducible refine run_if (b := true) ?ti (fun _ => ?yi) nob'
    case ti => exact tr_b (tr_cmp (by walk_at "E ev") (by walk_at "E ev") op_gt) (by simpa using hlt)
    case yi =>
      with_reducible refine run_return (P := kSt w N C D M R b) ?ev (fun v s1 K7 S7 st pv => ?fin)
      case fin =>
        exact outx_of (own := [(c5 L, oW2), (c4 L, oN2), (c3 L, oK2), (c2 L, oC2), (c1 L, oB)]) rfl st D3' f2 (t6.mono S7) ⟨N, C, D, M, R, b, hI, ⟨by omega, oM⟩, ⟨Nat.le_refl _, oR⟩, pv⟩
      case ev =>
        unfold kSt
        with_reducible refine ev_tup (Evs.cons (ev_ite (b := true) ?ti2 (fun _ => ?ya) nob') (Evs.cons ?yb Evs.nil ?ye) ?yf) ?yc
        case yc => exact of_decide_eq_true rfl
        case ye | yf => exact rfl
        case yb | ya => walk_at "E ev"
        case ti2 =>
          refine tr_b (tr_cmp (P₁ := kd (.tuple [.str (Str.ofString "fault"), .int (placeL N C x co)])) (P₂ := kd (.tuple [.str (Str.ofString "fault"), .int (placeL N C x co)])) (by walk_at "E ev") (Ev.weak (P := kTup [kd (.str (Str.ofString "fault")), kd (.int (placeL N C x co))]) (by walk_at "E ev") fun h v q => tup_kd (ds := [.str (Str.ofString "fault"), .int (placeL N C x co)]) q) (op_eq fault_lay fault_lay (room0 (hu10 _) fault_depth))) (PySem.SeqAt.eqv_refl _ fault_lay)
  rcases hk6 with ⟨_, hk6⟩ | ⟨h0, _⟩
  rotate_left
  · exact absurd hz h0
  (refine ob0_3 (placeL_zero hz) fun hfl hN hC => ?_)
  have hx6 := six_of x hx hfl
  have hgrow := inv_grow (wd := ((wd : Nat) : Int)) hI hx6 hN fun c hc => ⟨by
    have : co ∈ four3 := hco
    rw [hc] at this
    revert this
    simp [four3], hC c hc⟩
  have zN := hI.zN
  have zC := hI.zC
  have zD := hI.zD
  have hD := hI.dn x hN
  with_reducible refine run_if (b := false) ?ti nob (fun _ => run_skip ?_)
  case ti => exact tr_b (tr_cmp (by walk_at "E ev") (by walk_at "E ev") op_gt) (by rw [hz]; rfl)
  have w1' : (ksd w (sI N)).p K6 _ := (ksd w (sI N)).mono (S5.trans S6) w1
  with_reducible refine run_swapN (Qs := [oD (PySem.strKind PR w) (sI N), oD (PySem.intKind PR w) (iS C), oD (PySem.strKind PR w) (sI D)]) (names := [Str.ofString "names", Str.ofString "codes", Str.ofString "advances"]) (hA' _) ?sw (Eq.refl _) ?h1 (fun K7 as S7 q7 n7 => ?_) ?h2 ?h3
  case h1 => exact of_decide_eq_true rfl
  case h2 | h3 => exact rfl
  case sw =>
    refine EvsN.cons (evn_call (by walk_at "E ev") (Evs.cons (by walk_at "E ev") Evs.nil) (onN_dict_copy (by simp; omega)) keep_t (.inr ⟨_, _, rfl⟩) rfl rfl) (fun a1 => EvsN.cons (evn_call (by walk_at "E ev") (Evs.cons (by walk_at "E ev") Evs.nil) (onN_dict_copy (by simp; omega)) keep_t (.inr ⟨_, _, rfl⟩) rfl rfl) (fun a2 => EvsN.cons (evn_call (by walk_at "E ev") (Evs.cons (by walk_at "E ev") Evs.nil) (onN_dict_copy (by simp; omega)) keep_t (.inr ⟨_, _, rfl⟩) rfl rfl) (fun a3 => EvsN.nil) rfl) rfl) rfl
  (refine all2_3 q7 fun qN qC qD e_440 r1 r2 r3 => ?_; clear q7; subst e_440)
  obtain ⟨aN, oN7⟩ := qN
  obtain ⟨aC, oC7⟩ := qC
  obtain ⟨aD, oD7⟩ := qD
  (refine ob0_3 (n7 (aN, oN7) (.head _)) fun nN1 nN2 nN3 => ?_)
  (refine ob0_3 (n7 (aC, oC7) (.tail _ (.head _))) fun nC1 nC2 nC3 => ?_)
  (refine ob0_3 (n7 (aD, oD7) (.tail _ (.tail _ (.head _)))) fun nD1 nD2 nD3 => ?_)
  show Binds w _ _ _ _ [Str.ofString "advances", Str.ofString "codes", Str.ofString "names"] [.ref aD, .ref aC, .ref aN] _ _ _
  dsimp only [List.cons_append, List.nil_append, List.append, Fm.up, Fm.pen]
  with_reducible refine binds_cons (x := Str.ofString "advances") (xs := [Str.ofString "codes", Str.ofString "names"]) (binds_cons (binds_cons (binds_nil ?_) ?h1 ?h2 ?h3) ?h4 ?h5 ?h6) ?h7 ?h8 ?h9
  case h1 | h2 | h3 | h4 | h5 | h6 | h7 | h8 | h9 => exact rfl
  dsimp only [List.cons_append, List.nil_append, List.append, Fm.up, Fm.pen]
  with_reducible refine run_unpack (T := "tuple") (Ps := [kd (.int (maxI (N.map (·.2)) + 1)), kd (.int ((wd : Nat) : Int))]) (.inr rfl) (hA' _) ?mx (Eq.refl _) ?h1 (fun K8 us S8 hus => ?_) ?h2 ?h3
  case h1 | h2 | h3 => exact rfl
  case mx =>
    with_reducible refine ev_tup (Evs.cons ?e1 (Evs.cons ?e2 Evs.nil ?e3) ?e4) ?e5
    case e2 => walk_at "E ev"
    case e3 | e4 => exact rfl
    case e5 => exact of_decide_eq_true rfl
    case e1 =>
      with_reducible refine ev_open (pre := []) (Eq.refl _) nN2 ?fl fun K' k1 k2 => ?eo
      case fl => exact fun h h' v q => by obtain ⟨t, rfl⟩ := kd_int q; exact is_int
      case eo =>
        rw [← inv_max0 hI]
        have e0 : (sI N).map (fun q : Str × PyData => kd q.2) = (N.map fun q : Str × Int => q.2).map fun i => kd (.int i) := by rw [List.map_map, List.map_map]; rfl
        have zl : ((sI N).map fun q : Str × PyData => kd q.2).length ≤ 6 := by rw [List.length_map, List.length_map]; exact zN
        have it : Iter w (kLst ([kd (.int 0)] ++ (sI N).map fun q : Str × PyData => kd q.2)) ((0 :: N.map fun q : Str × Int => q.2).map fun i => kd (.int i)) := by
          rw [List.map_cons, ← e0]
          exact iter_list
        refine ev_bin (ev_call (by walk_at "E ev") (Evs.cons (ev_bin (P₁ := kLst [kd (.int 0)]) (P₂ := kLst ((sI N).map fun q : Str × PyData => kd q.2)) (ev_lst (Evs.cons ev_int Evs.nil) (of_decide_eq_true rfl)) (Ev.weak (P := kPl ((sI N).map fun q : Str × PyData => kd q.2)) (ev_call (by walk_at "E ev") (Evs.cons (ev_meth (P₀ := ksd w (sI N)) (Ps := []) (ev_local rfl (own_kdct nN3 k2 (r1.mono k1)) rfl rfl rfl (by decide)) gm_values Evs.nil on_values keep_b (.inl ⟨rfl, rfl⟩) rfl rfl) Evs.nil) (on_list_values (hA' _) (by rw [List.length_map]; omega)) keep_t (.inr ⟨_, _, rfl⟩) rfl rfl) fun _ _ q => pl_lst q) (op_addL (by simp only [List.length_cons, List.length_nil]; omega))) Evs.nil) (on_max it (hA' _) (fun h => nomatch h)) keep_b (.inr ⟨_, _, rfl⟩) rfl rfl) ev_int op_addI
  (refine all2_2 hus fun vmx vwd e_441 u1 u2 => ?_; clear hus; subst e_441)
  with_reducible refine stores_item (pre := []) (k := x) (d := .int (maxI (N.map (·.2)) + 1)) (kvs := sI N) keyS (Eq.refl _) ?hx ?own ?hn ?hz u1 ?xk (fun K9 oN9 S9 q9 => ?_) ?h1 ?h2 ?h3 ?h4
  case hx => exact rfl
  case own => exact (oD _ _).mono S8 r1
  case hn => rw [dget_sI, hN]; rfl
  case hz => rw [List.length_map]; omega
  case xk => walk_at "E ev"
  case h1 | h2 | h3 => exact rfl
  case h4 => decide
  dsimp only [List.cons_append, List.nil_append, List.append]
  with_reducible refine stores_item (pre := [(aN, oN9), (aC, oC7)]) (k := x) (d := .int ((wd : Nat) : Int)) (kvs := sI D) keyS (Eq.refl _) ?hx ?own ?hn ?hz ((kd _).mono S9 u2) ?xk (fun K10 oD10 S10 q10 => stores_nil ?_) ?h1 ?h2 ?h3 ?h4
  case hx => exact rfl
  case own => exact (oD _ _).mono (S8.trans S9) r3
  case hn => rw [dget_sI, hD]; rfl
  case hz => rw [List.length_map]; omega
  case xk => walk_at "E ev"
  case h1 | h2 | h3 => exact rfl
  case h4 => decide
  dsimp only [List.cons_append, List.nil_append, List.append]
  have c10 : OwnD (PySem.intKind PR w) (iS C) K10 oC7 := (oD _ _).mono (S8.trans (S9.trans S10)) r2
  with_reducible refine run_ifD (b := !co.isNone) (pre := [(aN, oN9)]) (a := aC) (post := (aD, oD10) :: (p, o3) :: (c5 L, oW2) :: (c4 L, oN2) :: (c3 L, oK2) :: (c2 L, oC2) :: (c1 L, oB) :: (427, tabObj ps') :: fr') (I := fun K4 oC' => OwnD (PySem.intKind PR w) (iS (putC C x co)) K4 oC') ?ti (fun hb => ?y5) (fun hb => ?y6) fun K11 oC11 S11 q11 => ?y7
  case ti => exact tr_cmp (by walk_at "E ev") (by walk_at "E ev") (op_isnot pb)
  case y5 =>
    cases co with
    | none => exact nob hb
    | some c =>
      with_reducible refine run_setitem (k := c) (d := .str x) (kvs := iS C) (pre := [(aN, oN9)]) keyI (Eq.refl _) ?hx c10 ?hn ?hz ?xv ?xk (fun K4 oC' S4 q4 => run_nil fun s4 st4 => ?nx) ?h1 ?h2 ?h3 ?h4 ?h5
      case hx => exact rfl
      case hn => rw [dget_iS, hC c rfl]; rfl
      case hz => rw [List.length_map]; omega
      case xv => walk_at "E ev"
      case xk => exact Ev.weak (P := kd (.int c)) (by walk_at "E ev") fun _ _ q => q
      case h1 | h2 | h3 => exact rfl
      case h4 => decide
      case h5 => exact rfl
      case nx =>
        refine ⟨rfl, K4, oC', S4, ?_, st4⟩
        show OwnD _ ((C ++ [(c, x)]).map fun p => (p.1, PyData.str p.2)) _ _
        rw [List.map_append]
        exact q4
  case y6 =>
    cases co with
    | none => exact run_nil fun s4 st4 => ⟨rfl, K10, oC7, .rfl', c10, st4⟩
    | some c => cases hb
  dsimp only
  with_reducible refine run_free (pre := [(aN, oN9), (aC, oC11)]) (Eq.refl _) nD2 fun K12 S12 g12 => ?_
  dsimp only [List.cons_append, List.nil_append, List.append]
  with_reducible refine run_free (pre := [(aN, oN9)]) (Eq.refl _) nC2 fun K13 S13 g13 => ?_
  dsimp only [List.cons_append, List.nil_append, List.append]
  with_reducible refine run_free (pre := []) (Eq.refl _) nN2 fun K14 S14 g14 => ?_
  dsimp only [List.cons_append, List.nil_append, List.append]
  have pN : (ksd w (sI (N ++ [(x, maxI (N.map (·.2)) + 1)]))).p K14 (.ref aN) := own_kdct nN3 g14 (by
    show OwnD _ ((N ++ [(x, maxI (N.map (·.2)) + 1)]).map fun p => (p.1, PyData.int p.2)) _ _
    rw [List.map_append]
    exact q9.mono (S10.trans (S11.trans (S12.trans (S13.trans S14)))))
  have pC : (kid w (iS (putC C x co))).p K14 (.ref aC) := own_kdct nC3 (S14 _ _ g13) (q11.mono (S12.trans (S13.trans S14)))
  have pD : (ksd w (sI (D ++ [(x, ((wd : Nat) : Int))]))).p K14 (.ref aD) := own_kdct nD3 (S14 _ _ (S13 _ _ g12)) (by
    show OwnD _ ((D ++ [(x, ((wd : Nat) : Int))]).map fun p => (p.1, PyData.int p.2)) _ _
    rw [List.map_append]
    exact q10.mono (S11.trans (S12.trans (S13.trans S14))))
  have eM : (M ++ if mk then [x] else []).length ≤ M.length + 1 := by cases mk <;> simp
  have oM' : ∀ y ∈ (M ++ if mk then [x] else []), PyData.strOk y = true := fun y hy => by
    rcases List.mem_append.mp hy with hy | hy
    · exact oM y hy
    · cases mk with
      | true => rw [List.mem_singleton.mp hy]; exact hfo.1
      | false => cases hy
  have S614 : Sub K6 K14 := S7.trans (S8.trans (S9.trans (S10.trans (S11.trans (S12.trans (S13.trans S14))))))
  with_reducible refine run_return (P := kSt w (N ++ [(x, maxI (N.map (·.2)) + 1)]) (putC C x co) (D ++ [(x, ((wd : Nat) : Int))]) (M ++ if mk then [x] else []) R true) ?ev (fun v s1 K7 S7 st pv => ?fin)
  case fin =>
    exact outx_of (own := [(c5 L, oW2), (c4 L, oN2), (c3 L, oK2), (c2 L, oC2), (c1 L, oB)]) rfl st D3' f2 (t6.mono (S614.trans S7)) ⟨_, _, _, _, R, true, hgrow, ⟨eM, oM'⟩, ⟨Nat.le_refl _, oR⟩, pv⟩
  case ev =>
    unfold kSt
    have hh : (kB w (sI (N ++ [(x, maxI (N.map (·.2)) + 1)])) (iS (putC C x co)) (sI (D ++ [(x, ((wd : Nat) : Int))])) ((M ++ if mk then [x] else []).map .str) (R.map .str) (kd .none)).p K14 vh := (kB _ _ _ _ _ _ _).mono S614 hk6
    have isin : ∀ A, On w A (.builtin "isinstance") [kB w (sI (N ++ [(x, maxI (N.map (·.2)) + 1)])) (iS (putC C x co)) (sI (D ++ [(x, ((wd : Nat) : Int))])) ((M ++ if mk then [x] else []).map .str) (R.map .str) (kd .none), kv (.ref 88)] (kd (.bool true)) := fun _ => on_isinst
    with_reducible refine ev_tup (Evs.cons (ev_ite (b := true) ?ti2 (fun _ => ?ya) nob') (Evs.cons ?yb Evs.nil ?ye) ?yf) ?yc
    case yc => exact of_decide_eq_true rfl
    case ye | yf => exact rfl
    case ya => exact ev_local rfl hh rfl rfl rfl (by decide)
    case ti2 => exact tr_plain (ev_call (by walk_at "E ev") (Evs.cons (ev_local rfl hh rfl rfl rfl (by decide)) (Evs.cons (by walk_at "E ev") Evs.nil)) (isin _) keep_b (.inr ⟨_, _, rfl⟩) rfl rfl) tru_bool
    case yb =>
      with_reducible refine ev_lst (Evs.cons ?l1 (Evs.cons ?l2 (Evs.cons ?l3 (Evs.cons ?l4 (Evs.cons ?l5 (Evs.cons ?l6 Evs.nil ?r6) ?r5) ?r4) ?r3) ?r2) ?r1) ?rz
      case rz => exact of_decide_eq_true rfl
      case r1 | r2 | r3 | r4 | r5 | r6 => exact rfl
      case l1 => exact ev_local rfl pN rfl rfl rfl (by decide)
      case l2 => exact ev_local rfl pC rfl rfl rfl (by decide)
      case l3 => exact ev_local rfl pD rfl rfl rfl (by decide)
      case l5 => walk_at "E ev"
      case l6 => exact ev_bool
      case l4 =>
        have eL : (M ++ if mk then [x] else []).map PyData.str = M.map PyData.str ++ (if mk then [PyData.str x] else []) := by cases mk <;> simp
        rw [eL]
        refine Ev.weak (P := kLst ((M.map PyData.str).map kd ++ (if mk then [PyData.str x] else []).map kd)) (ev_bin (P₁ := kLst ((M.map PyData.str).map kd)) (P₂ := kLst ((if mk then [PyData.str x] else []).map kd)) (Ev.weak (P := kd (.list (M.map .str))) (by walk_at "E ev") fun h v q => kd_lst q) ?md (op_addL ?zz)) fun h v q => lst_kd (ds := M.map PyData.str ++ (if mk then [PyData.str x] else [])) (by rw [List.map_append]; exact q)
        case zz =>
          rw [List.length_map, List.length_map, List.length_map]
          cases mk <;> simp <;> omega
        case md =>
          refine ev_ite (b := mk) (tr_plain (by walk_at "E ev") tru_bool) (fun h => ?_) (fun h => ?_)
          · rw [h]; exact ev_lst (Evs.cons (by walk_at "E ev") Evs.nil) (of_decide_eq_true rfl)
          · rw [h]; exact ev_lst Evs.nil (of_decide_eq_true rfl)
theorem evx_ofP {w : World} {A : Around} {F : Fm} {p c : Addr} {d k : Nat} {K : Heap} {env : Env} {e : PySem.Expr} {P : KP Value} {o : Obj} (x : EvP w A F p c d K env e P) (hp : PenD c o k) (hk : k + d ≤ 10000) : EvX w A (F.pen p o) K env e fun v mu' K' => ∃ o', mu' = (p, o') :: F.mu ∧ PenD c o' (k + d) ∧ P.p K' v := fun s st =>
  wpAny_mono (x o k s hp hk st) (fun v s1 y => by
    (refine ob1_5 y fun o1 a1 a2 a3 a4 a5 => ?_; try clear y)
    exact ⟨(p, o1) :: F.mu, _, st.in.trans a3, a2, o1, rfl, a1, a4⟩) fun _ _ y => y
theorem tup2 {P1 P2 P1' P2' : KP Value} {h : Heap} {v : Value} (x : (kTup [P1, P2]).p h v) (h1 : ∀ h v, P1.p h v → P1'.p h v) (h2 : ∀ h v, P2.p h v → P2'.p h v) : (kTup [P1', P2']).p h v := by
  (refine ob4_5 x fun a o vs n e g c d q => ?_; try clear x)
  refine mk4_5 a o vs n e g c d ?_
  generalize vs.toList = us at q
  (refine all2_2 q fun _ _ e_442 q1 q2 => ?_; clear q; subst e_442)
  exact .cons (h1 _ _ q1) (.cons (h2 _ _ q2) .nil)
def rows3 : List Str := [Str.ofString "feature liga { x }", Str.ofString "", Str.ofString "lookup x {"]
theorem rows3_ok : ∀ x ∈ rows3, PyData.strOk x = true := by decide +kernel
def kRow3 : KP Value := ⟨fun h v => ∃ x ∈ rows3, (kd (.str x)).p h v, fun k x_ => ob1_2 x_ fun x hx q => mk1_2 x hx ((kd _).mono k q)⟩
theorem row3_sub {w : World} {A : Around} {value slice : PySem.Expr} (hs : ∀ (o i : Value), subscripted slice false o i = operate [o, i] (getItem o i)) : O2 w A (subscriptTail value slice) (kTup [kd (.str (Str.ofString "feature liga { x }")), kd (.str (Str.ofString "")), kd (.str (Str.ofString "lookup x {"))]) (kDig 3) kRow3 := by
  refine list_sub rfl (by decide) kRow3 (fun i Q hQ h v q => ?_) hs
  have e : ([kd (.str (Str.ofString "feature liga { x }")), kd (.str (Str.ofString "")), kd (.str (Str.ofString "lookup x {"))] : List (KP Value)) = rows3.map fun x => kd (.str x) := rfl
  rw [e, List.getElem?_map, Option.map_eq_some_iff] at hQ
  (refine ob1_2 hQ fun x hx e_443 => ?_; try clear hQ; subst e_443)
  exact mk1_2 x (List.mem_of_getElem? hx) q
theorem step_up {w : World} {m m' r r' : Nat} (h1 : m ≤ m') (h2 : r ≤ r') {h : Heap} {v : Value} (x : (kStepR w m r).p h v) : (kStepR w m' r').p h v := by
  (refine ob6_1 x fun N C D M R b q_446 => ob0_4 q_446 fun a1 o_444 o_445 a6 => ?_; try clear x; (refine ob0_2 o_444 fun a2 a3 => ?_; try clear o_444); (refine ob0_2 o_445 fun a4 a5 => ?_; try clear o_445))
  exact mk6_1 N C D M R b ⟨a1, ⟨by omega, a3⟩, ⟨by omega, a5⟩, a6⟩
theorem step_spec {w : World} {N D : List (Str × Int)} {C : List (Int × Str)} {M R : List Str} {b : Bool} (hI : Inv N C D) (zM : M.length ≤ 800) (zR : R.length ≤ 800) (oM : ∀ x ∈ M, PyData.strOk x = true) (oR : ∀ x ∈ R, PyData.strOk x = true) :
    OnX w 680 (.ref 449) 20 [kB w (sI N) (iS C) (sI D) (M.map .str) (R.map .str) (kFt w b), kLst (kW w N C D M (R.map .str) b)] (kStepR w (M.length + 1) (R.length + 1)) := by
  intro A B0 s p c o k H vs outer fr ps hA hfr hd hu Dp hk hv
  (refine all2_2 hv fun v1 v2 e_447 h1 h2 => ?_; clear hv; subst e_447)
  k_dflt (refine' fn_enterX (binds := [("pen", .ref p), ("bench", v1), ("world", v2)]) Dp ?k6 ?k7 ?k8 ?k9 ?kB ?kD ?_ ?c2 ?c3 ?c4)
  case k6 | k7 => k_is
  case k8 => show A.depth < 1000; omega
  case k9 => exact BindsTo.of_eq rfl
  case kB => exact rfl
  case kD => decide +kernel
  case c2 | c3 | c4 => exact rfl
  intro L cells Y
  cases Y
  have SB := Dp.SB
  have D0 := Dp.D
  have sB := Dp.sB
  have zN := hI.zN
  have zC := hI.zC
  have zD := hI.zD
  dsimp only [List.cons_append, List.nil_append, List.append, Fm.pen]
  have hA' : ∀ env, (A.deeper env).handled = none := fun _ => hA
  have dr : ∀ {m : Nat}, 1 ≤ m → m ≤ 1000 → OnP w 900 (.ref 382) 1 [kd (.int (m : Nat))] (kDig m) := fun h1 h2 => draw_on h1 h2
  have dA : ∀ {env : Env} {k : Nat} {f : Value} {Ps : List (KP Value)} {P : KP Value}, On w (Al k k) f Ps P → 803 ≤ k → On w (A.deeper env) f Ps P := fun {env k f Ps P} h hk => on_any h (by exact hA) (by show A.depth + 1 ≤ k; omega) (by show A.units + 3 ≤ k; omega)
  (refine ob3_1 (around_eta hA hfr) fun dd uu gg eA => ?_)
  have hAe : ∀ env, A.deeper env = Ar (dd + 1) (uu + 3) (env :: outer) gg := fun env => by rw [eA]; rfl
  have hdd : dd ≤ 680 := by rw [eA] at hd; exact hd
  have huu : uu ≤ 680 := by rw [eA] at hu; exact hu
  have pkv : (kv (.ref p)).p (hideAll s.heap H) (.ref p) := rfl
  with_reducible refine run_assignP (F := ⟨s, hideAll s.heap (p :: 427 :: fr.map (·.1)), H, L, _, (427, tabObj ps) :: fr⟩) (d := 1) (P := kDig 5) ?way D0 ?ho (fun o2 K2 vn D2 S2 q2 => ?_) ?h1 ?h2 ?h3 ?h4
  case ho => omega
  case h1 | h2 | h3 | h4 => exact rfl
  case way => exact evp_call (n := 900) (Ps := [kd (.int (5 : Nat))]) (hA' _) (by show A.depth + 1 ≤ 900; omega) (by show A.units + 3 ≤ 900; omega) SB (fun o => by walk_at "E ev") (fun o => by walk_at "E args") (dr (m := 5) (by decide) (by decide)) (keep_ref (by k_is)) ⟨_, _, rfl⟩ rfl rfl
  dsimp only [List.cons_append, List.nil_append, List.append, Fm.up, Fm.pen]
  (refine ob2_2 q2 fun way tw hway e_448 => ?_; try clear q2; subst e_448)
  have pw : (kd (.int (way : Nat))).p K2 (.int (way : Nat) tw) := is_int
  have pkv2 : (kv (.ref p)).p K2 (.ref p) := rfl
  have h1' := (kB _ _ _ _ _ _ _).mono S2 h1
  have h2' := (kLst _).mono S2 h2
  have T2 : T427 ps K2 := Dp.T.mono S2
  by_cases w2 : way < 2
  case pos =>
    with_reducible refine run_if (b := true) ?ti (fun _ => ?yi) nob'
    case ti => exact tr_b (tr_cmp (by walk_at "E ev") (by walk_at "E ev") op_lt) (by simp; omega)
    case yi =>
      with_reducible refine runx_return (RV := fun v mu' K' => ∃ o' fr' ps', mu' = (p, o') :: (427, tabObj ps') :: fr' ∧ Fr2 fr fr' ∧ PenD c o' (k + 1 + 4) ∧ T427 ps' K' ∧ (kStepR w (M.length + 1) R.length).p K' v) ?ev (fun v s1 mu' K7 S7 st hv => ?fin)
      case fin =>
        (refine ob3_1 hv fun o' fr' ps' q_450 => ob0_5 q_450 fun e_449 f2 D3 t6 pv => ?_; try clear hv; subst e_449)
        exact outx_of (own := []) rfl st (D3.up (by omega)) f2 t6 (step_up (Nat.le_refl _) (by omega) pv)
      case ev =>
        with_reducible refine callx (f := .ref 432) (RL := fun vs mu1 K1 => mu1 = (p, o2) :: (427, tabObj ps) :: fr ∧ (KPs [kv (.ref p), kB w (sI N) (iS C) (sI D) (M.map .str) (R.map .str) (kFt w b), kLst (kW w N C D M (R.map .str) b)]).p K1 vs) ?hf (fun K6 S6 => evsx_of ?ar) (fun vs mu1 K1 S1 hl => ?work) ?kp ?hs ?hp ?hee
        case hf => walk_at "E ev"
        case kp => exact keep_ref (by k_is)
        case hs => exact ⟨_, _, rfl⟩
        case hp | hee => exact rfl
        case ar =>
          have pkv6 : (kv (.ref p)).p K6 (.ref p) := rfl
          walk_at "E args"
        case work =>
          (refine ob0_2 hl fun e_451 hvs => ?_; try clear hl; subst e_451)
          (refine all2_1c hvs fun _ _ e_453 e1 r_452 => ?_; clear hvs; subst e_453; revert r_452; intro hvs)
          have e1 : _ = Value.ref p := e1
          subst e1
          rw [hAe]
          exact callx_on (own := []) (grown_spec hI zM oM oR) (by omega) (by omega) Dp.fo rfl (by show ScopeKind.function ≠ ScopeKind.module; decide) SB Dp.b4 Dp.bf Dp.cd D2 (by omega) (T2.mono S1) hvs
  case neg =>
  with_reducible refine run_if (b := false) ?ti nob (fun _ => run_skip ?_)
  case ti => exact tr_b (tr_cmp (by walk_at "E ev") (by walk_at "E ev") op_lt) (by simp; omega)
  by_cases w3 : way = 2
  case pos =>
    with_reducible refine run_if (b := true) ?ti (fun _ => ?yi) nob'
    case ti => exact tr_b (tr_cmp (by walk_at "E ev") (by walk_at "E ev") op_eqI) (by simp; omega)
    case yi =>
      with_reducible refine run_assignP (F := ⟨s, hideAll s.heap (p :: 427 :: fr.map (·.1)), H, L, _, (427, tabObj ps) :: fr⟩) (d := 1) (P := kRow3) ?row D2 ?ho (fun o3 K3 vr D3 S3 q3 => ?_) ?h1 ?h2 ?h3 ?h4
      case ho => omega
      case h1 | h2 | h3 | h4 => exact rfl
      case row =>
        with_reducible refine evp_sub (d1 := 0) (d2 := 1) (P₂ := kDig 3) (evp_of fun o => ?e1) ?e2 (row3_sub ?e3)
        case e1 => walk_at "E ev"
        case e2 => exact evp_call (n := 900) (Ps := [kd (.int (3 : Nat))]) (hA' _) (by show A.depth + 1 ≤ 900; omega) (by show A.units + 3 ≤ 900; omega) SB (fun o => by walk_at "E ev") (fun o => by walk_at "E args") (dr (m := 3) (by decide) (by decide)) (keep_ref (by k_is)) ⟨_, _, rfl⟩ rfl rfl
        case e3 => exact fun _ _ => rfl
      dsimp only [List.cons_append, List.nil_append, List.append, Fm.up, Fm.pen]
      obtain ⟨r, hr, q3⟩ := q3
      with_reducible refine run_return (P := kSt w N C D M (R ++ [r]) true) ?ev (fun v s1 K7 S7 st pv => ?fin)
      case fin =>
        refine outx_of (own := []) rfl st (D3.up (by omega)) Fr2.refl (T2.mono (S3.trans S7)) ⟨N, C, D, M, R ++ [r], true, hI, ⟨by omega, oM⟩, ⟨by simp, fun y hy => ?_⟩, pv⟩
        rcases List.mem_append.mp hy with hy | hy
        · exact oR y hy
        · rw [List.mem_singleton.mp hy]; exact rows3_ok r hr
      case ev =>
        have eR : (R ++ [r]).map PyData.str = R.map PyData.str ++ [PyData.str r] := by simp
        unfold kSt
        rw [eR]
        with_reducible refine ev_tup (Evs.cons ?ya (Evs.cons ?yb Evs.nil ?ye) ?yf) ?yc
        case yc => exact of_decide_eq_true rfl
        case ye | yf => exact rfl
        case ya => exact ev_call (by walk_at "E ev") (by walk_at "E args") (dA (with_row_spec handed_ft (by rw [List.length_map]; omega)) (by decide)) (keep_ref (by k_is)) (.inr ⟨_, _, rfl⟩) rfl rfl
        case yb =>
          refine ev_bin (P₁ := kLst [ksd w (sI N), kid w (iS C), ksd w (sI D), kd (.list (M.map .str))]) (P₂ := kLst [kd (.list (R.map PyData.str ++ [PyData.str r])), kd (.bool true)]) (Ev.weak (P := kPl ((kW w N C D M (R.map .str) b).take 4)) (ev_slice (k := 4) (by walk_at "E ev") (of_decide_eq_true rfl) (of_decide_eq_true rfl)) fun h v q => pl_lst q) (ev_lst (Evs.cons ?rr (Evs.cons ev_bool Evs.nil rfl) rfl) (of_decide_eq_true rfl)) (op_addL (of_decide_eq_true rfl))
          refine Ev.weak (P := kLst ((R.map PyData.str).map kd ++ [kd (.str r)])) (ev_bin (P₁ := kLst ((R.map PyData.str).map kd)) (P₂ := kLst [kd (.str r)]) (Ev.weak (P := kd (.list (R.map .str))) (ev_sub (by walk_at "E ev") (by walk_at "E ev") (sub_lst (Ps := kW w N C D M (R.map .str) b) (i := 4) rfl (of_decide_eq_true rfl) (fun _ _ => rfl))) fun h v q => kd_lst q) (ev_lst (Evs.cons (by walk_at "E ev") Evs.nil rfl) (of_decide_eq_true rfl)) (op_addL (by rw [List.length_map, List.length_map]; simp only [List.length_cons, List.length_nil]; omega))) fun h v q => lst_kd (ds := R.map PyData.str ++ [PyData.str r]) (by rw [List.map_append]; exact q)
  case neg =>
  with_reducible refine run_if (b := false) ?ti nob (fun _ => run_skip ?_)
  case ti => exact tr_b (tr_cmp (by walk_at "E ev") (by walk_at "E ev") op_eqI) (by simp; omega)
  by_cases w4 : way = 3
  case pos =>
    with_reducible refine run_if (b := true) ?ti (fun _ => ?yi) nob'
    case ti => exact tr_b (tr_cmp (by walk_at "E ev") (by walk_at "E ev") op_eqI) (by simp; omega)
    case yi =>
      with_reducible refine run_return (P := kSt w N C D M R false) ?ev (fun v s1 K7 S7 st pv => ?fin)
      case fin =>
        exact outx_of (own := []) rfl st (D2.up (by omega)) Fr2.refl (T2.mono S7) ⟨N, C, D, M, R, false, hI, ⟨by omega, oM⟩, ⟨by omega, oR⟩, pv⟩
      case ev =>
        unfold kSt
        with_reducible refine ev_tup (Evs.cons ?ya (Evs.cons ?yb Evs.nil ?ye) ?yf) ?yc
        case yc => exact of_decide_eq_true rfl
        case ye | yf => exact rfl
        case ya =>
          refine Ev.weak (P := kB w (sI N) (iS C) (sI D) (M.map .str) (R.map .str) (kFont w [])) (ev_call (by walk_at "E ev") (Evs.cons (by walk_at "E ev") (Evs.cons (ev_call (P := kFont w []) (Ps := [kid w (iI [])]) (by walk_at "E ev") (Evs.cons (ev_dict0 _) Evs.nil rfl) (dA (law_font_spec List.nodup_nil nil_all (by decide)) (by decide)) (keep_ref (by k_is)) (.inr ⟨_, _, rfl⟩) rfl rfl) Evs.nil rfl) rfl) (dA (with_font_spec handed_ft handed_inst) (by decide)) (keep_ref (by k_is)) (.inr ⟨_, _, rfl⟩) rfl rfl) fun h v q => kB_font (fun h v q => ?_) q
          exact ⟨[], q⟩
        case yb =>
          exact ev_bin (P₁ := kLst [ksd w (sI N), kid w (iS C), ksd w (sI D), kd (.list (M.map .str)), kd (.list (R.map PyData.str))]) (P₂ := kLst [kd (.bool false)]) (Ev.weak (P := kPl ((kW w N C D M (R.map .str) b).take 5)) (ev_slice (k := 5) (by walk_at "E ev") (of_decide_eq_true rfl) (of_decide_eq_true rfl)) fun h v q => pl_lst q) (ev_lst (Evs.cons ev_bool Evs.nil rfl) (of_decide_eq_true rfl)) (op_addL (of_decide_eq_true rfl))
  case neg =>
  with_reducible refine run_if (b := false) ?ti nob (fun _ => run_skip ?_)
  case ti => exact tr_b (tr_cmp (by walk_at "E ev") (by walk_at "E ev") op_eqI) (by simp; omega)
  with_reducible refine runx_return (RV := fun v mu' K' => ∃ o', mu' = (p, o') :: (427, tabObj ps) :: fr ∧ PenD c o' (k + 1 + 10) ∧ (kCutR w N C D M).p K' v) ?ev (fun v s1 mu' K7 S7 st hv => ?fin)
  case ev =>
    with_reducible refine evx_ofP (F := ⟨s, hideAll s.heap (p :: 427 :: fr.map (·.1)), H, L, _, (427, tabObj ps) :: fr⟩) ?cut D2 ?ho
    case ho => omega
    case cut => exact evp_call (n := 800) (hA' _) (by show A.depth + 1 ≤ 800; omega) (by show A.units + 3 ≤ 800; omega) SB (fun o => by walk_at "E ev") (fun o => by walk_at "E args") (cut_law_spec (N := N) (D := D) (C := C) (M := M) (R := R.map .str) (f := kFt w b) (b0 := b) handed_ft hI.nk hI.dk hI.ck hI.lt hI.cn zN (by omega) (by omega) (by omega)) (keep_ref (by k_is)) ⟨_, _, rfl⟩ rfl rfl
  case fin =>
    obtain ⟨o', rfl, D3, G', g1, g2, pv⟩ := hv
    refine outx_of (own := []) rfl st (D3.up (by omega)) Fr2.refl (T2.mono S7) ⟨_, _, _, M.filter fun m => (look (cutN N (0 :: G')) m).isSome, [], false, inv_cut hI g1 g2, ⟨?_, ?_⟩, ⟨Nat.zero_le _, nil_all⟩, tup2 pv (fun h v q => kB_font (fun h v q => ?_) q) fun h v q => q⟩
    · have := List.length_filter_le (fun m => (look (cutN N (0 :: G')) m).isSome) M
      omega
    · exact fun y hy => oM y (List.mem_filter.mp hy).1
    · exact ⟨_, q⟩
theorem all2_kv {h : Heap} : ∀ {vs : List Value}, All2 (fun (P : KP Value) v => P.p h v) (vs.map kv) vs
  | [] => .nil
  | _ :: _ => .cons rfl all2_kv
section
variable {w : World} {A : Around} {F : Fm} {K : Heap} {env : Env} {e : PySem.Expr} {es : List PySem.Expr} {P : KP Value} {Ps : List (KP Value)} {pos : Pos} {R : Value → Led → Heap → Prop} {RL : List Value → Led → Heap → Prop} {Q : Heap → Obj → Prop}
theorem op_neD {K0 : Type} [DecidableEq K0] {knd : PySem.KeyKind PR w K0} {kvs : List (K0 × Str)} (hn : (kvs.map (·.1)).Nodup) (hu : A.units < cLine) : O2 w A (compareOp .NotEq) (kdct knd (kvs.map fun p => (p.1, PyData.str p.2))) (kdct knd (kvs.map fun p => (p.1, PyData.str p.2))) (kd (.bool false)) := by
  (intro s v u H g l o_455 o_457; (refine ob2_4 o_455 fun a va e_456 la da qa => ?_; try clear o_455; subst e_456); (refine ob2_4 o_457 fun b vb e_458 lb db qb => ?_; try clear o_457; subst e_458))
  have dA := da.keep (h' := s.heap) hide_sub
  have dB := db.keep (h' := s.heap) hide_sub
  have hits : ∀ (L : List (K0 × Str)) (va : List (K0 × Value)), (∀ p ∈ L, p ∈ kvs) → All2 (KvIs (hideAll s.heap H)) (L.map fun p => (p.1, PyData.str p.2)) va → KeqHits A.in1 s vb va true := by
    intro L
    induction L with
    | nil => intro va _ h; cases h; exact .nil
    | cons p L ih =>
      intro va hm h
      (refine all2_1c h fun q va e_459 h1 h2 => ?_; clear h; subst e_459)
      obtain ⟨k, v⟩ := q
      obtain ⟨e1, h1⟩ := h1
      have e1 : k = p.1 := e1
      subst e1
      (refine ob1_1 (kd_str h1) fun t e_460 => ?_; subst e_460)
      have hd : dget (kvs.map fun p => (p.1, PyData.str p.2)) p.1 = some (.str p.2) := dget_mem (by rw [List.map_map]; exact hn) (List.mem_map.mpr ⟨p, hm p (.head _), rfl⟩)
      (refine ob1_2 (dget_some qb hd) fun y hy hp => ?_)
      (refine ob1_1 (kd_str hp) fun t2 e_461 => ?_; subst e_461)
      have hh := KeqHits.hit (v := .str p.2 t) hy (SeqAt.EqAt.str_str (A := A.in1) (s := s) p.2 t p.2 t2) (ih va (fun p hp => hm p (.tail _ hp)) h2)
      simpa using hh
  refine keq_ne la lb dA dB hu (fun _ => hits kvs va (fun p hp => hp) qa) ⟨.rfl', ?_⟩
  have e1 : va.length = vb.length := by rw [← qa.length, ← qb.length]
  rw [e1, beq_self_eq_true]
  exact is_bool
theorem evx_new (x : EvN w A F K env e Q) (hm : ∀ h h' o, Sub h h' → Q h o → Q h' o) : EvX w A F K env e fun v mu' K' => ∃ a o, v = .ref a ∧ mu' = (a, o) :: F.mu ∧ K'.get? a = none ∧ a ∉ F.H ∧ (a == sysModules) = false ∧ Q K' o := fun s st => wpAny_mono (x s st) (fun v s1 z => by
  obtain ⟨k1, a, o, rfl, hn, ha, hlo, hq⟩ := z
  have st0 := st.grow k1
  have kn : Sub K (hideAll s1.heap (a :: F.hid)) := fun b ob q => hideAll_get _ (st0.sub _ _ q) fun hm => by
    rcases List.mem_cons.mp hm with rfl | hm
    · rw [none_of_sub st.sub hn] at q; exact nos q
    · rw [st.out _ hm] at q; exact nos q
  refine ⟨(a, o) :: F.mu, hideAll s1.heap (a :: F.hid), kn, ⟨st.g, st0.rl, st0.base, hide_sub, st0.ns, fun q hq => ?_, st0.live, fun b hb => hideAll_none _ ?_, st.bL, fun q hq => ?_, fun q hq => ?_, ?_⟩, a, o, rfl, rfl, hideAll_none _ (.head _), fun hm => (by obtain ⟨oh, q⟩ := st.live _ hm; rw [hn] at q; exact nos q), hlo, hq⟩
  · rcases List.mem_cons.mp hq with rfl | hq
    · exact ha
    · exact st0.mus q hq
  · rcases List.mem_cons.mp hb with rfl | hb
    · exact .tail _ (.head _)
    rcases List.mem_cons.mp hb with rfl | hb
    · exact .head _
    · exact .tail _ (.tail _ hb)
  · rcases List.mem_cons.mp hq with rfl | hq
    · exact none_of_sub st.base hn
    · exact st.bmu q hq
  · rcases List.mem_cons.mp hq with rfl | hq
    · (refine ob1_1 (st.lives F.L (.head _)) fun oL hoL => ?_)
      intro e
      change s.heap.get? a = none at hn
      change a = F.L at e
      rw [e, hoL] at hn; exact nos' hn
    · exact st.muL q hq
  · show (a :: F.mu.map (·.1)).Nodup
    rw [List.nodup_cons]
    refine ⟨fun hm => ?_, st.mnd⟩
    (refine ob1_2 (List.mem_map.mp hm) fun q hq e => ?_)
    have := st.mus q hq
    rw [e, hn] at this; exact nos this) fun _ _ y => y
theorem evx_tup {kc : Nat} (x : EvsX w A F K env es RL) (hz : ∀ vs mu' K', RL vs mu' K' → vs.length ≤ 10000) (hm : ∀ vs mu' K1 K2, Sub K1 K2 → RL vs mu' K1 → RL vs mu' K2) : EvX w A F K env (.Tuple es kc pos) fun v mu' K' => ∃ vs, (kTup (vs.map kv)).p K' v ∧ RL vs mu' K' := fun s st => by
  show wpAny _ _ (standAt pos >>= fun _ => spliced (backTo pos (starEach es env)) >>= fun vs => newTuple vs) _ _ _
  refine wpAny_bind (wpAny_standAt (wpAny_bind (wpAny_mono (x pos s st) (fun vs s1 y => ?_) fun _ _ y => y)))
  (refine ob2_3 y fun m1 K1 a b c => ?_; try clear y)
  have hl := hz _ _ _ c
  have kp : Kp s1 { s1 with heap := s1.heap.push { cls := .type "tuple", data := .seq vs.toArray } } := keeps_push (tk := s1.toks)
  have sK := b.in.trans (sub_hide kp.sub)
  refine wpAny_newTuple ⟨m1, _, a.trans sK, b.up kp, vs, ⟨s1.heap.objs.size, _, vs.toArray, 0, rfl, push_known b.lives, rfl, rfl, by rw [List.toList_toArray]; exact all2_kv⟩, hm _ _ _ _ sK c⟩ (by rw [sizeLine_eq]; omega)
end
section
variable {w : World} {A : Around}
theorem on_lenT : On w A (.builtin "len") [kv (.ref 375)] (kd (.int (22 : Nat))) := by
  intro s vs H g l hv
  (refine all2_1 hv fun _ e_463 h1 => ?_; clear hv; subst e_463)
  obtain rfl : _ = Value.ref 375 := h1
  (refine ob4_5 (kd_tup (tupStr_reads (w := w) (h := s.heap) g.X words_at)) fun a o vs n e ha hc hd q => ?_)
  cases e
  have e : vs.size = 22 := by
    rw [← Array.length_toList]
    have := q.length
    rw [List.length_map, List.length_map, words_len] at this
    exact this.symm
  refine len_tuple (items := vs) ⟨o, ha, hc, n, hd⟩ (by rw [e]; decide) ⟨keeps_tok, ?_⟩
  rw [e]; exact is_int
def kMost : KP Value := ⟨fun _ v => ∃ i t, (i = 65535 ∨ i = 12) ∧ v = .int i t, fun _ x => x⟩
theorem most_sub {value slice : PySem.Expr} (hs : ∀ (o i : Value), subscripted slice false o i = operate [o, i] (getItem o i)) : O2 w A (subscriptTail value slice) (kTup [kd (.int 65535), kd (.int 12)]) (kDig 2) kMost := by
  refine list_sub rfl (by decide) kMost (fun i Q hQ h v q => ?_) hs
  have e : ([kd (.int 65535), kd (.int 12)] : List (KP Value)) = ([65535, 12] : List Int).map fun x => kd (.int x) := rfl
  rw [e, List.getElem?_map, Option.map_eq_some_iff] at hQ
  (refine ob1_2 hQ fun x hx e_464 => ?_; try clear hQ; subst e_464)
  (refine ob1_1 (kd_int q) fun t e_465 => ?_; subst e_465)
  have := List.mem_of_getElem? hx
  simp at this
  exact mk2_2 x t this rfl
end
theorem run_rebase {w : World} {A : Around} {env : Env} {F : Fm} {K : Heap} {body : List Stmt} {R : Flow → Shared → Prop} {E : Value → Shared → Prop} (h : ∀ B, Sub F.B B → Sub K B → Run w A env ⟨F.s0, B, F.H, F.L, F.m, F.mu⟩ K body R E) : Run w A env F K body R E := fun s st => by
  have inB : ∀ b ∈ F.L :: F.mu.map (·.1), b ∈ F.hid := fun b hb => by
    rcases List.mem_cons.mp hb with rfl | hb
    · exact .head _
    · exact .tail _ (List.mem_append_left _ hb)
  have sB : Sub F.B (hideAll s.heap (F.L :: F.mu.map (·.1))) := sub_into st.base fun b hb => by
    rcases List.mem_cons.mp hb with rfl | hb
    · exact st.bL
    · (refine ob1_2 (List.mem_map.mp hb) fun q hq e_466 => ?_; subst e_466)
      exact st.bmu q hq
  exact h (hideAll s.heap (F.L :: F.mu.map (·.1))) sB (sub_into st.sub fun b hb => st.out b (inB b hb)) s ⟨st.g.mono sB, st.rl, hide_sub, st.sub, st.ns, st.mus, st.live, st.out, hideAll_none _ (.head _), fun q hq => hideAll_none _ (.tail _ (List.mem_map_of_mem (f := (·.1)) hq)), st.muL, st.mnd⟩
def wordOkB (x : Str) : Bool :=
  decide (x.length ≤ 63) && (signs x).all PyData.strOk && ((x == Str.ofString "") || !((signs x).filter (pzOf (Str.ofString "0123456789"))).isEmpty || (PySem.intText? x).isSome)
  && decide ((Txt.slice x (some 2) none).length = x.length - 2) && (signs (Txt.slice x (some 2) none)).all PyData.strOk && decide ((Txt.split x (Str.ofString ",")).length ≤ 100)
  && (Txt.split x (Str.ofString ",")).all fun q => decide ((Txt.slice q (some 2) none).length = q.length - 2) && (signs (Txt.slice q (some 2) none)).all PyData.strOk
theorem words_ok : ∀ x ∈ lawWords, wordOkB x = true := by decide +kernel
def numOf (x : Str) : Int := (PySem.intText? x).getD 0
structure WordOk (x : Str) : Prop where
  hw : x.length ≤ 63
  hs : ∀ c ∈ signs x, PyData.strOk c = true
  hn : (x == Str.ofString "") = false → (signs x).filter (pzOf (Str.ofString "0123456789")) = [] → PySem.intText? x = some (numOf x)
  hl : (Txt.slice x (some 2) none).length = x.length - 2
  h2 : ∀ c ∈ signs (Txt.slice x (some 2) none), PyData.strOk c = true
  hp : (Txt.split x (Str.ofString ",")).length ≤ 100
  hq : ∀ q ∈ Txt.split x (Str.ofString ","), (Txt.slice q (some 2) none).length = q.length - 2 ∧ ∀ c ∈ signs (Txt.slice q (some 2) none), PyData.strOk c = true
theorem word_ok {x : Str} (h : x ∈ lawWords) : WordOk x := by
  have e := words_ok x h
  unfold wordOkB at e
  simp only [Bool.and_eq_true, decide_eq_true_eq, List.all_eq_true] at e
  (refine ob0_2 e fun o_467 e7 => ?_; try clear e; (refine ob0_2 o_467 fun o_468 e6 => ?_; try clear o_467; (refine ob0_2 o_468 fun o_469 e5 => ?_; try clear o_468; (refine ob0_2 o_469 fun o_470 e4 => ?_; try clear o_469; (refine ob0_2 o_470 fun o_471 e3 => ?_; try clear o_470; (refine ob0_2 o_471 fun e1 e2 => ?_; try clear o_471))))))
  refine ⟨e1, e2, fun h1 h2 => ?_, e4, e5, e6, fun q hq => e7 q hq⟩
  rw [h1, h2] at e3
  have e3 : (PySem.intText? x).isSome = true := by simpa using e3
  (refine ob1_1 (Option.isSome_iff_exists.mp e3) fun n hn => ?_)
  unfold numOf
  rw [hn]; rfl
def faultD (place : Int) : PyData := .tuple [.str (Str.ofString "fault"), .int place]
def resD (place : Int) : Option Int → PyData
  | some n => .int n
  | none => faultD place
def resL (place : Int) : Option (List Int) → PyData
  | some ns => .list (ns.map .int)
  | none => faultD place
theorem lay_res {place : Int} {r : Option Int} : (resD place r).canLay0 = true := by
  cases r with
  | none => exact fault_lay
  | some n => rfl
theorem dep_res {place : Int} {r : Option Int} : (resD place r).depth ≤ 1000 := by
  cases r with
  | none => exact fault_depth
  | some n => simp [resD, PyData.depth]
theorem lay_resL {place : Int} {r : Option (List Int)} : (resL place r).canLay0 = true := by
  cases r with
  | none => exact fault_lay
  | some ns =>
    show PyData.canLay0 (.list (ns.map .int)) = true
    rw [PyData.canLay0]; exact lay_ints
theorem dep_ints : ∀ {ns : List Int}, PyData.depthAll (ns.map PyData.int) ≤ 10
  | [] => by simp [PyData.depthAll]
  | n :: ns => by
    have := dep_ints (ns := ns)
    rw [List.map_cons]
    simp only [PyData.depthAll, PyData.depth]
    omega
theorem dep_resL {place : Int} {r : Option (List Int)} : (resL place r).depth ≤ 1000 := by
  cases r with
  | none => exact fault_depth
  | some ns =>
    have := dep_ints (ns := ns)
    show PyData.depth (.list (ns.map .int)) ≤ 1000
    rw [PyData.depth]; omega
theorem dat_ints {h : Heap} {ns : List Int} {vs : List Value} (x : DatAll [] vs (ns.map Dat.int)) : All2 (fun (P : KP Value) v => P.p h v) (ns.map fun i => kd (.int i)) vs := by
  induction ns generalizing vs with
  | nil => cases x; exact .nil
  | cons n r ih => cases x with | cons a b => cases a; exact .cons is_int (ih b)
theorem list_kd {h : Heap} {D : Addr} {vs : List Value} {n : Nat} {ns : List Int} (e : h.get? D = some (listOf vs.toArray n)) (x : DatAll [] vs (ns.map Dat.int)) : (kd (.list (ns.map PyData.int))).p h (.ref D) :=
  lst_kd (ds := ns.map PyData.int) ⟨D, _, vs.toArray, n, rfl, e, rfl, rfl, by rw [List.toList_toArray, List.map_map]; exact dat_ints x⟩
section
variable {w : World} {F : Fm} {K : Heap} {env : Env} {outer : List Env} {mA fr : Led} {B0 : Heap} {d u : Nat} {gd : Option (List Code)} {wa : Addr} {q1 q2 q3 : Pos} {word : Str} {most place : Int} {t1 t2 t3 : Tok} {A : Around} {P : KP Value} {f : Value} {vs : List Value}
theorem new_hid {s : Shared} (st : St w F K s) {D : Addr} (hD : s.heap.get? D = none) : D ∉ F.hid := fun m => by
  (refine ob1_1 (st.lives D m) fun o e => ?_)
  rw [hD] at e; exact nos e
theorem heardx_number (hmu : F.mu = mA ++ fr) (fo : FrOk outer fr) (hf : env.frame = some F.L) (hk : env.scope.kind ≠ .module) (gt : GT w B0) (sB : Sub B0 F.B) (hd : d ≤ 780) (hu : u ≤ 700)
    (I : ∀ s, St w F K s → IsLam s.heap wa (Str.ofString "plain_number") (Str.ofString "word", q1, .str word t1) [(Str.ofString "most", q2, .int most t2), (Str.ofString "place", q3, .int place t3)]) (ok : WordOk word) :
    CallX w (Ar d u (env :: outer) gd) F K (.ref 396) [.ref wa] fun v mu' K' => ∃ fr', Fr2 fr fr' ∧ mu' = mA ++ fr' ∧ (kd (resD place (if numOk word (numOf word) most = true then some (numOf word) else none))).p K' v := by
  refine callx_raw hmu fo hf hk gt sB fun s base st B gb sKb hbb eb => ?_
  (refine ob5_1 gb.T fun pg loose mean mg mb T => ?_)
  refine heard_number B gb.X T (by omega) (by omega) (I s st) ok.hw ok.hs ok.hn fun v h' tk' a1 a2 a3 => ⟨h', tk', rfl, a1, a2, ?_⟩
  rcases a3 with ⟨n, t, e, rfl⟩ | ⟨e, D, t, t', rfl, e2, e3⟩
  · rw [e]; exact is_int
  · rw [e]; exact fault_kd (hideAll_get _ e3 (new_hid st e2))
theorem heardx_code (hmu : F.mu = mA ++ fr) (fo : FrOk outer fr) (hf : env.frame = some F.L) (hk : env.scope.kind ≠ .module) (gt : GT w B0) (sB : Sub B0 F.B) (hd : d ≤ 780) (hu : u ≤ 700)
    (I : ∀ s, St w F K s → IsLam s.heap wa (Str.ofString "plain_code") (Str.ofString "word", q1, .str word t1) [(Str.ofString "place", q3, .int place t3)]) (ok : WordOk word) :
    CallX w (Ar d u (env :: outer) gd) F K (.ref 396) [.ref wa] fun v mu' K' => ∃ fr', Fr2 fr fr' ∧ mu' = mA ++ fr' ∧ (kd (resD place (codeVal word))).p K' v := by
  refine callx_raw hmu fo hf hk gt sB fun s base st B gb sKb hbb eb => ?_
  (refine ob5_1 gb.T fun pg loose mean mg mb T => ?_)
  refine heard_code B gb.X T (by omega) (by omega) (I s st) ok.hw ok.h2 fun v h' tk' a1 a2 a3 => ⟨h', tk', rfl, a1, a2, ?_⟩
  rcases a3 with ⟨n, t, e, rfl⟩ | ⟨e, D, t, t', rfl, e2, e3⟩
  · rw [e]; exact is_int
  · rw [e]; exact fault_kd (hideAll_get _ e3 (new_hid st e2))
theorem heardx_text (hmu : F.mu = mA ++ fr) (fo : FrOk outer fr) (hf : env.frame = some F.L) (hk : env.scope.kind ≠ .module) (gt : GT w B0) (sB : Sub B0 F.B) (hd : d ≤ 780) (hu : u ≤ 700)
    (I : ∀ s, St w F K s → IsLam s.heap wa (Str.ofString "text_codes") (Str.ofString "word", q1, .str word t1) [(Str.ofString "place", q3, .int place t3)]) (ok : WordOk word) :
    CallX w (Ar d u (env :: outer) gd) F K (.ref 396) [.ref wa] fun v mu' K' => ∃ fr', Fr2 fr fr' ∧ mu' = mA ++ fr' ∧ (kd (resL place (textVal word))).p K' v := by
  refine callx_raw hmu fo hf hk gt sB fun s base st B gb sKb hbb eb => ?_
  (refine ob5_1 gb.T fun pg loose mean mg mb T => ?_)
  refine heard_text B gb.X T (by omega) (by omega) (I s st) ok.hw ok.hp (fun q hq => (ok.hq q hq).2) fun v h' tk' a1 a2 a3 => ⟨h', tk', rfl, a1, a2, ?_⟩
  rcases a3 with ⟨ns, D, vs, n, e, rfl, e2, e3, e4⟩ | ⟨e, D, t, t', rfl, e2, e3⟩
  · rw [e]; exact list_kd (hideAll_get _ e3 (new_hid st e2)) e4
  · rw [e]; exact fault_kd (hideAll_get _ e3 (new_hid st e2))
theorem callx_quiet (q : ∀ s, St w F K s → wpAny (model PR w) A (call f vs) (fun v s' => ∃ h' tk, s' = { s with heap := h', toks := tk } ∧ Sub s.heap h' ∧ P.p (hideAll h' F.hid) v) (fun _ _ => False) s) : CallX w A F K f vs fun v mu' K' => mu' = F.mu ∧ P.p K' v := fun s st => wpAny_mono (q s st) (fun v s' h => by
  (refine ob2_3 h fun h' tk e_472 k p => ?_; try clear h; subst e_472)
  have kp : Kp s { s with heap := h', toks := tk } := keeps_with k
  exact ⟨F.mu, _, st.in.trans (sub_hide kp.sub), st.up kp, rfl, p⟩) fun _ _ y => y
theorem lnumber_x (gt : GT w B0) (sB : Sub B0 F.B) (hA : A.handled = none) (hd : A.depth ≤ 780) (hu : A.units ≤ 700) (ok : WordOk word) : CallX w A F K (.ref 401) [.str word t1, .int most t2, .int place t3] fun v mu' K' => mu' = F.mu ∧ (kd (resD place (if numOk word (numOf word) most = true then some (numOf word) else none))).p K' v := by
  refine callx_quiet fun s st => ?_
  (refine ob5_1 gt.T fun pg loose mean mg mb T => ?_)
  refine lnumber_spec (sB.trans st.base) gt.X T hA (by omega) (by omega) ok.hw ok.hs ok.hn (fun h t h' tk' k => ⟨h', tk', rfl, k, ?_⟩) (fun h D t t' h' tk' e2 e3 k => ⟨h', tk', rfl, k, ?_⟩)
  · rw [if_pos h]; exact is_int
  · rw [if_neg (by rw [h]; decide)]; exact fault_kd (hideAll_get _ e3 (new_hid st e2))
theorem lcode_x (gt : GT w B0) (sB : Sub B0 F.B) (hA : A.handled = none) (hd : A.depth ≤ 780) (hu : A.units ≤ 700) (ok : WordOk word) : CallX w A F K (.ref 406) [.str word t1, .int place t3] fun v mu' K' => mu' = F.mu ∧ (kd (resD place (codeVal word))).p K' v := by
  refine callx_quiet fun s st => ?_
  (refine ob5_1 gt.T fun pg loose mean mg mb T => ?_)
  refine lcode_spec (sB.trans st.base) gt.X T hA (by omega) (by omega) ok.hw ok.hl ok.h2 (fun n h t h' tk' k => ⟨h', tk', rfl, k, ?_⟩) (fun h D t t' h' tk' e2 e3 k => ⟨h', tk', rfl, k, ?_⟩)
  · rw [h]; exact is_int
  · rw [h]; exact fault_kd (hideAll_get _ e3 (new_hid st e2))
theorem ltext_x (gt : GT w B0) (sB : Sub B0 F.B) (hA : A.handled = none) (hd : A.depth ≤ 780) (hu : A.units ≤ 700) (ok : WordOk word) : CallX w A F K (.ref 411) [.str word t1, .int place t3] fun v mu' K' => mu' = F.mu ∧ (kd (resL place (textVal word))).p K' v := by
  refine callx_quiet fun s st => ?_
  (refine ob5_1 gt.T fun pg loose mean mg mb T => ?_)
  refine ltext_spec (sB.trans st.base) gt.X T hA (by omega) (by omega) ok.hw ok.hp ok.hq (fun ns h D vs n h' tk' e2 e3 e4 k => ⟨h', tk', rfl, k, ?_⟩) (fun h D t t' h' tk' e2 e3 k => ⟨h', tk', rfl, k, ?_⟩)
  · rw [h]; exact list_kd (hideAll_get _ e3 (new_hid st e2)) e4
  · rw [h]; exact fault_kd (hideAll_get _ e3 (new_hid st e2))
end
abbrev tgt2 (x y : Str) (px py tp : Pos) (kc : Nat) : PySem.Expr := .Tuple [.Name x px, .Name y py] kc tp
theorem comp_turnsT {w : World} {A : Around} {R : Result → Shared → Prop} {s : Shared} {elt target iter : PySem.Expr} {ifs : List PySem.Expr} {scope : Scope} {pos : Pos} {it acc : Value} {env : Env} (J : Nat → Shared → Prop)
    (turn : ∀ n s, J n s → wpAny (model PR w) A (pyNext it) (fun r s₁ => match r with
      | none => R (.ok .next) s₁
      | some v => wpAny (model PR w) A (letOwnedTupleGo target it v) (fun _ s₂ => wpAny (model PR w) A (assign target env v) (fun _ s₃ => wpAny (model PR w) A (testsOf ifs env) (fun ok s₄ => ok = false ∧ ∃ m, m < n ∧ J m s₄) (fun _ _ => False) s₃) (fun _ _ => False) s₂) (fun _ _ => False) s₁) (fun _ _ => False) s)
    (n : Nat) (h : J n s) : codeAny (model PR w) A (.compLoop (.ListComp elt [⟨target, iter, ifs, 0⟩] scope pos) 0 it acc env) R s := by
  refine codeAny_loop rfl J (fun n s hJ => ?_) n h
  show wpAny _ A ((compTurn (.ListComp elt [⟨target, iter, ifs, 0⟩] scope pos) 0 it acc env).onRaise (fun x => do noteFrame x env; theTreesLotGoes x)) _ _ s
  refine wpAny_noted ?_
  rw [compTurn_list]
  refine wpAny_bind (wpAny_standAt (wpAny_bind (wpAny_mono (turn n s hJ) (fun r s₁ h₁ => ?_) fun _ _ y => y.elim)))
  cases r with
  | none => exact wpAny_pure h₁
  | some v =>
    refine wpAny_bind (wpAny_mono h₁ (fun _ s₂ h₂ => ?_) fun _ _ y => y.elim)
    refine wpAny_bind (wpAny_mono h₂ (fun _ s₃ h₃ => ?_) fun _ _ y => y.elim)
    refine wpAny_bind (wpAny_mono h₃ (fun ok s₄ h₄ => ?_) fun _ _ y => y.elim)
    obtain ⟨rfl, h₄⟩ := h₄
    exact wpAny_pure ⟨rfl, h₄⟩
inductive CJT (s : Shared) (L D : Addr) (wr : List Addr) (Stt : Nat → Heap → Prop) (n k : Nat) (s' : Shared) : Prop
  | mk (h' : Heap) (tk : Nat) (m' : Str → Option Value) (i : Nat) (e : s' = { s with heap := h', toks := tk }) (h1 : Stt i h') (h2 : h'.PlainList D #[]) (h3 : h'.Ns L m') (h5 : i ≤ n) (h6 : k = n + 1 - i) (h7 : ∀ b o, b ≠ L → b ∉ wr → b ≠ D → s.heap.get? b = some o → h'.get? b = some o) : CJT s L D wr Stt n k s'
theorem comp_loopT {w : World} {A : Around} {s : Shared} {R : Result → Shared → Prop} {elt iter : PySem.Expr} {x y : Str} {px py tp : Pos} {kc : Nat} {ifs : List PySem.Expr} {scope : Scope} {pos : Pos} {I D : Addr} {fp wr : List Addr} {n : Nat} {P : Nat → Value → Prop} {Stt : Nat → Heap → Prop} {Vals : Nat → Value → Value → Prop}
    {cenv : Env} {m : Str → Option Value} (W : Walks PR w A I fp wr n P Stt)
    (hgo : ∀ i (s : Shared) (T : Addr) (Q : Unit → Shared → Prop), Stt i s.heap → Q () s → wpAny (model PR w) A (letOwnedTupleGo (tgt2 x y px py tp kc) (.ref I) (.ref T)) Q (fun _ _ => False) s)
    (hx : cenv.kindOf x = some .local) (hy : cenv.kindOf y = some .local) (hxy : x ≠ y) (hp : (cenv.scope.kind == .class || (cenv.scope.kind == .module && cenv.locals != cenv.globals)) = false)
    (hDC : D ≠ cenv.locals) (hDf : D ∉ fp) (hCf : cenv.locals ∉ fp) (hst : Stt 0 s.heap) (hacc : s.heap.PlainList D #[]) (hn : s.heap.Ns cenv.locals m)
    (hun : ∀ i v h tk (Q : List Value → Shared → Prop), i < n → P i v → (∀ b o, b ≠ cenv.locals → b ∉ wr → b ≠ D → s.heap.get? b = some o → h.get? b = some o) → (∃ o, h.get? cenv.locals = some o) → (∃ o, h.get? D = some o) → Stt (i + 1) h →
      (∀ a b s₃, Kp { s with heap := h, toks := tk } s₃ → Vals i a b → Q [a, b] s₃) → (∃ T, v = .ref T) ∧ wpAny (model PR w) A (unpackItems v 2 none) Q (fun _ _ => False) { s with heap := h, toks := tk })
    (turn : ∀ i a b h tk m₃, i < n → Vals i a b → Stt (i + 1) h → h.Ns cenv.locals m₃ → m₃ x = some a → m₃ y = some b → (∃ o, h.get? D = some o) → (∀ b o, b ≠ cenv.locals → b ∉ wr → b ≠ D → s.heap.get? b = some o → h.get? b = some o) →
      wpAny (model PR w) A (testsOf ifs cenv) (fun ok s₃ => ok = false ∧ Kp { s with heap := h, toks := tk } s₃) (fun _ _ => False) { s with heap := h, toks := tk })
    (hR : ∀ h' tk m', h'.Ns cenv.locals m' → h'.PlainList D #[] → (∀ b o, b ≠ cenv.locals → b ∉ wr → b ≠ D → s.heap.get? b = some o → h'.get? b = some o) → R (.ok .next) { s with heap := h', toks := tk }) :
    codeAny (model PR w) A (.compLoop (.ListComp elt [⟨tgt2 x y px py tp kc, iter, ifs, 0⟩] scope pos) 0 (.ref I) (.ref D) cenv) R s := by
  refine comp_turnsT (CJT s cenv.locals D wr Stt n) ?_ (n + 1)
    ⟨s.heap, s.toks, m, 0, rfl, hst, hacc, hn, Nat.zero_le _, rfl, fun _ _ _ _ _ e => e⟩
  (intro k s' o_474; obtain ⟨H, tk, m', i, rfl, hst', hacc', hn', hi, rfl, hk⟩ := o_474)
  have hCw : cenv.locals ∉ wr := fun h => hCf (W.sub _ h)
  have hDw : D ∉ wr := fun h => hDf (W.sub _ h)
  by_cases hlt : i < n
  · refine W.item i _ _ _ hlt hst' fun v h₁ tk₁ hPv hst₁ hk₁ => ?_
    have hn₁ : h₁.Ns cenv.locals m' := hn'.at' fun o e => hk₁ _ o hCw e
    have acc₁ : h₁.PlainList D #[] := hacc'.at fun o e => hk₁ D o hDw e
    have up₁ : ∀ b o, b ≠ cenv.locals → b ∉ wr → b ≠ D → s.heap.get? b = some o → h₁.get? b = some o := fun b o c1 c2 c3 e => hk₁ b o c2 (hk b o c1 c2 c3 e)
    (refine ob3_2 hn₁ fun oC _ _ hoC _ => ?_; try clear hn₁)
    (refine ob1_1 acc₁ fun nD hoD => ?_; try clear acc₁)
    have hn₁ : h₁.Ns cenv.locals m' := hn'.at' fun o e => hk₁ _ o hCw e
    have acc₁ : h₁.PlainList D #[] := hacc'.at fun o e => hk₁ D o hDw e
    have un := fun (Q : List Value → Shared → Prop) => hun i v h₁ tk₁ Q hlt hPv up₁ ⟨oC, hoC⟩ ⟨_, hoD⟩ hst₁
    (refine ob0_2 (un (fun _ _ => True) fun _ _ _ _ _ => trivial) fun o_477 _ => ?_; (refine ob1_1 o_477 fun T e_478 => ?_; try clear o_477; subst e_478))
    refine hgo (i + 1) _ T _ hst₁ ?_
    show wpAny _ _ (standAt tp >>= fun _ => unpack (.ref T) (assignEach [.Name x px, .Name y py] cenv)) _ _ _
    refine wpAny_bind (wpAny_standAt ?_)
    unfold unpack
    refine wpAny_bind (wpAny_holding ?_)
    refine (un _ fun a b s₂ k₂ hv => ?_).2
    (refine ob2_2 k₂ fun h₂ tk₂ e_479 kk₂ => ?_; try clear k₂; subst e_479)
    have hst₂ : Stt (i + 1) h₂ := W.frame _ _ _ hst₁ fun b _ o e => kk₂ b o e
    have hn₂ := hn₁.keeps kk₂
    show wpAny _ _ (holding [b] (assign (.Name x px) cenv a) >>= fun _ => holding [] (assign (.Name y py) cenv b) >>= fun _ => pure ()) _ _ _
    refine wpAny_bind (wpAny_holding (assign_Name (wpAny_storeName_local hx hn₂ (fun h₃ hn₃ hs₃ => ?_) hp)))
    refine wpAny_bind (wpAny_holding (assign_Name (wpAny_storeName_local hy hn₃ (fun h₄ hn₄ hs₄ => ?_) hp)))
    refine wpAny_pure ?_
    have up₄ : ∀ b o, b ≠ cenv.locals → h₂.get? b = some o → h₄.get? b = some o := fun b o hb e => hs₄.extBut b o hb (hs₃.extBut b o hb e)
    have hst₄ : Stt (i + 1) h₄ := W.frame _ _ _ hst₂ fun b hb o e => up₄ b o (fun h => hCf (h ▸ hb)) e
    have acc₄ : h₄.PlainList D #[] := (acc₁.at fun o e => kk₂ _ o e).at fun o e => up₄ D o hDC e
    (refine ob1_1 acc₄ fun nD4 hoD4 => ?_; try clear acc₄)
    refine wpAny_mono (turn i a b h₄ _ _ hlt hv hst₄ hn₄ (by simp [hxy]) (by simp) ⟨_, hoD4⟩ fun b o c1 c2 c3 e => up₄ b o c1 (kk₂ b o (up₁ b o c1 c2 c3 e))) (fun ok s₅ h5 => ?_) fun _ _ e => e.elim
    obtain ⟨rfl, h₅, tk₅, rfl, hk₅⟩ := h5
    exact ⟨rfl, n + 1 - (i + 1), ms hlt, h₅, tk₅, _, i + 1, rfl, W.frame _ _ _ hst₄ fun b _ o e => hk₅ b o e, ⟨nD4, hk₅ _ _ hoD4⟩, hn₄.keeps hk₅, hlt, rfl, fun b o c1 c2 c3 e => hk₅ b o (up₄ b o c1 (kk₂ b o (up₁ b o c1 c2 c3 e)))⟩
  · have hin : i = n := Nat.le_antisymm hi (Nat.not_lt.mp hlt)
    subst hin
    refine W.done _ _ _ hst' fun h₁ tk₁ hk₁ => ?_
    exact hR h₁ tk₁ m' (hn'.at' fun o e => hk₁ _ o hCw e) (hacc'.at fun o e => hk₁ _ o hDw e) fun b o c1 c2 c3 e => hk₁ b o c2 (hk b o c1 c2 c3 e)

section
variable {w : World} {A : Around} {F : Fm} {K : Heap} {env : Env} {elt iter c : PySem.Expr} {x y : Str} {px py tp pos : Pos} {kc : Nat} {scope : Scope} {cl : List (Str × Addr)} {α : Type} {L : List α} {fa fb : α → KP Value}
theorem ev_compT (src : Ev w A F K env iter (kLst (L.map fun t => kTup [fa t, fb t]))) (hA : A.handled = none) (hz : L.length ≤ 10000)
    (hclos : closureFor scope env = pure cl) (hcell : ∀ y ∈ scope.names, y.2 ≠ .cell) (hkind : scope.kind = .function)
    (hnames : ∀ y ∈ scope.names, y.2 = .local → scope.names.lookup y.1 = some .local) (hx : scope.names.lookup x = some .local) (hy : scope.names.lookup y = some .local) (hxy : x ≠ y)
    (turn : ∀ t ∈ L, ∀ C D wr m₃ a b K1, m₃ x = some a → m₃ y = some b → Sub K K1 → (fa t).p K1 a → (fb t).p K1 b → Tr w A ⟨F.s0, F.B, D :: (wr ++ F.L :: F.H), C, m₃, F.mu⟩ K1 (compEnvC scope cl C env) c false)
    (hs : ∀ x, foldedSetIterable iter env x = pure x := by intro _; rfl) : Ev w A F K env (.ListComp elt [⟨tgt2 x y px py tp kc, iter, [c], 0⟩] scope pos) (kPl []) := fun s st => by
  rw [eval_ListComp]
  refine wpAny_comprehension_free (use := none) rfl hs hclos hkind hnames ((src s st).use fun xv s₁ k₁ p₁ => ?_)
  have st1 := st.up k₁
  have p₀ := p₁
  (refine ob4_5 p₁ fun ax oax us nus e_482 hax hcx hdx qx => ?_; try clear p₁; subst e_482)
  have hIL : s₁.heap.IsList ax us := ⟨oax, hide_sub _ _ hax, hcx, nus, hdx⟩
  have hlen : L.length = us.size := by rw [← Array.length_toList]; have := qx.length; rw [List.length_map] at this; exact this
  have hne : ax ≠ s₁.heap.objs.size := Nat.ne_of_lt (Heap.lt_size (hide_sub _ _ hax))
  refine wpAny_pyIter_list hIL ?_
  have W : Walks PR w A s₁.heap.objs.size [s₁.heap.objs.size, ax] [s₁.heap.objs.size] us.size _ _ := Walks.list hA s₁.heap.objs.size ax hne us
  have k2 : Sub s₁.heap (s₁.heap.push { cls := .type "list_iterator", data := .fields #[.ref ax, .int 0 0] }) := fun b o e => Heap.get?_push_of_some _ e
  have hst : (s₁.heap.push { cls := .type "list_iterator", data := .fields #[.ref ax, .int 0 0] }).IsListIter s₁.heap.objs.size ax 0 ∧ (s₁.heap.push { cls := .type "list_iterator", data := .fields #[.ref ax, .int 0 0] }).IsList ax us := ⟨⟨_, Heap.get?_push_size _ rfl, rfl, rfl⟩, hIL.at fun o q => Heap.get?_push_of_some _ q⟩
  have hI1 : s₁.heap.get? s₁.heap.objs.size = none := Heap.get?_none_of_le (Nat.le_refl _)
  have hI2 : ∃ o, (s₁.heap.push { cls := .type "list_iterator", data := .fields #[.ref ax, .int 0 0] }).get? s₁.heap.objs.size = some o := ⟨_, Heap.get?_push_size _ rfl⟩
  generalize s₁.heap.objs.size = I at W hne hst hI1 hI2 ⊢
  generalize s₁.heap.push _ = h2 at k2 hst hI2 ⊢
  have hwr : ∀ b ∈ [I], s₁.heap.get? b = none := fun b hb => by rw [List.mem_singleton.mp hb]; exact hI1
  have hax2 := k2 _ _ (hide_sub _ _ hax)
  have hfp : ∀ b ∈ [I, ax], ∃ o, h2.get? b = some o := fun b hb => by
    rcases List.mem_cons.mp hb with rfl | hb
    · exact hI2
    · rw [List.mem_singleton.mp hb]; exact ⟨_, hax2⟩
  refine wpAny_newObj_type (wpAny_newFunctionEnv hcell (by intro y hy; simp at hy) (fun h₁ hns₁ hsb₁ => ?_) hkind)
  dsimp only at hns₁ hsb₁ ⊢
  generalize hH2 : h2.push { cls := .type "list", dict := none, data := .seq ([] : List Value).toArray } = H2 at hns₁ hsb₁ ⊢
  have hC : H2.objs.size = h2.objs.size + 1 := by rw [← hH2, Heap.size_push]
  have lt : ∀ b o, h2.get? b = some o → b ≠ H2.objs.size ∧ b ≠ h2.objs.size := fun b o q => by
    have := Heap.lt_size q
    rw [hC]
    exact ⟨Nat.ne_of_lt (Nat.lt_succ_of_lt this), Nat.ne_of_lt this⟩
  have hDC : h2.objs.size ≠ H2.objs.size := by rw [hC]; exact Nat.ne_of_lt (Nat.lt_succ_self _)
  have old : ∀ b o, h2.get? b = some o → h₁.get? b = some o := fun b o e => hsb₁.extBut b o (lt b o e).1 (Heap.get?_push_of_some _ (hH2 ▸ Heap.get?_push_of_some _ e))
  have hacc : h₁.PlainList h2.objs.size #[] := ⟨_, hsb₁.extBut _ _ hDC (Heap.get?_push_of_some _ (hH2 ▸ Heap.get?_push_size _ rfl))⟩
  have hst₁ : h₁.IsListIter I ax 0 ∧ h₁.IsList ax us := W.frame _ _ _ hst fun b _ o e => old b o e
  have fpn : ∀ b ∈ [I, ax], b ≠ H2.objs.size ∧ b ≠ h2.objs.size := fun b hb => by obtain ⟨o, q⟩ := hfp b hb; exact lt b o q
  have none1 : ∀ b, h2.objs.size ≤ b → s₁.heap.get? b = none := fun b hb => by
    cases q : s₁.heap.get? b with
    | none => rfl
    | some o => exact absurd (Heap.lt_size (k2 _ _ q)) (Nat.not_lt.mpr hb)
  have hD1 : s₁.heap.get? h2.objs.size = none := none1 _ (Nat.le_refl _)
  have hC1 : s₁.heap.get? H2.objs.size = none := none1 _ (by rw [hC]; exact Nat.le_succ _)
  have subF : ∀ (Kx : Heap), Sub Kx s₁.heap → ∀ {b}, s₁.heap.get? b = none → Kx.get? b = none := fun Kx hK b q => by
    cases z : Kx.get? b with
    | none => rfl
    | some o => rw [hK _ _ z] at q; exact nos' q
  have keep3 : ∀ (h3 : Heap), (∀ b o, b ≠ H2.objs.size → b ∉ [I] → b ≠ h2.objs.size → h₁.get? b = some o → h3.get? b = some o) → Sub s₁.heap h3 := fun h3 hk3 b o q => hk3 b o (fun z => by rw [z, hC1] at q; exact nos q) (fun z => by rw [hwr b z] at q; exact nos q) (fun z => by rw [z, hD1] at q; exact nos q) (old b o (k2 b o q))
  have tost : ∀ (h3 : Heap) (tk3 : Nat) (m₃ : Str → Option Value) (i : Nat), (h3.IsListIter I ax i ∧ h3.IsList ax us) → h3.Ns H2.objs.size m₃ → (∃ o, h3.get? h2.objs.size = some o) → (∀ b o, b ≠ H2.objs.size → b ∉ [I] → b ≠ h2.objs.size → h₁.get? b = some o → h3.get? b = some o) →
      St w ⟨F.s0, F.B, h2.objs.size :: ([I] ++ F.L :: F.H), H2.objs.size, m₃, F.mu⟩ (hideAll s₁.heap F.hid) { s₁ with heap := h3, toks := tk3 } := fun h3 tk3 m₃ i hi3 hn3 hD3 hk3 => by
    have k3 := keep3 h3 hk3
    refine ⟨st.g, st1.rl.trans ⟨_, _, rfl⟩, st1.base.trans k3, hide_sub.trans k3, hn3, fun q hq => k3 _ _ (st1.mus q hq), fun b hb => ?_, fun b hb => ?_, subF F.B st1.base hC1, st.bmu, fun q hq e => ?_, st.mnd⟩
    · rcases List.mem_cons.mp hb with rfl | hb
      · exact hD3
      rcases List.mem_append.mp hb with hb | hb
      · rw [List.mem_singleton.mp hb]
        (refine ob0_2 hi3 fun o_483 _ => ?_; try clear hi3; (refine ob1_2 o_483 fun o e _ => ?_; try clear o_483))
        exact ⟨o, e⟩
      · obtain ⟨o, q⟩ := st1.lives b (by
          rcases List.mem_cons.mp hb with rfl | hb
          · exact .head _
          · exact .tail _ (List.mem_append_right _ hb))
        exact ⟨o, k3 _ _ q⟩
    · have hid1 : ∀ {b}, b ∈ F.hid → (hideAll s₁.heap F.hid).get? b = none := fun h => hideAll_none _ h
      rcases List.mem_cons.mp hb with rfl | hb
      · exact subF _ hide_sub hC1
      rcases List.mem_append.mp hb with hb | hb
      · exact hid1 (.tail _ (List.mem_append_left _ hb))
      rcases List.mem_cons.mp hb with rfl | hb
      · exact subF _ hide_sub hD1
      rcases List.mem_append.mp hb with hb | hb
      · exact subF _ hide_sub (hwr b hb)
      rcases List.mem_cons.mp hb with rfl | hb
      · exact hid1 (.head _)
      · exact hid1 (.tail _ (List.mem_append_right _ hb))
    · have := st1.mus q hq
      rw [e] at this
      change s₁.heap.get? H2.objs.size = some _ at this
      rw [hC1] at this; exact nos this
  have loop : ∀ s₃ : Shared, s₃ = { s₁ with heap := h₁, toks := s₁.toks + ([] : List (Str × Value)).length } →
      codeAny (model PR w) A (.compLoop (.ListComp elt [⟨tgt2 x y px py tp kc, iter, [c], 0⟩] scope pos) 0 (.ref I) (.ref h2.objs.size) (compEnvC scope cl H2.objs.size env))
        (compPost (model PR w) A (fun _ _ => False) none (fun a s' => Kp s s' ∧ (kPl []).p (hideAll s'.heap F.hid) a) (.ref h2.objs.size) H2.objs.size) s₃ := by
    rintro s₃ rfl
    refine comp_loopT (cenv := compEnvC scope cl H2.objs.size env) (Vals := fun i a b => ∃ t ∈ L, (fa t).p (hideAll s₁.heap F.hid) a ∧ (fb t).p (hideAll s₁.heap F.hid) b) W (fun i s T Q hq h => wpAny_letOwnedTupleGo_listiter hq.1 h) (lookup_relabel_local hx) (lookup_relabel_local hy) hxy (by simp [compEnvC, relabel, hkind]) hDC (fun hm => (fpn _ hm).2 rfl) (fun hm => (fpn _ hm).1 rfl) hst₁ hacc hns₁
      (fun i v h3 tk3 Q hin hPv hk3 hC3 hD3 hst3 hQ => ?_) (fun i a b h3 tk3 m₃ hin hv hst3 hn3 hmx hmy hD3 hk3 => ?_) (fun h' tk m' hn' hpl hk => ?_)
    · obtain ⟨t, ht, hp⟩ : ∃ t ∈ L, (kTup [fa t, fb t]).p (hideAll s₁.heap F.hid) v := by
        have hil : i < L.length := by omega
        have hi2 : (L.map fun t => kTup [fa t, fb t])[i]? = some (kTup [fa L[i], fb L[i]]) := by rw [List.getElem?_map, List.getElem?_eq_getElem hil]; rfl
        (refine ob1_2 (qx.get' hi2) fun x hx hp => ?_)
        rw [Array.getElem?_toList, hPv] at hx
        obtain rfl := Option.some.inj hx
        exact mk1_2 (L[i]) (List.getElem_mem _) hp
      have k3 := keep3 h3 hk3
      have l3 : Live F.hid h3 := st1.lives.mono k3
      (refine ob4_5 hp fun T oT ws nT e_485 hT hcT hdT qT => ?_; try clear hp; subst e_485)
      obtain ⟨a0, b0, ew, pa, pb⟩ : ∃ a0 b0, ws.toList = [a0, b0] ∧ (fa t).p (hideAll s₁.heap F.hid) a0 ∧ (fb t).p (hideAll s₁.heap F.hid) b0 := by
        generalize ws.toList = us2 at qT
        (refine all2_2 qT fun _ _ e_486 q1 q2 => ?_; clear qT; subst e_486)
        exact mk2_3 _ _ rfl q1 q2
      refine ⟨⟨T, rfl⟩, ?_⟩
      refine unpack_items (T := "tuple") (Ps := [kv a0, kv b0]) (s := { s₁ with heap := h3, toks := tk3 }) (H := F.hid) (.inr rfl) hA (st1.gh.mono k3) l3 ⟨T, oT, ws, nT, rfl, sub_hide k3 _ _ hT, hcT, hdT, by rw [ew]; exact .cons rfl (.cons rfl .nil)⟩ fun vs s4 k4 hall => ?_
      (refine all2_2 hall fun _ _ e_487 v1 v2 => ?_; clear hall; subst e_487)
      have v1 : _ = a0 := v1
      have v2 : _ = b0 := v2
      subst v1 v2
      exact hQ _ _ s4 k4 ⟨t, ht, pa, pb⟩
    · (refine ob1_3 hv fun t ht pa pb => ?_; try clear hv)
      have tr := turn t ht H2.objs.size h2.objs.size [I] m₃ a b (hideAll s₁.heap F.hid) hmx hmy (st.in.trans (sub_hide k₁.sub)) pa pb
      exact wpAny_tests_one ((tr _ (tost h3 tk3 m₃ (i + 1) hst3 hn3 hD3 hk3)).use fun ok s3 k3 p3 => ⟨p3, k3⟩)
    · refine mk1_2 m' hn' (fun h'' sb => ?_)
      have kk : Sub s₁.heap h'' := fun b o q => sb.extBut b o (fun z => by rw [z] at q; exact absurd (q.symm.trans hC1) (by simp)) (hk b o (fun z => by rw [z] at q; exact absurd (q.symm.trans hC1) (by simp)) (fun z => by rw [hwr b z] at q; exact nos q) (fun z => by rw [z, hD1] at q; exact nos q) (old b o (k2 b o q)))
      have hDn : h2.objs.size ∉ F.hid := fun hm => by
        (refine ob1_1 (st1.lives _ hm) fun o q => ?_)
        rw [hD1] at q; exact nos q
      (refine ob1_1 (hpl.extBut sb.extBut hDC) fun nn hpl => ?_)
      exact ⟨k₁.trans' ⟨h'', _, rfl, kk⟩, h2.objs.size, #[], nn, rfl, hideAll_get _ hpl hDn, .nil⟩
  exact codeAny_compStart_list (loop _ rfl) (W.self 0 _ _ _ hst₁ (loop _ rfl))
end
structure Dt where
  N : List (Str × Int)
  C : List (Int × Str)
  D : List (Str × Int)
  M : List Str
  R : List Str
  b : Bool
structure Dt.Ok (t : Dt) (n : Nat) : Prop where
  inv : Inv t.N t.C t.D
  zM : t.M.length ≤ n
  zR : t.R.length ≤ n
  oM : ∀ x ∈ t.M, PyData.strOk x = true
  oR : ∀ x ∈ t.R, PyData.strOk x = true
abbrev kBd (w : World) (t : Dt) : KP Value := kB w (sI t.N) (iS t.C) (sI t.D) (t.M.map .str) (t.R.map .str) (kFt w t.b)
abbrev kWd (w : World) (t : Dt) : KP Value := kLst (kW w t.N t.C t.D t.M (t.R.map .str) t.b)
def Dt.sh (t : Dt) : PyData := shownD t.N t.C t.D t.M (t.R.map .str) t.b
abbrev kHd (w : World) (t : Dt) : KP Value := kTup [kBd w t, kd t.sh]
theorem dt_of {w : World} {m r n : Nat} (hm : m ≤ n) (hr : r ≤ n) {h : Heap} {v : Value} (x : (kStepR w m r).p h v) : ∃ t : Dt, t.Ok n ∧ (kTup [kBd w t, kWd w t]).p h v := by
  (refine ob6_1 x fun N C D M R b q_490 => ob0_4 q_490 fun a1 o_488 o_489 a6 => ?_; try clear x; (refine ob0_2 o_488 fun a2 a3 => ?_; try clear o_488); (refine ob0_2 o_489 fun a4 a5 => ?_; try clear o_489))
  exact mk1_2 ⟨N, C, D, M, R, b⟩ ⟨a1, by show M.length ≤ n; omega, by show R.length ≤ n; omega, a3, a5⟩ a6
theorem six_ok : ∀ x ∈ six, PyData.strOk x = true := by decide +kernel
theorem lay_all {ds : List PyData} (h : ∀ d ∈ ds, d.canLay0 = true) : PyData.canLayAll0 ds = true := by
  induction ds with
  | nil => rfl
  | cons d ds ih =>
    rw [PyData.canLayAll0, h d (.head _), ih fun e he => h e (.tail _ he)]; rfl
theorem dep_all {ds : List PyData} {k : Nat} (h : ∀ d ∈ ds, d.depth ≤ k) : PyData.depthAll ds ≤ k + 10 := by
  induction ds with
  | nil => simp [PyData.depthAll]
  | cons d ds ih =>
    have h1 := h d (.head _)
    have h2 := ih fun e he => h e (.tail _ he)
    simp only [PyData.depthAll]
    omega
theorem sort_mem {L : List PyData} {d : PyData} (h : d ∈ sortD L) : d = .none ∨ d ∈ L := by
  unfold sortD at h
  (refine ob1_2 (List.mem_map.mp h) fun i _ e_491 => ?_; subst e_491)
  by_cases hi : i < L.length
  · right
    simp only [List.getD, List.getElem?_eq_getElem hi, Option.getD_some]
    exact List.getElem_mem _
  · left
    simp only [List.getD, List.getElem?_eq_none (Nat.le_of_not_lt hi), Option.getD_none]
theorem lay_str {x : Str} (h : PyData.strOk x = true) : (PyData.str x).canLay0 = true := by rw [PyData.canLay0]; exact h
theorem lay_pair {a b : PyData} (h1 : a.canLay0 = true) (h2 : b.canLay0 = true) : (PyData.tuple [a, b]).canLay0 = true := by
  rw [PyData.canLay0, PyData.canLayAll0, PyData.canLayAll0, PyData.canLayAll0, h1, h2]; rfl
theorem lay_list {ds : List PyData} (h : ∀ d ∈ ds, d.canLay0 = true) : (PyData.list ds).canLay0 = true := by rw [PyData.canLay0]; exact lay_all h
theorem dep_list {ds : List PyData} {k : Nat} (h : ∀ d ∈ ds, d.depth ≤ k) : (PyData.list ds).depth ≤ k + 20 := by
  have := dep_all h
  rw [PyData.depth]; omega
theorem lay_sort {L : List PyData} (h : ∀ d ∈ L, d.canLay0 = true) : (PyData.list (sortD L)).canLay0 = true := lay_list fun d hd => by
  rcases sort_mem hd with rfl | hd
  · rfl
  · exact h d hd
theorem dep_sort {L : List PyData} (h : ∀ d ∈ L, d.depth ≤ 50) : (PyData.list (sortD L)).depth ≤ 70 := dep_list fun d hd => by
  rcases sort_mem hd with rfl | hd
  · simp [PyData.depth]
  · exact h d hd
theorem dep_str {x : Str} : (PyData.str x).depth ≤ 50 := by simp [PyData.depth]
theorem tS {N : List (Str × Int)} {d : PyData} (h : d ∈ tupsOf PyData.str (sI N)) : ∃ p ∈ N, d = .tuple [.str p.1, .int p.2] := by
  (refine ob1_2 (List.mem_map.mp h) fun q hq e_492 => ?_; subst e_492)
  (refine ob1_2 (List.mem_map.mp hq) fun p hp e_493 => ?_; subst e_493)
  exact mk1_2 p hp rfl
theorem tI {N : List (Int × Str)} {d : PyData} (h : d ∈ tupsOf PyData.int (iS N)) : ∃ p ∈ N, d = .tuple [.int p.1, .str p.2] := by
  (refine ob1_2 (List.mem_map.mp h) fun q hq e_494 => ?_; subst e_494)
  (refine ob1_2 (List.mem_map.mp hq) fun p hp e_495 => ?_; subst e_495)
  exact mk1_2 p hp rfl
theorem look_mem_key {V : Type} {L : List (Str × V)} {x : Str} {v : V} (h : look L x = some v) : ∃ p ∈ L, p.1 = x := by
  unfold look at h
  (refine ob1_2 (Option.map_eq_some_iff.mp h) fun p hp _ => ?_)
  exact mk1_2 p (List.mem_of_find?_eq_some hp) (by simpa using List.find?_some hp)
theorem Dt.lay {t : Dt} {n : Nat} (h : t.Ok n) : t.sh.canLay0 = true := by
  unfold Dt.sh shownD
  refine lay_list fun d hd => ?_
  simp only [List.mem_cons, List.not_mem_nil, or_false] at hd
  rcases hd with rfl | rfl | rfl | rfl | rfl | rfl
  · refine lay_sort fun d hd => ?_
    (refine ob1_2 (tS hd) fun p hp e_496 => ?_; subst e_496)
    exact lay_pair (lay_str (six_ok _ (h.inv.s6 p hp))) rfl
  · refine lay_sort fun d hd => ?_
    (refine ob1_2 (tI hd) fun p hp e_497 => ?_; subst e_497)
    (refine ob1_2 (h.inv.cn p hp) fun i e _ => ?_)
    (refine ob1_2 (look_mem_key e) fun q hq eq => ?_)
    exact lay_pair rfl (lay_str (eq ▸ six_ok _ (h.inv.s6 q hq)))
  · refine lay_sort fun d hd => ?_
    (refine ob1_2 (tS hd) fun p hp e_498 => ?_; subst e_498)
    exact lay_pair (lay_str (six_ok _ (h.inv.ds p hp))) rfl
  · refine lay_list fun d hd => ?_
    (refine ob1_2 (List.mem_map.mp hd) fun x hx e_499 => ?_; subst e_499)
    exact lay_str (h.oM x hx)
  · refine lay_list fun d hd => ?_
    (refine ob1_2 (List.mem_map.mp hd) fun x hx e_500 => ?_; subst e_500)
    exact lay_str (h.oR x hx)
  · rfl
theorem dep_pair {a b : PyData} (h1 : a.depth ≤ 20) (h2 : b.depth ≤ 20) : (PyData.tuple [a, b]).depth ≤ 50 := by
  simp only [PyData.depth, PyData.depthAll]
  omega
theorem Dt.dep {t : Dt} : t.sh.depth ≤ 1000 := by
  unfold Dt.sh shownD
  have key : ∀ d ∈ ([.list (sortD (tupsOf PyData.str (sI t.N))), .list (sortD (tupsOf PyData.int (iS t.C))), .list (sortD (tupsOf PyData.str (sI t.D))), .list (t.M.map .str), .list (t.R.map .str), .bool t.b] : List PyData), d.depth ≤ 100 := by
    intro d hd
    simp only [List.mem_cons, List.not_mem_nil, or_false] at hd
    rcases hd with rfl | rfl | rfl | rfl | rfl | rfl
    · refine Nat.le_trans (dep_sort fun d hd => ?_) (by decide)
      (refine ob1_2 (tS hd) fun p hp e_501 => ?_; subst e_501)
      exact dep_pair (by simp [PyData.depth]) (by simp [PyData.depth])
    · refine Nat.le_trans (dep_sort fun d hd => ?_) (by decide)
      (refine ob1_2 (tI hd) fun p hp e_502 => ?_; subst e_502)
      exact dep_pair (by simp [PyData.depth]) (by simp [PyData.depth])
    · refine Nat.le_trans (dep_sort fun d hd => ?_) (by decide)
      (refine ob1_2 (tS hd) fun p hp e_503 => ?_; subst e_503)
      exact dep_pair (by simp [PyData.depth]) (by simp [PyData.depth])
    · refine Nat.le_trans (dep_list (k := 50) fun d hd => ?_) (by decide)
      (refine ob1_2 (List.mem_map.mp hd) fun x hx e_504 => ?_; subst e_504)
      exact dep_str
    · refine Nat.le_trans (dep_list (k := 50) fun d hd => ?_) (by decide)
      (refine ob1_2 (List.mem_map.mp hd) fun x hx e_505 => ?_; subst e_505)
      exact dep_str
    · simp [PyData.depth]
  exact Nat.le_trans (dep_list key) (by decide)
def qL : Str := Str.ofString "law.<locals>.<lambda>"
def T456 (ps : Array Value) (h : Heap) : Prop := ∃ xs, Trip qL xs ps.toList h
theorem T456.mono {ps : Array Value} {h h' : Heap} (k : Sub h h') (x : T456 ps h) : T456 ps h' := let ⟨xs, t⟩ := x; ⟨xs, t.mono k⟩
section
variable {w : World} {A : Around} {F : Fm} {K : Heap} {env : Env} {outer : List Env} {B0 : Heap} {d u : Nat} {gd : Option (List Code)} {f : Value} {vs : List Value} {RV RV' : Value → Led → Heap → Prop} {l : Addr} {ns : List Int}
theorem CallX.imp (x : CallX w A F K f vs RV) (h : ∀ v mu' K', Sub K K' → RV v mu' K' → RV' v mu' K') : CallX w A F K f vs RV' := fun s st => wpAny_mono (x s st) (fun v s' y => y.imp (h v)) fun _ _ y => y
theorem pen_x (gt : GT w B0) (sB : Sub B0 F.B) (hd : d ≤ 800) (hu : u ≤ 800) (hl : B0.IsList l vs.toArray) (hi : IntsAre vs ns) (hlen : vs.length ≤ 63) :
    CallX w (Ar d u outer gd) F K (.ref 389) [.ref l] fun v mu' K' => ∃ P c o nc, v = .ref P ∧ mu' = (P, o) :: F.mu ∧ PenD c o 0 ∧ K'.get? c = some (listOf vs.toArray nc) ∧ B0.get? P = none ∧ B0.get? c = none ∧ c ≠ P ∧ ∀ q ∈ F.mu, c ≠ q.1 := fun s st => by
  (refine ob5_1 gt.T fun pg loose mean mg mb T => ?_)
  (refine ob3_3 st.ns fun oL es ep hoL hdL hrL => ?_)
  refine pen_spec (h₀ := B0) (sB.trans st.base) gt.X T (by omega) (by omega) hl hi hlen hoL (none_of_sub sB st.bL) fun P c n nc t1 t2 t3 seed h' tk' a1 a2 a3 a4 a5 a6 a7 a8 a9 a10 => ?_
  have nP : ∀ b ∈ F.hid, b ≠ P := fun b hb e => by
    (refine ob1_1 (st.lives b hb) fun o q => ?_)
    rw [e, a1] at q; exact nos q
  have nc' : ∀ b ∈ F.hid, b ≠ c := fun b hb e => by
    (refine ob1_1 (st.lives b hb) fun o q => ?_)
    rw [e, a2] at q; exact nos q
  have hcP : c ≠ P := Nat.ne_of_lt a3
  refine ⟨(P, _) :: F.mu, hideAll h' (P :: F.hid), fun b ob q => hideAll_get _ (a8 _ _ (st.sub _ _ q)) fun hm => ?_, ⟨st.g, st.rl.trans ⟨_, _, rfl⟩, st.base.trans a8, hide_sub, st.ns.keeps a8, fun q hq => ?_, st.live.mono a8, fun b hb => hideAll_none _ ?_, st.bL, fun q hq => ?_, fun q hq => ?_, ?_⟩, P, c, _, nc, rfl, rfl, ⟨0, 0, seed, t1, t2, t3, n, rfl, by decide, by decide, by decide, a6, a7⟩, hideAll_get _ a5 fun hm => ?_, none_of_sub (sB.trans st.base) a1, none_of_sub (sB.trans st.base) a2, hcP, fun q hq e => ?_⟩
  · rcases List.mem_cons.mp hm with rfl | hm
    · rw [none_of_sub st.sub a1] at q; exact nos q
    · rw [st.out _ hm] at q; exact nos q
  · rcases List.mem_cons.mp hq with rfl | hq
    · exact a4
    · exact a8 _ _ (st.mus q hq)
  · rcases List.mem_cons.mp hb with rfl | hb
    · exact .tail _ (.head _)
    rcases List.mem_cons.mp hb with rfl | hb
    · exact .head _
    · exact .tail _ (.tail _ hb)
  · rcases List.mem_cons.mp hq with rfl | hq
    · exact none_of_sub st.base a1
    · exact st.bmu q hq
  · rcases List.mem_cons.mp hq with rfl | hq
    · exact fun e => nP _ (.head _) e.symm
    · exact st.muL q hq
  · show (P :: F.mu.map (·.1)).Nodup
    rw [List.nodup_cons]
    exact ⟨fun hm => nP P (.tail _ (List.mem_append_left _ hm)) rfl, st.mnd⟩
  · rcases List.mem_cons.mp hm with e | hm
    · exact hcP e
    · exact nc' c hm rfl
  · exact nc' q.1 (.tail _ (List.mem_append_left _ (List.mem_map_of_mem (f := (·.1)) hq))) e.symm
end
theorem run_calm {w : World} {A : Around} {env : Env} {F : Fm} {K : Heap} {body : List Stmt} {R : Flow → Shared → Prop} {E : Value → Shared → Prop} (h : Run w A env F K body R (fun _ _ => False)) : Run w A env F K body R E := fun s st => wpAny_mono (h s st) (fun _ _ q => q) fun _ _ q => q.elim
theorem fm_some {α β : Type} (f : α → β) : ∀ l : List α, (l.filterMap fun p => some (f p)) = l.map f
  | [] => rfl
  | a :: l => by rw [List.filterMap_cons, List.map_cons, fm_some f l]
theorem evx_imp {w : World} {A : Around} {F : Fm} {K : Heap} {env : Env} {e : PySem.Expr} {R R' : Value → Led → Heap → Prop} (x : EvX w A F K env e R) (h : ∀ v mu' K', Sub K K' → R v mu' K' → R' v mu' K') : EvX w A F K env e R' := fun s st => wpAny_mono (x s st) (fun v s1 y => y.imp (h v)) fun _ _ y => y
theorem trx_imp {w : World} {A : Around} {F : Fm} {K : Heap} {env : Env} {e : PySem.Expr} {R R' : Bool → Led → Heap → Prop} (x : TrX w A F K env e R) (h : ∀ v mu' K', Sub K K' → R v mu' K' → R' v mu' K') : TrX w A F K env e R' := fun s st => wpAny_mono (x s st) (fun v s1 y => y.imp (h v)) fun _ _ y => y
inductive J1 (s : Shared) (L P c : Addr) (n i : Nat) (F : Fm) (K : Heap) : Prop
  | mk (B : Heap) (H : List Addr) (m : Str → Option Value) (o oR oP oM oW : Obj) (ps : Array Value) (vR vP vM vW : Option Value)
    (e : F = ⟨s, B, H, L, m, (P, o) :: (c4 L, oR) :: (c3 L, oP) :: (c2 L, oM) :: (c1 L, oW) :: (456, tabObj ps) :: (427, tabObj #[]) :: []⟩) (D : PenD c o (3 * i))
    (d1 : oR.data = .cell vR) (d2 : oP.data = .cell vP) (d3 : oM.data = .cell vM) (d4 : oW.data = .cell vW) (t : T456 ps K) (mp : m (Str.ofString "pen") = some (.ref P)) : J1 s L P c n i F K
inductive J2 (w : World) (s : Shared) (L P c a : Addr) (oR oP oM : Obj) (ps : Array Value) (n i : Nat) (F : Fm) (K : Heap) : Prop
  | mk (B : Heap) (H : List Addr) (m : Str → Option Value) (o oH oW : Obj) (ps4 : Array Value) (t : Dt) (vb vw : Value) (hs : List Dt)
    (e : F = ⟨s, B, H, L, m, (P, o) :: (a, oH) :: (c4 L, oR) :: (c3 L, oP) :: (c2 L, oM) :: (c1 L, oW) :: (456, tabObj ps) :: (427, tabObj ps4) :: []⟩) (D : PenD c o (10 + 20 * i)) (ok : Dt.Ok t i) (hh : hs.length = i) (hok : ∀ q ∈ hs, Dt.Ok q 10) (j1 : (oL (hs.map (kHd w))).p K oH)
    (jp : m (Str.ofString "pen") = some (.ref P)) (jh : m (Str.ofString "held") = some (.ref a)) (jb : m (Str.ofString "bench") = some vb) (j2 : (kBd w t).p K vb) (j3 : oW.data = .cell (some vw)) (j4 : (kWd w t).p K vw) (j5 : T427 ps4 K) : J2 w s L P c a oR oP oM ps n i F K
inductive RM (pre post : Led) (P : KP Value) (v : Value) (mu' : Led) (K' : Heap) : Prop
  | mk (ps : Array Value) (e : mu' = pre ++ (456, tabObj ps) :: post) (t : T456 ps K') (g : P.p K' v) : RM pre post P v mu' K'
inductive RC (pre post : Led) (b : Bool) (mu' : Led) (K' : Heap) : Prop
  | mk (hb : b = false) (ps : Array Value) (e : mu' = pre ++ (456, tabObj ps) :: post) (t : T456 ps K') : RC pre post b mu' K'
section
variable {w : World} {A : Around} {F : Fm} {K : Heap} {env : Env} {pre post : Led} {P : KP Value} {e₁ e₂ fe : PySem.Expr} {es : List PySem.Expr} {pos posl : Pos} {B0 : Heap} {f : Value} {ps : Array Value} {body : PySem.Expr} {params : Arguments} {scope : Scope} {clos : List (Str × Addr)}
theorem ne_same {d : PyData} (q : O2 w A (compareOp .NotEq) (kd d) (kd d) (kd (.bool (!PyData.eqv d d)))) (hl : PyData.eqv d d = true) (x : EvX w A F K env e₁ (RM pre post (kd d))) (y : ∀ ps' K', Sub K K' → T456 ps' K' → EvX w A (F.with (pre ++ (456, tabObj ps') :: post)) K' env e₂ (RM pre post (kd d))) (hm : behindInMarks .NotEq e₂ = false) :
    TrX w A F K env (.Compare e₁ [.NotEq] [e₂] pos) (RC pre post) :=
  evx_cmp (R₁ := RM pre post (kd d)) (R₂ := RM pre post (kd d)) x (fun v mu' K' S' h => by cases h with | mk ps' e t g => rw [e]; exact y ps' K' S' t) (fun v u mu1 K1 mu2 K2 S h1 h2 => by
    cases h1 with | mk ps1 e1 t1 g1 => cases h2 with | mk ps2 e2 t2 g2 =>
    exact ⟨kd d, kd d, _, g1, g2, q, fun K3 S3 => ⟨by rw [hl]; rfl, ps2, e2, t2.mono S3⟩⟩) hm
theorem or_same (x : TrX w A F K env e₁ (RC pre post)) (y : ∀ ps' K', Sub K K' → T456 ps' K' → TrX w A (F.with (pre ++ (456, tabObj ps') :: post)) K' env e₂ (RC pre post)) : TrX w A F K env (.BoolOp .Or [e₁, e₂] pos) (RC pre post) :=
  (trx_or2 (R₁ := fun b mu' K' => RC pre post b mu' K') (RB := fun b mu' K' => RC pre post b mu' K') (trx_imp x fun b mu' K' S h => ⟨h.rec fun hb _ _ _ => hb, h⟩) (fun mu' K' S h => by
    cases h with | mk hb ps' e t => rw [e]; exact trx_imp (y ps' K' S t) fun b mu' K' S h => ⟨h.rec fun hb _ _ _ => hb, h⟩))
theorem law_call (t6 : T456 ps K) (hmu : F.mu = pre ++ (456, tabObj ps) :: post) {Ps : List (KP Value)} (hf : Ev w A F K env fe (kv f)) (x : ∀ K', Sub K K' → Evs w A F K' env es Ps) (q : ∀ vs K1, Sub K K1 → (KPs Ps).p K1 vs → CallX w A (F.with F.mu) K1 f vs fun v mu' K' => mu' = F.mu ∧ P.p K' v) (kp : KeepOk w f) (hs : ∃ t r, starEach es env = (false, t) :: r) (hp : (starEach es env).any (·.1) = false)
    (he : eval (.Call fe es [] pos) env = (do callWith pos (← eval fe env) [] (backTo pos (starEach es env)) [])) : EvX w A F K env (.Call fe es [] pos) (RM pre post P) :=
  evx_imp (callx (R := fun v mu' K' => mu' = F.mu ∧ P.p K' v ∧ T456 ps K') hf (fun K' S => evsx_of (x K' S)) (fun vs mu1 K1 S h => by
    (refine ob0_2 h fun h1 h2 => ?_; try clear h)
    subst h1
    exact (q vs K1 S h2).imp fun v mu' K' S' h => ⟨h.1, h.2, t6.mono (S.trans S')⟩) kp hs hp he) fun v mu' K' S h => ⟨ps, h.1.trans hmu, h.2.2, h.2.1⟩
theorem heard_call (t6 : T456 ps K) (hmu : F.mu = pre ++ (456, tabObj ps) :: post) (gt : GT w B0) (sB : Sub B0 F.B) (cd : CodeHd B0 458 456) (hf : Ev w A F K env fe (kv (.ref 396))) (kp : KeepOk w (.ref 396)) (hq : env.qual ++ "<lambda>" = qL) (hdef : defaultsOf params env = ([], [])) (hcode : env.code = .ref 458) (hge : env.globals = mainGlobals) (hcl : closureFor scope env = pure clos)
    (he : eval (.Call fe [.Lambda params body scope posl] [] pos) env = (do callWith pos (← eval fe env) [] (backTo pos (starEach [.Lambda params body scope posl] env)) []))
    (work : ∀ wa ps' K1 c' pm ctv, Sub K K1 → T456 ps' K1 → K1.get? wa = some (kla_obj "<lambda>" qL params body scope clos pm c' ctv) → K1.CodeRec (.ref c') qL → CallX w A (F.with (pre ++ (456, tabObj ps') :: post)) K1 (.ref 396) [.ref wa] fun v mu' K' => ∃ fr', Fr2 [] fr' ∧ mu' = (pre ++ (456, tabObj ps') :: post) ++ fr' ∧ P.p K' v) :
    EvX w A F K env (.Call fe [.Lambda params body scope posl] [] pos) (RM pre post P) :=
  heard_raw t6 hmu gt sB cd hf kp hq hdef hcode hge hcl he fun wa ps' K1 c' pm ctv S1 tr hg hc => CallX.imp (work wa ps' K1 c' pm ctv S1 tr hg hc) fun v mu' K' S' h => by
    (refine ob1_3 h fun fr' f2 e hk => ?_; try clear h)
    cases f2
    exact ⟨ps', by rw [e, List.append_nil], tr.imp fun xs t => t.mono S', hk⟩
end
def dt0 : Dt := ⟨[(Str.ofString ".notdef", 0)], [], [], [], [], true⟩
theorem law_spec {w : World} {A : Around} {B0 : Heap} {s : Shared} {l : Addr} {vs : List Value} {ns : List Int} {R : Result → Shared → Prop} (hA : A.handled = none) (hfr : A.frames = some []) (hd : A.depth ≤ 400) (hu : A.units ≤ 100) (gt : GT w B0) (sB : Sub B0 s.heap)
    (C1 : CodeHd B0 431 427) (C2 : CodeHd B0 458 456) (t1 : s.heap.get? 427 = some (tabObj #[]) ∧ B0.get? 427 = none) (t2 : s.heap.get? 456 = some (tabObj #[]) ∧ B0.get? 456 = none) (hl : B0.IsList l vs.toArray) (hi : IntsAre vs ns) (hlen : vs.length ≤ 63) (hlen2 : vs.length = ns.length)
    (ret : ∀ s', Rl s s' → Sub B0 s'.heap → (∃ ps, s'.heap.get? 427 = some (tabObj ps)) → (∃ ps, s'.heap.get? 456 = some (tabObj ps)) → R (.ok (.ret (.bool true))) s') : codeAny (model PR w) A (.call (.ref 459) ⟨[.ref l], []⟩) R s := by
  k_dflt (refine' fn_enterG (B := B0) (K := B0) (H := []) (mu0 := [(456, tabObj #[]), (427, tabObj #[])]) (binds := [("script", .ref l)]) gt.g sB sB nil_all ?m0 nil_all (by decide) ?k6 ?k7 ?k8 ?k9 ?kB ?kD ?_ ?c2 ?c3 ?c4)
  case m0 =>
    intro q hq
    rcases List.mem_cons.mp hq with rfl | hq
    · exact mk0_3 t2.1 t2.2 t2.2
    · rw [List.mem_singleton.mp hq]
      exact mk0_3 t1.1 t1.2 t1.2
  case k6 | k7 => k_is
  case k8 => show A.depth < 1000; omega
  case k9 => exact BindsTo.of_eq rfl
  case kB => exact rfl
  case kD => decide +kernel
  case c2 | c3 | c4 => exact rfl
  intro L cells hL hm0 _ Y
  refine cells_4 Y fun oR0 oP0 oM0 oW0 eY d4 d3 d2 d1 => ?_
  clear Y; subst eY
  with_reducible refine run_calm ?_
  dsimp only [List.cons_append, List.nil_append, List.append, Fm.pen]
  show Run w _ _ ⟨s, B0, [], L, _, [(c4 L, oR0), (c3 L, oP0), (c2 L, oM0), (c1 L, oW0), (456, tabObj #[]), (427, tabObj #[])]⟩ _ _ _ _
  have hA' : ∀ env, (A.deeper env).handled = none := fun _ => hA
  have dr : ∀ {m : Nat}, 1 ≤ m → m ≤ 1000 → OnP w 900 (.ref 382) 1 [kd (.int (m : Nat))] (kDig m) := fun h1 h2 => draw_on h1 h2
  have dA : ∀ {env : Env} {k : Nat} {f : Value} {Ps : List (KP Value)} {P : KP Value}, On w (Al k k) f Ps P → 803 ≤ k → On w (A.deeper env) f Ps P := fun {env k f Ps P} h hk => on_any h (by exact hA) (by show A.depth + 1 ≤ k; omega) (by show A.units + 3 ≤ k; omega)
  (refine ob3_1 (around_eta hA hfr) fun dd uu gg eA => ?_)
  have hAe : ∀ env, A.deeper env = Ar (dd + 1) (uu + 3) [env] gg := fun env => by rw [eA]; rfl
  have hdd : dd ≤ 400 := by rw [eA] at hd; exact hd
  have huu : uu ≤ 100 := by rw [eA] at hu; exact hu
  have psc : (kv (.ref l)).p B0 (.ref l) := rfl
  with_reducible refine runx_assign (RV := fun v mu' K' => ∃ P c o nc, v = .ref P ∧ mu' = (P, o) :: (c4 L, oR0) :: (c3 L, oP0) :: (c2 L, oM0) :: (c1 L, oW0) :: (456, tabObj #[]) :: (427, tabObj #[]) :: [] ∧ PenD c o 0 ∧ K'.get? c = some (listOf vs.toArray nc) ∧ B0.get? P = none ∧ B0.get? c = none ∧ c ≠ P ∧ c ≠ 427) ?pen (fun vp mu' K1 S1 hp => ?_) ?h1 ?h2 ?h3 ?h4
  case h1 | h2 | h3 | h4 => exact rfl
  case pen =>
    with_reducible refine callx (f := .ref 389) (RL := fun vs' mu1 K1 => mu1 = (c4 L, oR0) :: (c3 L, oP0) :: (c2 L, oM0) :: (c1 L, oW0) :: (456, tabObj #[]) :: (427, tabObj #[]) :: [] ∧ (KPs [kv (.ref l)]).p K1 vs') ?hf (fun K6 S6 => evsx_of ?ar) (fun vs mu1 K1 S1 hl2 => ?work) ?kp ?hs ?hp ?hee
    case hf => walk_at "E ev"
    case kp => exact keep_ref (by k_is)
    case hs => exact ⟨_, _, rfl⟩
    case hp | hee => exact rfl
    case ar =>
      have psc6 : (kv (.ref l)).p K6 (.ref l) := rfl
      walk_at "E args"
    case work =>
      (refine ob0_2 hl2 fun e_506 hvs => ?_; try clear hl2; subst e_506)
      (refine all2_1 hvs fun _ e_507 e1 => ?_; clear hvs; subst e_507)
      have e1 : _ = Value.ref l := e1
      subst e1
      rw [hAe]
      refine (pen_x gt Sub.rfl' (by omega) (by omega) hl hi hlen).imp fun v mu' K' S' h => ?_
      (refine ob4_1 h fun P c o nc q_508 => ob0_8 q_508 fun a1 a2 a3 a4 a5 a6 a7 a8 => ?_; try clear h)
      exact mk4_1 P c o nc ⟨a1, a2, a3, a4, a5, a6, a7, a8 (427, tabObj #[]) (by k_mem)⟩
  (refine ob4_1 hp fun P c o nc q_511 => ob0_8 q_511 fun e_509 e_510 D0 hc bP bc hcP hc4 => ?_; try clear hp; subst e_509; subst e_510)
  dsimp only [Fm.up, Fm.with]
  refine run_rebase fun B1 sB1 sK1 => ?_
  dsimp only
  have sB1 : Sub B0 B1 := sB1
  have SB : ∀ {B}, Sub B1 B → PenS w B0 (427 :: (([] : Led)).map (·.1)) P c B := fun {B} h => ⟨gt, sB1.trans h, bP, bc, hcP, (fun hm => hc4 (List.mem_singleton.mp hm)), vs, ns, nc, h _ _ (sK1 _ _ hc), hi, hlen, hlen2⟩
  with_reducible refine run_forP (F := ⟨s, B1, [], L, _, (c4 L, oR0) :: (c3 L, oP0) :: (c2 L, oM0) :: (c1 L, oW0) :: (456, tabObj #[]) :: (427, tabObj #[]) :: []⟩) (d := 0) (m := 4) (J := J1 s L P c) ?src (by decide) D0 (by decide) (hA' _) (fun n o' K' hn hp' S' => ?J0) (fun n i F' K' j => ?JS) (fun n i F' K' B' H' j => ?JB) (fun n i v F' K' B' H' hn hi j hv sb sh hB hH => ?turn) (fun n F' K' hn j hB hH => ?done) ?h1 ?h2 ?h3 ?h4
  case h1 | h2 | h3 => exact rfl
  case h4 => exact fun _ => rfl
  case src =>
    refine EvP.weak (P := kRng 3) (evp_of fun o => ev_call (by walk_at "E ev") (by walk_at "E args") (on_range (n := 3)) keep_t (.inr ⟨_, _, rfl⟩) rfl rfl) fun h v q => ⟨3, by decide, q⟩
  case J0 =>
    exact ⟨B1, [], _, o', oR0, oP0, oM0, oW0, #[], _, _, _, _, rfl, by simpa using hp', d4, d3, d2, d1, ⟨[], rfl⟩, rfl⟩
  case JS =>
    obtain ⟨B', H', m', o', oR, oP, oM, oW, ps, vR, vP, vM, vW, rfl, _, _, _, _, _, _, _⟩ := j
    exact mk0_3 rfl rfl rfl
  case JB =>
    obtain ⟨B', H', m', o', oR, oP, oM, oW, ps, vR, vP, vM, vW, rfl, z1, z2, z3, z4, z5, z6, z7⟩ := j
    exact ⟨_, _, m', o', oR, oP, oM, oW, ps, vR, vP, vM, vW, rfl, z1, z2, z3, z4, z5, z6, z7⟩
  case turn =>
    obtain ⟨B2, H2, m', o', oR, oP, oM, oW, ps, vR, vP, vM, vW, rfl, D1, e1, e2, e3, e4, T5, mp⟩ := j
    have hB : B2 = B' := hB
    subst hB
    have hH : H2 = H' := hH
    subst hH
    have sb : Sub B1 B2 := sb
    have S2 := SB sb
    have pkv : (kv (.ref P)).p K' (.ref P) := rfl
    dsimp only [Fm.up]
    with_reducible refine run_unpackP (F := ⟨s, B2, H2, L, _, (c4 L, oR) :: (c3 L, oP) :: (c2 L, oM) :: (c1 L, oW) :: (456, tabObj ps) :: (427, tabObj #[]) :: []⟩) (d := 3) (T := "tuple") (Ps := [kWord, kMost, kDig 6]) (.inr rfl) (hA' _) ?wm D1 ?ho (Eq.refl _) ?h1 (fun o2 K2 us D2 S3 hus => ?_) ?h2 ?h3
    case ho => omega
    case h1 | h2 | h3 => exact rfl
    case wm =>
      refine evp_tup (EvsP.cons (d1 := 1) (d2 := 2) (evp_sub (d1 := 0) (d2 := 1) (evp_of fun o => ?w1) ?w2 (words_sub fun _ _ => rfl)) (EvsP.cons (d1 := 1) (d2 := 1) (evp_sub (d1 := 0) (d2 := 1) (evp_of fun o => ?w3) ?w4 (most_sub fun _ _ => rfl)) (EvsP.cons (d1 := 1) (d2 := 0) ?w5 EvsP.nil rfl) rfl) rfl) (of_decide_eq_true rfl)
      case w1 | w3 => walk_at "E ev"
      case w2 => exact evp_call (n := 900) (Ps := [kd (.int (22 : Nat))]) (hA' _) (by show A.depth + 1 ≤ 900; omega) (by show A.units + 3 ≤ 900; omega) S2 (fun o => by walk_at "E ev") (fun o => Evs.cons (by walk_at "E ev") (Evs.cons (ev_call (by walk_at "E ev") (by walk_at "E args") on_lenT keep_b (.inr ⟨_, _, rfl⟩) rfl rfl) Evs.nil rfl) rfl) (dr (m := 22) (by decide) (by decide)) (keep_ref (by k_is)) ⟨_, _, rfl⟩ rfl rfl
      case w4 => exact evp_call (n := 900) (Ps := [kd (.int (2 : Nat))]) (hA' _) (by show A.depth + 1 ≤ 900; omega) (by show A.units + 3 ≤ 900; omega) S2 (fun o => by walk_at "E ev") (fun o => by walk_at "E args") (dr (m := 2) (by decide) (by decide)) (keep_ref (by k_is)) ⟨_, _, rfl⟩ rfl rfl
      case w5 => exact evp_call (n := 900) (Ps := [kd (.int (6 : Nat))]) (hA' _) (by show A.depth + 1 ≤ 900; omega) (by show A.units + 3 ≤ 900; omega) S2 (fun o => by walk_at "E ev") (fun o => by walk_at "E args") (dr (m := 6) (by decide) (by decide)) (keep_ref (by k_is)) ⟨_, _, rfl⟩ rfl rfl
    (refine all2_3 hus fun _ _ _ e_515 p1 p2 p3 => ?_; clear hus; subst e_515)
    (refine ob2_2 p1 fun x tx hx e_516 => ?_; try clear p1; subst e_516)
    (refine ob2_2 p2 fun mo tm hmo e_517 => ?_; try clear p2; subst e_517)
    (refine ob2_2 p3 fun pl tp hpl e_518 => ?_; try clear p3; subst e_518)
    have wok := word_ok hx
    with_reducible refine stores_cell (pre := [(P, o2)]) (Eq.refl _) e1 (fun oR1 dR => ?_) ?h1 ?h2 ?h3
    case h1 | h2 | h3 => exact rfl
    with_reducible refine stores_cell (pre := [(P, o2), (c4 L, oR1), (c3 L, oP)]) (Eq.refl _) e3 (fun oM1 dM => ?_) ?h1 ?h2 ?h3
    case h1 | h2 | h3 => exact rfl
    with_reducible refine stores_cell (pre := [(P, o2), (c4 L, oR1)]) (Eq.refl _) e2 (fun oP1 dP => stores_nil ?_) ?h1 ?h2 ?h3
    case h1 | h2 | h3 => exact rfl
    dsimp only [List.cons_append, List.nil_append, List.append, Fm.pen]
    have T5 := T5.mono S3
    have sB2 := sB1.trans sb
    show Run w _ _ ⟨s, B2, H2, L, _, [(P, o2), (c4 L, oR1), (c3 L, oP1), (c2 L, oM1), (c1 L, oW)] ++ (456, tabObj ps) :: [(427, tabObj #[])]⟩ _ _ _ _
    generalize hpre : [(P, o2), (c4 L, oR1), (c3 L, oP1), (c2 L, oM1), (c1 L, oW)] = pre
    generalize hpost : [((427 : Addr), tabObj #[])] = post
    have mR : (c4 L, oR1) ∈ pre := by rw [← hpre]; k_mem
    have mM : (c2 L, oM1) ∈ pre := by rw [← hpre]; k_mem
    have mP : (c3 L, oP1) ∈ pre := by rw [← hpre]; k_mem
    with_reducible refine runx_if (RB := RC pre post) ?t1 (fun b mu' K3 S4 hb => ?_)
    case t1 =>
      with_reducible refine ne_same (d := resD (pl : Nat) (if numOk x (numOf x) mo = true then some (numOf x) else none)) ?q ?l ?x (fun ps' K' S' t6 => ?y) ?hm
      case q => exact op_ne lay_res lay_res (room0 (by show A.units + 3 ≤ 1000; omega) dep_res)
      case l => exact PySem.SeqAt.eqv_refl _ lay_res
      case hm => exact rfl
      case x =>
        with_reducible refine' heard_call (B0 := B0) (ps := ps) T5 ?e0 gt sB2 C2 ?hf ?kp ?g1 ?g2 ?g3 ?g4 ?g5 ?g6 ?work
        case e0 => exact rfl
        case hf => walk_at "E ev"
        case kp => exact keep_ref (by k_is)
        case g1 | g2 | g3 | g4 | g5 | g6 => exact rfl
        case work =>
          intro wa ps' K1 c' pm ctv S6 t6 hg hc
          rw [hAe]
          refine' heardx_number (mA := pre ++ (456, tabObj ps') :: post) (fr := []) (outer := []) (List.append_nil _).symm .nil rfl (by show ScopeKind.function ≠ ScopeKind.module; decide) gt sB2 (by omega) (by omega) (fun s st => ⟨_, qL, _, _, _, pm, c', ctv, _, _, st.sub _ _ hg, rfl, codeRec_mono st.sub hc, rfl, fun L => rfl, fun L => ?cl, ?nc, rfl, rfl, rfl⟩) wok
          case nc => decide
          case cl => exact mem1 (cell_of rfl (st.mus _ (List.mem_append_left _ mR)) dR rfl (by decide) (by decide)) (mem1 (cell_of rfl (st.mus _ (List.mem_append_left _ mM)) dM rfl (by decide) (by decide)) (mem1 (cell_of rfl (st.mus _ (List.mem_append_left _ mP)) dP rfl (by decide) (by decide)) mem0))
      case y =>
        with_reducible refine law_call (f := .ref 401) (Ps := [kv (.str x tx), kv (.int mo tm), kv (.int (pl : Nat) tp)]) t6 ?e0 ?hf (fun K6 S6 => ?ar) (fun vs K1 S1 hvs => ?work) ?kp ?hs ?hp ?hee
        case e0 => exact rfl
        case hf => walk_at "E ev"
        case kp => exact keep_ref (by k_is)
        case hs => exact ⟨_, _, rfl⟩
        case hp | hee => exact rfl
        case ar =>
          have pv0 : (kv (.str x tx)).p K6 (.str x tx) := rfl
          have pv1 : (kv (.int mo tm)).p K6 (.int mo tm) := rfl
          have pv2 : (kv (.int (pl : Nat) tp)).p K6 (.int (pl : Nat) tp) := rfl
          have gR := List.mem_append_left ((456, tabObj ps') :: post) mR
          have gM := List.mem_append_left ((456, tabObj ps') :: post) mM
          have gP := List.mem_append_left ((456, tabObj ps') :: post) mP
          walk_at "E args"
        case work =>
          (refine all2_1c hvs fun _ _ e_520 z0 r_519 => ?_; clear hvs; subst e_520; revert r_519; intro hvs)
          have z0 : _ = (.str x tx : Value) := z0
          (refine all2_1c hvs fun _ _ e_522 z1 r_521 => ?_; clear hvs; subst e_522; revert r_521; intro hvs)
          have z1 : _ = (.int mo tm : Value) := z1
          (refine all2_1c hvs fun _ _ e_524 z2 r_523 => ?_; clear hvs; subst e_524; revert r_523; intro hvs)
          have z2 : _ = (.int (pl : Nat) tp : Value) := z2
          cases hvs
          subst z0 z1 z2
          exact lnumber_x gt sB2 (hA' _) (by show A.depth + 1 ≤ 780; omega) (by show A.units + 3 ≤ 700; omega) wok
    cases hb with | mk hb ps3 e t3 =>
    subst hb e
    dsimp only [Fm.with]
    refine run_skip ?_
    with_reducible refine runx_if (RB := RC pre post) ?t2 (fun b mu' K3 S5 hb => ?_)
    case t2 =>
      with_reducible refine or_same ?c1 (fun ps4 K4 S6 t4 => ?c2)
      case c1 =>
        with_reducible refine ne_same (d := resD (pl : Nat) (codeVal x)) ?q ?l ?x (fun ps' K' S' t6 => ?y) ?hm
        case q => exact op_ne lay_res lay_res (room0 (by show A.units + 3 ≤ 1000; omega) dep_res)
        case l => exact PySem.SeqAt.eqv_refl _ lay_res
        case hm => exact rfl
        case x =>
          with_reducible refine' heard_call (B0 := B0) (ps := ps3) t3 ?e0 gt sB2 C2 ?hf ?kp ?g1 ?g2 ?g3 ?g4 ?g5 ?g6 ?work
          case e0 => exact rfl
          case hf => walk_at "E ev"
          case kp => exact keep_ref (by k_is)
          case g1 | g2 | g3 | g4 | g5 | g6 => exact rfl
          case work =>
            intro wa ps' K1 c' pm ctv S6 t6 hg hc
            rw [hAe]
            refine' heardx_code (mA := pre ++ (456, tabObj ps') :: post) (fr := []) (outer := []) (List.append_nil _).symm .nil rfl (by show ScopeKind.function ≠ ScopeKind.module; decide) gt sB2 (by omega) (by omega) (fun s st => ⟨_, qL, _, _, _, pm, c', ctv, _, _, st.sub _ _ hg, rfl, codeRec_mono st.sub hc, rfl, fun L => rfl, fun L => ?cl, ?nc, rfl, rfl, rfl⟩) wok
            case nc => decide
            case cl => exact mem1 (cell_of rfl (st.mus _ (List.mem_append_left _ mR)) dR rfl (by decide) (by decide)) (mem1 (cell_of rfl (st.mus _ (List.mem_append_left _ mP)) dP rfl (by decide) (by decide)) mem0)
        case y =>
          with_reducible refine law_call (f := .ref 406) (Ps := [kv (.str x tx), kv (.int (pl : Nat) tp)]) t6 ?e0 ?hf (fun K6 S6 => ?ar) (fun vs K1 S1 hvs => ?work) ?kp ?hs ?hp ?hee
          case e0 => exact rfl
          case hf => walk_at "E ev"
          case kp => exact keep_ref (by k_is)
          case hs => exact ⟨_, _, rfl⟩
          case hp | hee => exact rfl
          case ar =>
            have pv0 : (kv (.str x tx)).p K6 (.str x tx) := rfl
            have pv1 : (kv (.int (pl : Nat) tp)).p K6 (.int (pl : Nat) tp) := rfl
            have gR := List.mem_append_left ((456, tabObj ps') :: post) mR
            have gP := List.mem_append_left ((456, tabObj ps') :: post) mP
            walk_at "E args"
          case work =>
            (refine all2_1c hvs fun _ _ e_526 z0 r_525 => ?_; clear hvs; subst e_526; revert r_525; intro hvs)
            have z0 : _ = (.str x tx : Value) := z0
            (refine all2_1c hvs fun _ _ e_528 z1 r_527 => ?_; clear hvs; subst e_528; revert r_527; intro hvs)
            have z1 : _ = (.int (pl : Nat) tp : Value) := z1
            cases hvs
            subst z0 z1
            exact lcode_x gt sB2 (hA' _) (by show A.depth + 1 ≤ 780; omega) (by show A.units + 3 ≤ 700; omega) wok
      case c2 =>
        dsimp only [Fm.with]
        with_reducible refine ne_same (d := resL (pl : Nat) (textVal x)) ?q ?l ?x (fun ps' K' S' t6 => ?y) ?hm
        case q => exact op_ne lay_resL lay_resL (room0 (by show A.units + 3 ≤ 1000; omega) dep_resL)
        case l => exact PySem.SeqAt.eqv_refl _ lay_resL
        case hm => exact rfl
        case x =>
          with_reducible refine' heard_call (B0 := B0) (ps := ps4) t4 ?e0 gt sB2 C2 ?hf ?kp ?g1 ?g2 ?g3 ?g4 ?g5 ?g6 ?work
          case e0 => exact rfl
          case hf => walk_at "E ev"
          case kp => exact keep_ref (by k_is)
          case g1 | g2 | g3 | g4 | g5 | g6 => exact rfl
          case work =>
            intro wa ps' K1 c' pm ctv S6 t6 hg hc
            rw [hAe]
            refine' heardx_text (mA := pre ++ (456, tabObj ps') :: post) (fr := []) (outer := []) (List.append_nil _).symm .nil rfl (by show ScopeKind.function ≠ ScopeKind.module; decide) gt sB2 (by omega) (by omega) (fun s st => ⟨_, qL, _, _, _, pm, c', ctv, _, _, st.sub _ _ hg, rfl, codeRec_mono st.sub hc, rfl, fun L => rfl, fun L => ?cl, ?nc, rfl, rfl, rfl⟩) wok
            case nc => decide
            case cl => exact mem1 (cell_of rfl (st.mus _ (List.mem_append_left _ mR)) dR rfl (by decide) (by decide)) (mem1 (cell_of rfl (st.mus _ (List.mem_append_left _ mP)) dP rfl (by decide) (by decide)) mem0)
        case y =>
          with_reducible refine law_call (f := .ref 411) (Ps := [kv (.str x tx), kv (.int (pl : Nat) tp)]) t6 ?e0 ?hf (fun K6 S6 => ?ar) (fun vs K1 S1 hvs => ?work) ?kp ?hs ?hp ?hee
          case e0 => exact rfl
          case hf => walk_at "E ev"
          case kp => exact keep_ref (by k_is)
          case hs => exact ⟨_, _, rfl⟩
          case hp | hee => exact rfl
          case ar =>
            have pv0 : (kv (.str x tx)).p K6 (.str x tx) := rfl
            have pv1 : (kv (.int (pl : Nat) tp)).p K6 (.int (pl : Nat) tp) := rfl
            have gR := List.mem_append_left ((456, tabObj ps') :: post) mR
            have gP := List.mem_append_left ((456, tabObj ps') :: post) mP
            walk_at "E args"
          case work =>
            (refine all2_1c hvs fun _ _ e_530 z0 r_529 => ?_; clear hvs; subst e_530; revert r_529; intro hvs)
            have z0 : _ = (.str x tx : Value) := z0
            (refine all2_1c hvs fun _ _ e_532 z1 r_531 => ?_; clear hvs; subst e_532; revert r_531; intro hvs)
            have z1 : _ = (.int (pl : Nat) tp : Value) := z1
            cases hvs
            subst z0 z1
            exact ltext_x gt sB2 (hA' _) (by show A.depth + 1 ≤ 780; omega) (by show A.units + 3 ≤ 700; omega) wok
    cases hb with | mk hb ps4 e t4 =>
    subst hb e hpre hpost
    dsimp only [Fm.with]
    refine run_skip (run_nil fun s8 st8 => .inl ⟨rfl, _, K3, ⟨B2, H2, _, o2, oR1, oP1, oM1, oW, ps4, _, _, _, _, rfl, ?_, dR, dP, dM, e4, t4, ?_⟩, rfl, rfl, st8⟩)
    · have : 3 * i + 3 = 3 * (i + 1) := by omega
      rw [← this]; exact D2
    · exact mp
  case done =>
    obtain ⟨B2, H2, m', o', oR, oP, oM, oW, ps, vR, vP, vM, vW, rfl, D1, e1, e2, e3, e4, T5, mp⟩ := j
    have hB : B2 = B1 := hB
    subst hB
    have hH : H2 = [] := hH
    subst hH
    clear S1 D0 d1 d2 d3 d4
    have S2 := SB (B := B2) Sub.rfl'
    with_reducible refine runx_unpack (T := "tuple") (RV := fun v mu' K' => ∃ vs, (kTup (vs.map kv)).p K' v ∧ ∃ vb vw a oH, vs = [vb, vw, .ref a] ∧ mu' = (a, oH) :: (P, o') :: (c4 L, oR) :: (c3 L, oP) :: (c2 L, oM) :: (c1 L, oW) :: (456, tabObj ps) :: (427, tabObj #[]) :: [] ∧ (kBd w dt0).p K' vb ∧ (kWd w dt0).p K' vw ∧ (oL []).p K' oH) (.inr rfl) (hA' _) ?bw ?h1 (fun v mu' K4 S4 hv => ?hv) ?h2 ?h3
    case h1 | h2 | h3 => exact rfl
    case bw =>
      with_reducible refine evx_tup (RL := fun vs mu' K' => ∃ vb vw a oH, vs = [vb, vw, .ref a] ∧ mu' = (a, oH) :: (P, o') :: (c4 L, oR) :: (c3 L, oP) :: (c2 L, oM) :: (c1 L, oW) :: (456, tabObj ps) :: (427, tabObj #[]) :: [] ∧ (kBd w dt0).p K' vb ∧ (kWd w dt0).p K' vw ∧ (oL []).p K' oH) (evsx_cons (evx_of (P := kBd w dt0) ?x1) (fun vb mu1 K1 S1 q1 => evsx_cons (evx_of (P := kWd w dt0) ?x2) (fun vw mu2 K2 S2 q2 => evsx_cons (evx_new (Q := (oL []).p) ?x3 ?x4) (fun vh mu3 K3 S3 q3 => evsx_nil ?x5) ?s3) ?s2) ?s1) ?hz ?hm
      case s1 | s2 | s3 => exact rfl
      case hz =>
        (intro vs mu' K' o_534; (refine ob4_2 o_534 fun _ _ _ _ e_535 _ => ?_; try clear o_534; subst e_535))
        exact of_decide_eq_true rfl
      case hm =>
        (intro vs mu' K1 K2 S o_536; (refine ob4_5 o_536 fun vb vw a oH r1 r2 r3 r4 r5 => ?_; try clear o_536))
        exact mk4_5 vb vw a oH r1 r2 ((kBd w dt0).mono S r3) ((kWd w dt0).mono S r4) ((oL []).mono S r5)
      case x1 => exact Ev.weak (P := kB w [(".notdef", .int 0)] [] [] [] [] (kd .none)) (ev_call (by walk_at "E ev") Evs.nil (dA empty_bench_spec (by decide)) (keep_ref (by k_is)) (.inl ⟨rfl, rfl⟩) rfl rfl) fun _ _ q => q
      case x2 =>
        refine Ev.weak (P := kLst [kdct (PySem.strKind PR w) [(Str.ofString ".notdef", .int 0)], kdct (PySem.intKind PR w) [], kdct (PySem.strKind PR w) [], kd (.list []), kd (.list []), kd (.bool true)]) (ev_lst (Evs.cons (ev_dict1 keyS ev_str ev_int flat_int) (Evs.cons (ev_dict0 _) (Evs.cons (ev_dict0 _) (Evs.cons ?l1 (Evs.cons ?l2 (Evs.cons ev_bool Evs.nil rfl) rfl) rfl) rfl) rfl) rfl) (of_decide_eq_true rfl)) fun _ _ q => q
        case l1 | l2 => exact Ev.weak (P := kLst []) (ev_lst Evs.nil (of_decide_eq_true rfl)) fun h v q => lst_kd (ds := []) q
      case x3 => exact evn_lst Evs.nil (of_decide_eq_true rfl)
      case x4 => exact fun h h' o k q => (oL []).mono k q
      case x5 =>
        obtain ⟨rfl, q1⟩ := q1
        obtain ⟨rfl, q2⟩ := q2
        obtain ⟨a, oH, rfl, rfl, _, _, _, q3⟩ := q3
        exact mk4_5 vb vw a oH rfl rfl ((kBd w dt0).mono (S2.trans S3) q1) ((kWd w dt0).mono S3 q2) q3
    case hv =>
      obtain ⟨us, pu, vb, vw, a, oH, rfl, rfl, pb, pw, ph⟩ := hv
      refine mk1_3 ([kv vb, kv vw, kv (.ref a)]) pu rfl (fun K5 us S5 hus => ?_)
      (refine all2_3 hus fun _ _ _ e_543 z1 z2 z3 => ?_; clear hus; subst e_543)
      have z1 : _ = vb := z1
      have z2 : _ = vw := z2
      have z3 : _ = Value.ref a := z3
      subst z1 z2 z3
      rename_i vb vw
      dsimp only [Fm.with]
      have pb5 := (kBd w dt0).mono S5 pb
      have pw5 := (kWd w dt0).mono S5 pw
      have ph5 := (oL []).mono S5 ph
      have T55 := T5.mono (S4.trans S5)
      with_reducible refine stores_local (stores_cell (pre := [(a, oH), (P, o'), (c4 L, oR), (c3 L, oP), (c2 L, oM)]) (Eq.refl _) e4 (fun oW2 dW2 => stores_local (stores_nil ?_) ?h1 ?h2 ?h3) ?h4 ?h5 ?h6) ?h7 ?h8 ?h9
      case h1 | h2 | h3 | h4 | h5 | h6 | h7 | h8 | h9 => exact rfl
      dsimp only [List.cons_append, List.nil_append, List.append, Fm.up, Fm.pen]
      with_reducible refine run_perm (mu' := (P, o') :: (a, oH) :: (c4 L, oR) :: (c3 L, oP) :: (c2 L, oM) :: (c1 L, oW2) :: (456, tabObj ps) :: (427, tabObj #[]) :: []) (List.Perm.swap _ _ _) ?_
      with_reducible refine run_forP (F := ⟨s, B2, [], L, _, (a, oH) :: (c4 L, oR) :: (c3 L, oP) :: (c2 L, oM) :: (c1 L, oW2) :: (456, tabObj ps) :: (427, tabObj #[]) :: []⟩) (d := 1) (m := 10) (J := J2 w s L P c a oR oP oM ps) ?src2 ?mm D1 ?ho (hA' _) (fun n o2 K' hn hp' S' => ?J02) (fun n i F' K' j => ?JS2) (fun n i F' K' B' H' j => ?JB2) (fun n i v F' K' B' H' hn hi j hv sb sh hB hH => ?turn2) (fun n F' K' hn j hB hH => ?done2) ?h1 ?h2 ?h3 ?h4
      case mm => decide
      case ho => omega
      case h1 | h2 | h3 => exact rfl
      case h4 => exact fun _ => rfl
      case src2 =>
        have pkv : (kv (.ref P)).p K5 (.ref P) := rfl
        exact evp_on (fun o => by walk_at "E ev") (fun K' S' => EvsP.cons (d1 := 1) (d2 := 0) (evp_call (n := 900) (Ps := [kd (.int (10 : Nat))]) (hA' _) (by show A.depth + 1 ≤ 900; omega) (by show A.units + 3 ≤ 900; omega) S2 (fun o => by walk_at "E ev") (fun o => Evs.cons (ev_local mp (show (kv (.ref P)).p K' (.ref P) from rfl) rfl rfl rfl (by decide)) (Evs.cons (by walk_at "E ev") Evs.nil) rfl) (dr (m := 10) (by decide) (by decide)) (keep_ref (by k_is)) ⟨_, _, rfl⟩ rfl rfl) EvsP.nil rfl) range_dig keep_t ⟨_, _, rfl⟩ rfl rfl
      case J02 =>
        refine ⟨B2, [], _, o2, oH, oW2, #[], dt0, vb, vw, [], rfl, hp'.up (by omega), ⟨inv0, Nat.le_refl _, Nat.le_refl _, nil_all, nil_all⟩, rfl, nil_all, (oL []).mono S' ph5, mp, rfl, rfl, (kBd w dt0).mono S' pb5, dW2, (kWd w dt0).mono S' pw5, ⟨[], rfl⟩⟩
      case JS2 =>
        obtain ⟨B', H', m', o', oH, oW, ps4, t, vb, vw, hs, rfl, _, _, _, _, _, _, _, _, _, _, _, _⟩ := j
        exact mk0_3 rfl rfl rfl
      case JB2 =>
        obtain ⟨B', H', m', o', oH, oW, ps4, t, vb, vw, hs, rfl, z1, z2, z3, z4, z5, z6, z7, z8, z9, z10, z11, z12⟩ := j
        exact ⟨_, _, m', o', oH, oW, ps4, t, vb, vw, hs, rfl, z1, z2, z3, z4, z5, z6, z7, z8, z9, z10, z11, z12⟩
      case turn2 =>
        obtain ⟨B3, H3, m2, o2, oH2, oW3, ps4, t, ub, uw, hs, rfl, D2, ok, hhs, hok, j1, jp, jh, jb, j2, j3, j4, j5⟩ := j
        have hB : B3 = B' := hB
        subst hB
        have hH : H3 = H' := hH
        subst hH
        have sb : Sub B2 B3 := sb
        have S3 := SB sb
        have zi : i ≤ 10 := by omega
        have okz : Dt.Ok t 10 := ⟨ok.inv, Nat.le_trans ok.zM zi, Nat.le_trans ok.zR zi, ok.oM, ok.oR⟩
        have zN := ok.inv.zN
        have zC := ok.inv.zC
        have zD := ok.inv.zD
        have zM := okz.zM
        have zR := okz.zR
        dsimp only [Fm.up]
        with_reducible refine run_append (pre := [(P, o2)]) (P := kHd w t) (Eq.refl _) ?hx j1 ?hz ?xv (fun K3 oH3 S6 q3 => ?_) ?h1 ?h2 ?h3 ?h4 ?h5 ?h6 ?h7 ?h8
        case hx => exact jh
        case hz => rw [List.length_map]; omega
        case h1 | h2 | h3 => exact rfl
        case h4 => decide
        case h5 | h6 | h7 => exact rfl
        case h8 => exact ⟨_, rfl⟩
        case xv =>
          with_reducible refine ev_tup (Evs.cons ?v1 (Evs.cons ?v2 Evs.nil ?s2) ?s1) ?vz
          case vz => exact of_decide_eq_true rfl
          case s1 | s2 => exact rfl
          case v1 => exact ev_local jb j2 rfl rfl rfl (by decide)
          case v2 => exact ev_call (by walk_at "E ev") (Evs.cons (ev_local jb j2 rfl rfl rfl (by decide)) Evs.nil rfl) (dA (shown_spec handed_ft pn_ft zN (by omega) zD (by omega) (by rw [List.length_map]; omega)) (by decide)) (keep_ref (by k_is)) (.inr ⟨_, _, rfl⟩) rfl rfl
        dsimp only [List.cons_append, List.nil_append, List.append]
        with_reducible refine runx_unpack (T := "tuple") (RV := fun v mu' K' => ∃ o3 ps5, mu' = (P, o3) :: (a, oH3) :: (c4 L, oR) :: (c3 L, oP) :: (c2 L, oM) :: (c1 L, oW3) :: (456, tabObj ps) :: (427, tabObj ps5) :: [] ∧ PenD c o3 (10 + 20 * i + 20) ∧ T427 ps5 K' ∧ (kStepR w (t.M.length + 1) (t.R.length + 1)).p K' v) (.inr rfl) (hA' _) ?st ?h1 (fun v mu' K4 S4 hv => ?hv3) ?h2 ?h3
        case h1 | h2 | h3 => exact rfl
        case st =>
          with_reducible refine callx (f := .ref 449) (RL := fun vs mu1 K1 => mu1 = (P, o2) :: (a, oH3) :: (c4 L, oR) :: (c3 L, oP) :: (c2 L, oM) :: (c1 L, oW3) :: (456, tabObj ps) :: (427, tabObj ps4) :: [] ∧ (KPs [kv (.ref P), kBd w t, kWd w t]).p K1 vs) ?hf (fun K6 S7 => evsx_of ?ar) (fun vs mu1 K1 S7 hl2 => ?work) ?kp ?hs ?hp ?hee
          case hf => walk_at "E ev"
          case kp => exact keep_ref (by k_is)
          case hs => exact ⟨_, _, rfl⟩
          case hp | hee => exact rfl
          case ar =>
            exact Evs.cons (ev_local jp (show (kv (.ref P)).p K6 (.ref P) from rfl) rfl rfl rfl (by decide)) (Evs.cons (ev_local jb ((kBd w t).mono (S6.trans S7) j2) rfl rfl rfl (by decide)) (Evs.cons (ev_cell (c := c1 L) rfl (by k_mem) j3 ((kWd w t).mono (S6.trans S7) j4) rfl rfl (by decide)) Evs.nil rfl) rfl) rfl
          case work =>
            (refine ob0_2 hl2 fun e_547 hvs => ?_; try clear hl2; subst e_547)
            (refine all2_1c hvs fun _ _ e_549 e1 r_548 => ?_; clear hvs; subst e_549; revert r_548; intro hvs)
            have e1 : _ = Value.ref P := e1
            subst e1
            rw [hAe]
            refine (callx_on (own := (a, oH3) :: (c4 L, oR) :: (c3 L, oP) :: (c2 L, oM) :: (c1 L, oW3) :: (456, tabObj ps) :: []) (fr := []) (outer := []) (step_spec ok.inv (by omega) (by omega) ok.oM ok.oR) (by omega) (by omega) .nil rfl (by show ScopeKind.function ≠ ScopeKind.module; decide) S3 t1.2 nil_all C1 D2 (by omega) (j5.mono (S6.trans S7)) hvs).imp fun v mu' K' S' h => ?_
            (refine ob3_1 h fun o3 fr' ps5 q_550 => ob0_5 q_550 fun e f2 D3 t6 pv => ?_; try clear h)
            cases f2
            exact mk2_4 o3 ps5 e D3 t6 pv
        case hv3 =>
          (refine ob2_4 hv fun o3 ps5 e_551 D3 t6 pv => ?_; try clear hv; subst e_551)
          (refine ob1_2 (dt_of (n := i + 1) (by have := ok.zM; omega) (by have := ok.zR; omega) pv) fun t2 ok2 pv => ?_)
          refine mk1_3 ([kBd w t2, kWd w t2]) pv rfl (fun K5 us S5 hus => ?_)
          (refine all2_2 hus fun nb nw e_552 z1 z2 => ?_; clear hus; subst e_552)
          dsimp only [Fm.with]
          have zi : i + 1 ≤ 10 := by omega
          have okz2 : Dt.Ok t2 10 := ⟨ok2.inv, Nat.le_trans ok2.zM zi, Nat.le_trans ok2.zR zi, ok2.oM, ok2.oR⟩
          have yN := ok2.inv.zN
          have yC := ok2.inv.zC
          have yD := ok2.inv.zD
          have yM := okz2.zM
          have yR := okz2.zR
          have lay2 := Dt.lay ok2
          with_reducible refine stores_local (stores_cell (pre := [(P, o3), (a, oH3), (c4 L, oR), (c3 L, oP), (c2 L, oM)]) (Eq.refl _) j3 (fun oW4 dW4 => stores_nil ?_) ?h4 ?h5 ?h6) ?h7 ?h8 ?h9
          case h4 | h5 | h6 | h7 | h8 | h9 => exact rfl
          dsimp only [List.cons_append, List.nil_append, List.append, Fm.up, Fm.pen]
          have kbK := z1
          have kwK := z2
          with_reducible refine run_if (b := false) ?ti nob (fun _ => run_skip ?_)
          case ti =>
            refine tr_bool (.go (b := false) (tr_cmp (P₁ := kBd w t2) (ev_local rfl kbK rfl rfl rfl (by decide)) ev_none (op_is pn_inst)) rfl (.go (b := false) (tr_b (tr_cmp (P₁ := kd t2.sh) (P₂ := kd t2.sh) (ev_call (by walk_at "E ev") (Evs.cons (ev_local rfl kbK rfl rfl rfl (by decide)) Evs.nil rfl) (dA (shown_spec handed_ft pn_ft yN (by omega) yD (by omega) (by rw [List.length_map]; omega)) (by decide)) (keep_ref (by k_is)) (.inr ⟨_, _, rfl⟩) rfl rfl) (ev_call (by walk_at "E ev") (Evs.cons (ev_cell (c := c1 L) rfl (by k_mem) dW4 kwK rfl rfl (by decide)) Evs.nil rfl) (dA (told_spec yN (by omega) yD (by omega) (by rw [List.length_map]; omega)) (by decide)) (keep_ref (by k_is)) (.inr ⟨_, _, rfl⟩) rfl rfl) (op_ne lay2 lay2 (room0 (by show A.units + 3 ≤ 1000; omega) t2.dep))) (by rw [PySem.SeqAt.eqv_refl _ lay2]; rfl)) rfl .nil))
          with_reducible refine run_if (b := false) ?tn nob (fun _ => run_skip (run_nil fun s8 st8 => .inl ⟨rfl, _, K5, ?fin, ?f1, ?f2, st8⟩))
          case f1 | f2 => exact rfl
          case fin =>
            refine ⟨B3, H3, _, o3, oH3, oW4, ps5, t2, nb, nw, hs ++ [t], rfl, ?_, ok2, by rw [List.length_append]; simp [hhs], fun q hq => ?_, ?_, jp, jh, rfl, kbK, dW4, kwK, t6.mono S5⟩
            · have : 10 + 20 * i + 20 = 10 + 20 * (i + 1) := by omega
              rw [← this]; exact D3
            · rcases List.mem_append.mp hq with hq | hq
              · exact hok q hq
              · rw [List.mem_singleton.mp hq]; exact okz
            · rw [List.map_append]
              exact (oL _).mono (S4.trans S5) q3
          case tn =>
            have nd1 := ok2.inv.nk
            have nd2 : (t2.N.map (·.2)).Nodup := ok2.inv.lt.imp fun h => Int.ne_of_lt h
            have itN : Iter w (ksd w (sI t2.N)) (t2.N.map fun p => kd (.str p.1)) := by
              have := iter_dict (w := w) (kvs := sI t2.N) keyS
              rw [List.map_map] at this
              exact this
            have e1 : (t2.N.map fun p => (p.2, PyData.str p.1)) = ((t2.N.map fun p => (p.2, p.1)).map fun p => (p.1, PyData.str p.2)) := by rw [List.map_map]; rfl
            have nd3 : ((t2.N.map fun p => (p.2, p.1)).map (·.1)).Nodup := by rw [List.map_map]; exact nd2
            refine tr_cmp (P₁ := kid w (t2.N.map fun p => (p.2, PyData.str p.1))) (P₂ := kid w (t2.N.map fun p => (p.2, PyData.str p.1))) ?na ?nb ?nc
            case nc => rw [e1]; exact op_neD nd3 (by show A.units + 3 < cLine; unfold cLine; omega)
            case na => exact ev_call (by walk_at "E ev") (Evs.cons (ev_local rfl kbK rfl rfl rfl (by decide)) Evs.nil rfl) (dA (names_by_glyph_spec handed_ft nd1 nd2 (by omega)) (by decide)) (keep_ref (by k_is)) (.inr ⟨_, _, rfl⟩) rfl rfl
            case nb =>
              refine ev_call (by walk_at "E ev") (Evs.cons ?comp Evs.nil rfl) (on_dict_pairs (kvs := t2.N.map fun p => (p.2, PyData.str p.1)) keyI (hA' _) (by rw [List.map_map]; exact nd2) (by rw [List.length_map]; omega)) keep_t (.inr ⟨_, _, rfl⟩) rfl rfl
              have e : (t2.N.map fun p => (p.2, PyData.str p.1)).map (fun p => kTup [kd (.int p.1), kd p.2]) = t2.N.filterMap fun p => some (kTup [kd (.int p.2), kd (.str p.1)]) := by
                rw [List.map_map, fm_some]; rfl
              rw [e]
              refine ev_compL t2.N (fun p => kd (.str p.1)) _ (ev_sub (ev_cell (c := c1 L) rfl (by k_mem) dW4 kwK rfl rfl (by decide)) ev_int (sub_lst (i := 0) rfl (of_decide_eq_true rfl) (fun _ _ => rfl))) itN (hA' _) (by omega) (by rfl) (by decide) rfl (by decide) (by rfl) (fun q hq C' D' wr m₃ v K6 hm S6 hv => ?_) (fun _ => rfl)
              have hg2 : dget (sI t2.N) q.1 = some (.int q.2) := by rw [dget_map PyData.int, look_mem nd1 hq]; rfl
              have kwK6 := (kWd w t2).mono S6 kwK
              refine ⟨rfl, fun R e => ?_⟩
              obtain rfl := Option.some.inj e
              exact ev_tup (Evs.cons (ev_sub (ev_sub (ev_cell (c := c1 L) rfl (by k_mem) dW4 kwK6 rfl rfl (by decide)) ev_int (sub_lst (i := 0) rfl (of_decide_eq_true rfl) (fun _ _ => rfl))) (ev_local hm hv rfl rfl rfl (by decide)) (sub_dict keyS hg2 (fun _ _ => rfl))) (Evs.cons (ev_local hm hv rfl rfl rfl (by decide)) Evs.nil rfl) rfl) (of_decide_eq_true rfl)
      case done2 =>
        obtain ⟨B3, H3, m2, o2, oH2, oW3, ps4, t, ub, uw, hs, rfl, D2, ok, hhs, hok, j1, jp, jh, jb, j2, j3, j4, j5⟩ := j
        have hB : B3 = B2 := hB
        subst hB
        have hH : H3 = [] := hH
        subst hH
        with_reducible refine run_free (pre := [(P, o2)]) (Eq.refl _) ?nH fun K6 S6 g6 => ?_
        case nH => exact fun h => nomatch h
        dsimp only [List.cons_append, List.nil_append, List.append]
        have pH : (kLst (hs.map (kHd w))).p K6 (.ref a) := pl_lst (own_kpl g6 ((oL _).mono S6 j1))
        have zh : hs.length ≤ 10 := by omega
        with_reducible refine run_if (b := false) ?ti nob (fun _ => run_skip ?_)
        case ti =>
          refine tr_b (tr_cmp (P₁ := kd (.list [])) (P₂ := kd (.list [])) (Ev.weak (P := kPl []) ?cp fun h v q => lst_kd (ds := []) (pl_lst q)) (Ev.weak (P := kLst []) (ev_lst Evs.nil (of_decide_eq_true rfl)) fun h v q => lst_kd (ds := []) q) (op_ne rfl rfl (room0 (by show A.units + 3 ≤ 1000; omega) (by simp [PyData.depth, PyData.depthAll])))) rfl
          refine ev_compT (L := hs) (fa := kBd w) (fb := fun t => kd t.sh) (ev_local jh pH rfl rfl rfl (by decide)) (hA' _) (by omega) (by rfl) (by decide) rfl (by decide) (by rfl) (by rfl) (by decide) (fun q hq C' D' wr m₃ va vb K7 hma hmb S7 pa pb => ?_) (fun _ => rfl)
          have okq := hok q hq
          have yN := okq.inv.zN
          have yC := okq.inv.zC
          have yD := okq.inv.zD
          have yM := okq.zM
          have yR := okq.zR
          have lay2 := Dt.lay okq
          exact tr_b (tr_cmp (P₁ := kd q.sh) (P₂ := kd q.sh) (ev_call (by walk_at "E ev") (Evs.cons (ev_local hma pa rfl rfl rfl (by decide)) Evs.nil rfl) (dA (shown_spec handed_ft pn_ft yN (by omega) yD (by omega) (by rw [List.length_map]; omega)) (by decide)) (keep_ref (by k_is)) (.inr ⟨_, _, rfl⟩) rfl rfl) (ev_local hmb pb rfl rfl rfl (by decide)) (op_ne lay2 lay2 (room0 (by show A.units + 3 ≤ 1000; omega) q.dep))) (by rw [PySem.SeqAt.eqv_refl _ lay2]; rfl)
        have pkv : (kv (.ref P)).p K6 (.ref P) := rfl
        with_reducible refine runx_unpack (T := "tuple") (RV := fun v mu' K' => ∃ o3, mu' = (P, o3) :: (c4 L, oR) :: (c3 L, oP) :: (c2 L, oM) :: (c1 L, oW3) :: (456, tabObj ps) :: (427, tabObj ps4) :: [] ∧ PenD c o3 (10 + 20 * n + 30) ∧ kRowsR.p K' v) (.inr rfl) (hA' _) ?rw ?h1 (fun v mu' K4 S4 hv => ?hv4) ?h2 ?h3
        case h1 | h2 | h3 => exact rfl
        case rw =>
          with_reducible refine evx_ofP (F := ⟨s, B3, [], L, _, (c4 L, oR) :: (c3 L, oP) :: (c2 L, oM) :: (c1 L, oW3) :: (456, tabObj ps) :: (427, tabObj ps4) :: []⟩) ?rows D2 ?ho
          case ho => omega
          case rows => exact evp_call (n := 800) (Ps := []) (hA' _) (by show A.depth + 1 ≤ 800; omega) (by show A.units + 3 ≤ 800; omega) (SB Sub.rfl') (fun o => by walk_at "E ev") (fun o => Evs.cons (ev_local jp (show (kv (.ref P)).p K6 (.ref P) from rfl) rfl rfl rfl (by decide)) Evs.nil rfl) rows_law (keep_ref (by k_is)) ⟨_, _, rfl⟩ rfl rfl
        case hv4 =>
          obtain ⟨o3, rfl, D3, rs, zr, okr, pv⟩ := hv
          refine mk1_3 ([kd (.list (rs.map Rw.d)), kd (.str (textOf rs))]) pv rfl (fun K5 us S5 hus => ?_)
          (refine all2_2 hus fun vr vt e_555 z1 z2 => ?_; clear hus; subst e_555)
          dsimp only [Fm.with]
          with_reducible refine stores_local (stores_local (stores_nil ?_) ?h4 ?h5 ?h6) ?h7 ?h8 ?h9
          case h4 | h5 | h6 | h7 | h8 | h9 => exact rfl
          dsimp only [Fm.up]
          have okk : ∀ r ∈ rs, r.Ok := fun r hr => (okr r hr).toOk
          with_reducible refine run_return (P := kd (.bool true)) ?ev (fun v s9 K9 S9 st pv => ?fin)
          case fin =>
            have hv := kd_bool pv
            subst hv
            exact ret s9 st.rl (sB1.trans st.base) ⟨_, st.mus (427, tabObj ps4) (by k_mem)⟩ ⟨_, st.mus (456, tabObj ps) (by k_mem)⟩
          case ev =>
            refine ev_b (ev_cmp (ev_call (P := kd (.str (textOf rs))) (Ps := [kd (.list (rs.map Rw.d)), kid w [(1, .str (Str.ofString "a"))]]) (by walk_at "E ev") (Evs.cons (ev_local rfl z1 rfl rfl rfl (by decide)) (Evs.cons (ev_dict1 keyI ev_int ev_str flat_str) Evs.nil rfl) rfl) (dA (seen_text_spec okk zr (join_len okk zr)) (by decide)) (keep_ref (by k_is)) (.inr ⟨_, _, rfl⟩) rfl rfl) (ev_local rfl z2 rfl rfl rfl (by decide)) op_eqS) (by simp)
theorem ints_len {vs : List Value} {ns : List Int} (h : IntsAre vs ns) : vs.length = ns.length := by
  induction h with
  | nil => rfl
  | cons _ _ _ ih => simp [ih]
theorem law_holds : PySem.Challenge.rw_nz0116_01.Holds := Mine.hd (by
  w_strict (
    k_fill
    intro w s₀ s₁ mg mb G Y fa o pm cd doc dV kV ho hd hcd hD hmg hg args vals as hpre hlay hrd hwl hlo
    have KX := km_in_of Y
    have KT := km_tabs_of Y
    have X := (Ground.X G).1
    have V := (Ground.X G).2
    refine Ground.open G ?_
    intro T B D TE TW
    try (refine guard_noD D (by decide +kernel) ?_; clear D)
    have efa := mg_of KX T.g (n := Str.ofString "law") (v := .ref 459) (by k_is)
    rw [hmg] at efa
    wrow_args hpre hlay hrd hwl hlo
    all_goals (
      first | refine callC_kw (enter_call ?_) | refine enter_call ?_ | refine callC_kw (enter_callW ?_) | refine enter_callW ?_ | w_how
      w_top on)
    have hT : TabsAt [(431, 427), (458, 456)] s₁.heap := fun q hq => by
      rcases List.mem_cons.mp hq with rfl | hq
      · exact ⟨codeHd_of_K KX (by kernel_rfl), KT 427 (by k_mem)⟩
      · rw [List.mem_singleton.mp hq]
        exact ⟨codeHd_of_K KX (by kernel_rfl), KT 456 (by k_mem)⟩
    have CA := ghost_code hT
    refine kn_post hT (fun _ _ => rfl) ?_
    cases efa
    rename IntsAre _ _ => hi
    rename Heap.IsList _ _ _ => hl
    rename ¬ (_ < _) => hc
    have hn := ints_len hi
    refine law_spec (B0 := ghostOf s₁.heap [(431, 427), (458, 456)]) rfl rfl (by decide) (by decide) ⟨ghost_K hT KX (by kernel_rfl), _, _, _, _, _, ghost_top hT T⟩ hide_sub CA.1 CA.2.1 ⟨KT 427 (by k_mem), hideAll_none _ (by decide)⟩ ⟨KT 456 (by k_mem), hideAll_none _ (by decide)⟩ (ghost_list hT hl) hi (by omega) hn fun s' rl sub g1 g2 => ?_
    (refine ob2_1 rl fun h' tk e_556 => ?_; try clear rl; subst e_556)
    exact ⟨⟨.inl ⟨.bool true, .bool true, [], rfl, fun _ => rfl, .bool true, (by first | rfl | wrow_post), fun _ => ⟨List.nodup_nil, nil_all⟩⟩, sub, rfl, hg⟩, g1, g2, trivial⟩))
end Mine
theorem PySem.Challenge.cw_nz0116_01_holds : PySem.Challenge.rw_nz0116_01.Holds :=
  Mine.law_holds
