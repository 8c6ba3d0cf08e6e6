import PyProof.Rows.All
import Wide.All
import OpenK.AllK
import Wide.FinOn
import PySem.Challenge.RW_pf0075_01
open PySem PySem.W PySem.W.X PySem.Calls PyProof.Rows PySem.Spec
set_option Elab.async false
set_option maxRecDepth 100000
set_option maxHeartbeats 0
set_option compiler.extract_closed false
namespace Mine
theorem nq : PySem.W.namesOk = PySem.W.namesOk := rfl
name_quick tw8599406847853129411 for PySem.W.namesOk by nq
name_quick tw8075568018651887793 for PySem.W.namesOk by nq
name_quick tw4549671731633647312 for PySem.W.namesOk by nq
name_quick tw8596489363040539036 for PySem.W.namesOk by nq
name_quick tw10854754236479496795 for PySem.W.namesOk by nq
name_quick tw14979626087600564940 for PySem.W.namesOk by nq
name_quick tw4864029045853621792 for PySem.W.namesOk by nq
name_quick tw14698076462512835083 for PySem.W.namesOk by nq
name_quick tw13497088773603432520 for PySem.W.namesOk by nq
name_quick tw10795322020468737591 for PySem.W.namesOk by nq
name_quick tw1307395114118428627 for PySem.W.namesOk by nq
name_quick tw15672971873811296575 for PySem.W.namesOk by nq
name_quick tw9029142643779711378 for PySem.W.namesOk by nq
name_quick tw15376083050721069600 for PySem.W.namesOk by nq
name_quick tw7286323032743288035 for PySem.W.namesOk by nq
name_quick tw6313222484189431382 for PySem.W.namesOk by nq
name_quick tw9137105182441381901 for PySem.W.namesOk by nq
name_quick tw2354101950205528012 for PySem.W.namesOk by nq
name_quick tw1184552218554016812 for PySem.W.namesOk by nq
name_quick tw3093977132361051618 for PySem.W.namesOk by nq
name_quick tw12850107946570832962 for PySem.W.namesOk by nq
name_quick tw878741703135273975 for PySem.W.namesOk by nq
name_quick tw11519604305632133818 for PySem.W.namesOk by nq
name_quick tw387338674003428930 for PySem.W.namesOk by nq
name_quick tw18101931140130867144 for PySem.W.namesOk by nq
name_quick tw183835017167291270 for PySem.W.namesOk by nq
name_quick tw14559557019303687921 for PySem.W.namesOk by nq
name_quick tw3436264866546951355 for PySem.W.namesOk by nq
name_quick tw11445135464325071761 for PySem.W.namesOk by nq
name_quick tw9136488742655976645 for PySem.W.namesOk by nq
name_quick tw1291980286583624508 for PySem.W.namesOk by nq
name_quick tw17975652961387846372 for PySem.W.namesOk by nq
name_quick tw16817318245366136608 for PySem.W.namesOk by nq
name_quick tw17846936440860909165 for PySem.W.namesOk by nq
name_quick tw1258717718454355964 for PySem.W.namesOk by nq
name_quick tw9862997608875712007 for PySem.W.namesOk by nq
name_quick tw1370275717833778536 for PySem.W.namesOk by nq
name_quick tw15034313371233782410 for PySem.W.namesOk by nq
name_quick tw13358618909089187005 for PySem.W.namesOk by nq
name_quick tw8206430501311747189 for PySem.W.namesOk by nq
name_quick tw16414604833108395602 for PySem.W.namesOk by nq
name_quick tw17888162413812561239 for PySem.W.namesOk by nq
name_quick tw16413264400604254196 for PySem.W.namesOk by nq
name_quick tw3386650904741475044 for PySem.W.namesOk by nq
name_quick tw4292500188555128830 for PySem.W.namesOk by nq
name_quick tw17804436615005485693 for PySem.W.namesOk by nq
name_quick tw3094477031063562474 for PySem.W.namesOk by nq
name_quick tw13231743634260944447 for PySem.W.namesOk by nq
name_quick tw13809362725867891129 for PySem.W.namesOk by nq
name_quick tw10528696920762540405 for PySem.W.namesOk by nq
name_quick tw2905824091091238844 for PySem.W.namesOk by nq
name_quick tw7250012664060256230 for PySem.W.namesOk by nq
name_quick tw16916688483869632129 for PySem.W.namesOk by nq
name_quick tw2193789692954389824 for PySem.W.namesOk by nq
name_quick tw3619232141914619222 for PySem.W.namesOk by nq
name_quick tw18260038339965228139 for PySem.W.namesOk by nq
name_quick tw5823794197072137003 for PySem.W.namesOk by nq
name_quick tw11543547407058413889 for PySem.W.namesOk by nq
name_quick tw17300597898927385350 for PySem.W.namesOk by nq
name_quick tw8400853705098224536 for PySem.W.namesOk by nq
name_quick tw460243522976405022 for PySem.W.namesOk by nq
name_quick tw8032284361305108907 for PySem.W.namesOk by nq
name_quick tw9800571698397750058 for PySem.W.namesOk by nq
name_quick tw17164873540382356111 for PySem.W.namesOk by nq
name_quick tw11310463157757771331 for PySem.W.namesOk by nq
name_quick tw8119918657739134586 for PySem.W.namesOk by nq
name_quick tw2711585505577850959 for PySem.W.namesOk by nq
name_quick tw1620339239838986703 for PySem.W.namesOk by nq
name_quick tw17111948838632640456 for PySem.W.namesOk by nq
name_quick tw16593013826814733010 for PySem.W.namesOk by nq
name_quick tw9951705424602377420 for PySem.W.namesOk by nq
name_quick tw13145125596335152023 for PySem.W.namesOk by nq
name_quick tw2334299552400917057 for PySem.W.namesOk by nq
name_quick tw17552769576498331613 for PySem.W.namesOk by nq
name_quick tw6711915476519705758 for PySem.W.namesOk by nq
name_quick tw3264259588550801142 for PySem.W.namesOk by nq
name_quick tw5200128776193632040 for PySem.W.namesOk by nq
name_quick tw16752143609539240740 for PySem.W.namesOk by nq
name_quick tw11130039905162102590 for PySem.W.namesOk by nq
name_quick tw9676229304581654039 for PySem.W.namesOk by nq
name_quick tw18220123701641295943 for PySem.W.namesOk by nq
name_quick tw1503297043503765363 for PySem.W.namesOk by nq
name_quick tw8719427161674164953 for PySem.W.namesOk by nq
name_quick tw3856783459128436802 for PySem.W.namesOk by nq
name_quick tw5111356299099525756 for PySem.W.namesOk by nq
name_quick tw17069979004554194336 for PySem.W.namesOk by nq
name_quick tw5721027456603625697 for PySem.W.namesOk by nq
name_quick tw11333186260410459676 for PySem.W.namesOk by nq
name_quick tw2283851925072248500 for PySem.W.namesOk by nq
name_quick tw12813236842856870187 for PySem.W.namesOk by nq
name_quick tw6722154040420286063 for PySem.W.namesOk by nq
name_quick tw6967401301877209104 for PySem.W.namesOk by nq
name_quick tw14896874001708588922 for PySem.W.namesOk by nq
name_quick tw9467589175468403638 for PySem.W.namesOk by nq
name_quick tw18345786424863182364 for PySem.W.namesOk by nq
name_quick tw9315938663221665524 for PySem.W.namesOk by nq
name_quick tw558745408833754511 for PySem.W.namesOk by nq
name_quick tw3764465048917985505 for PySem.W.namesOk by nq
name_quick tw11838138170533393997 for PySem.W.namesOk by nq
name_quick tw15806122291839087668 for PySem.W.namesOk by nq
name_quick tw12450158673883907302 for PySem.W.namesOk by nq
name_quick tw15007238320947547705 for PySem.W.namesOk by nq
name_quick tw347637069881736656 for PySem.W.namesOk by nq
name_quick tw15195428891847259777 for PySem.W.namesOk by nq
name_quick tw17476080006546285661 for PySem.W.namesOk by nq
name_quick tw5697894365363955025 for PySem.W.namesOk by nq
name_quick tw8224813933742928703 for PySem.W.namesOk by nq
name_quick tw1749818173716722547 for PySem.W.namesOk by nq
name_quick tw14311459727803291754 for PySem.W.namesOk by nq
name_quick tw4319705520415482375 for PySem.W.namesOk by nq
name_quick tw14834023430324568649 for PySem.W.namesOk by nq
name_quick tw2422670821966735624 for PySem.W.namesOk by nq
name_quick tw13642483538084851733 for PySem.W.namesOk by nq
name_quick tw3891137856419664920 for PySem.W.namesOk by nq
name_quick tw12825359941727978080 for PySem.W.namesOk by nq
name_quick tw12177639751122801600 for PySem.W.namesOk by nq
name_quick tw6122645084068987007 for PySem.W.namesOk by nq
name_quick tw1574873078441994576 for PySem.W.namesOk by nq
name_quick tw6792406925840432001 for PySem.W.namesOk by nq
name_quick tw6380047634161181297 for PySem.W.namesOk by nq
name_quick tw7275051467321613617 for PySem.W.namesOk by nq
name_quick tw5518745428033880147 for PySem.W.namesOk by nq
name_quick tw17730428716208468724 for PySem.W.namesOk by nq
name_quick tw4797165386629745026 for PySem.W.namesOk by nq
name_quick tw951843321253372498 for PySem.W.namesOk by nq
name_quick tw16947794391021106201 for PySem.W.namesOk by nq
name_quick tw15079194523842364033 for PySem.W.namesOk by nq
name_quick tw10470071008263537045 for PySem.W.namesOk by nq
name_quick tw1772237422875290029 for PySem.W.namesOk by nq
name_quick tw18056578402003937789 for PySem.W.namesOk by nq
name_quick tw219737044198020058 for PySem.W.namesOk by nq
name_quick tw5732905514179830355 for PySem.W.namesOk by nq
name_quick tw11277716924127702174 for PySem.W.namesOk by nq
name_quick tw13180171748994924942 for PySem.W.namesOk by nq
name_quick tw1414301608579184545 for PySem.W.namesOk by nq
name_quick tw17730448691065144110 for PySem.W.namesOk by nq
name_quick tw17001327861769816259 for PySem.W.namesOk by nq
name_quick tw1735497430108182060 for PySem.W.namesOk by nq
name_quick tw11682084944484805031 for PySem.W.namesOk by nq
name_quick tw1156252341971683116 for PySem.W.namesOk by nq
name_quick tw12392613427281201732 for PySem.W.namesOk by nq
name_quick tw9787463984185863102 for PySem.W.namesOk by nq
name_quick tw14224011070414065920 for PySem.W.namesOk by nq
name_quick tw9626621113073979434 for PySem.W.namesOk by nq
name_quick tw3315324234476444515 for PySem.W.namesOk by nq
name_quick tw12393455550290869266 for PySem.W.namesOk by nq
name_quick tw3698559305507148144 for PySem.W.namesOk by nq
name_quick tw14126943448341045398 for PySem.W.namesOk by nq
name_quick tw12659028871203227004 for PySem.W.namesOk by nq
name_quick tw16548257151911338427 for PySem.W.namesOk by nq
name_quick tw15560500314895047343 for PySem.W.namesOk by nq
name_quick tw13016732220969518872 for PySem.W.namesOk by nq
name_quick tw6589095468515690095 for PySem.W.namesOk by nq
name_quick tw7094674258960923220 for PySem.W.namesOk by nq
name_quick tw11306939235166856333 for PySem.W.namesOk by nq
name_quick tw8579058602437062094 for PySem.W.namesOk by nq
name_quick tw11796506867022685745 for PySem.W.namesOk by nq
name_quick tw8450942572126056277 for PySem.W.namesOk by nq
name_quick tw12233582284571471492 for PySem.W.namesOk by nq
name_quick tw9931943479562821362 for PySem.W.namesOk by nq
name_quick tw17988542015724977305 for PySem.W.namesOk by nq
name_quick tw4527066259768149269 for PySem.W.namesOk by nq
name_quick tw12155599717374958085 for PySem.W.namesOk by nq
name_quick tw8703263022893421829 for PySem.W.namesOk by nq
name_quick tw11186114360453789277 for PySem.W.namesOk by nq
name_quick tw912392155897948271 for PySem.W.namesOk by nq
name_quick tw18263319221461684349 for PySem.W.namesOk by nq
name_quick tw7232422423428716515 for PySem.W.namesOk by nq
name_quick tw9458956999447867950 for PySem.W.namesOk by nq
name_quick tw17954471519018878134 for PySem.W.namesOk by nq
name_quick tw18350330562280901221 for PySem.W.namesOk by nq
name_quick tw1829445100760108279 for PySem.W.namesOk by nq
name_quick tw16018607276475445134 for PySem.W.namesOk by nq
name_quick tw13215998728584607739 for PySem.W.namesOk by nq
name_quick tw13759679279233594173 for PySem.W.namesOk by nq
name_quick tw12371321757623732685 for PySem.W.namesOk by nq
name_quick tw15663404670287596823 for PySem.W.namesOk by nq
name_quick tw17828083071136270317 for PySem.W.namesOk by nq
name_quick tw932993149863042379 for PySem.W.namesOk by nq
name_quick tw7365555872484859036 for PySem.W.namesOk by nq
name_quick tw17532440430192770315 for PySem.W.namesOk by nq
name_quick tw17000458434675057986 for PySem.W.namesOk by nq
name_quick tw1962928258387122110 for PySem.W.namesOk by nq
name_quick tw14112274594779413971 for PySem.W.namesOk by nq
name_quick tw16697116713213952808 for PySem.W.namesOk by nq
name_quick tw2660918139993853925 for PySem.W.namesOk by nq
name_quick tw16494616584097029746 for PySem.W.namesOk by nq
name_quick tw8595292554425487202 for PySem.W.namesOk by nq
name_quick tw15900120412870309639 for PySem.W.namesOk by nq
name_quick tw16176465441171805009 for PySem.W.namesOk by nq
name_quick tw17863021456227041891 for PySem.W.namesOk by nq
name_quick tw3282434896037501709 for PySem.W.namesOk by nq
name_quick tw16531745337717519161 for PySem.W.namesOk by nq
name_quick tw6426273055680023932 for PySem.W.namesOk by nq
name_quick tw17100903815162463580 for PySem.W.namesOk by nq
name_quick tw16643706677886111943 for PySem.W.namesOk by nq
name_quick tw15490439104401381959 for PySem.W.namesOk by nq
name_quick tw17000155066101142889 for PySem.W.namesOk by nq
name_quick tw4090926877573551719 for PySem.W.namesOk by nq
name_quick tw11994158751524154303 for PySem.W.namesOk by nq
name_quick tw15980859228951719591 for PySem.W.namesOk by nq
name_quick tw900395245841561262 for PySem.W.namesOk by nq
name_quick tw3118938333895590913 for PySem.W.namesOk by nq
name_quick tw7276740287692124622 for PySem.W.namesOk by nq
name_quick tw17517737089405305841 for PySem.W.namesOk by nq
name_quick tw17274371674624000324 for PySem.W.namesOk by nq
name_quick tw8860024209350480642 for PySem.W.namesOk by nq
name_quick tw16180582048198870337 for PySem.W.namesOk by nq
name_quick tw7323676302269181137 for PySem.W.namesOk by nq
name_quick tw6245536207120538393 for PySem.W.namesOk by nq
name_quick tw7745614565497352828 for PySem.W.namesOk by nq
name_quick tw3152983702415266003 for PySem.W.namesOk by nq
name_quick tw7504490480230193789 for PySem.W.namesOk by nq
name_quick tw8376441433122354887 for PySem.W.namesOk by nq
name_quick tw16437185098154296904 for PySem.W.namesOk by nq
name_quick tw11707433790658880453 for PySem.W.namesOk by nq
name_quick tw1886563365779066154 for PySem.W.namesOk by nq
name_quick tw10314498396905981064 for PySem.W.namesOk by nq
name_quick tw2599325451414397859 for PySem.W.namesOk by nq
name_quick tw16792545251062261874 for PySem.W.namesOk by nq
name_quick tw17532718790514356516 for PySem.W.namesOk by nq
name_quick tw16049961110935095269 for PySem.W.namesOk by nq
name_quick tw1320183511955256522 for PySem.W.namesOk by nq
name_quick tw7035115661146626270 for PySem.W.namesOk by nq
name_quick tw4407734736301137906 for PySem.W.namesOk by nq
name_quick tw12290603225136948437 for PySem.W.namesOk by nq
name_quick tw151948405760981731 for PySem.W.namesOk by nq
name_quick tw10010936943081839664 for PySem.W.namesOk by nq
name_quick tw667198328695590252 for PySem.W.namesOk by nq
name_quick tw16296994325663420285 for PySem.W.namesOk by nq
name_quick tw10007627690174824804 for PySem.W.namesOk by nq
name_quick tw15423634916342008072 for PySem.W.namesOk by nq
name_quick tw2447775223705975068 for PySem.W.namesOk by nq
name_quick tw1537898542681612871 for PySem.W.namesOk by nq
name_quick tw8642067239939848140 for PySem.W.namesOk by nq
name_quick tw8047484207015712433 for PySem.W.namesOk by nq
name_quick tw9305782018832362445 for PySem.W.namesOk by nq
name_quick tw10205541121877940668 for PySem.W.namesOk by nq
name_quick tw10317580896714288900 for PySem.W.namesOk by nq
name_quick tw6448080314894763839 for PySem.W.namesOk by nq
name_quick tw7581816359482902497 for PySem.W.namesOk by nq
name_quick tw16241802466949684156 for PySem.W.namesOk by nq
name_quick tw14433975572909055671 for PySem.W.namesOk by nq
name_quick tw10833955939284561965 for PySem.W.namesOk by nq
name_quick tw4434333111790514575 for PySem.W.namesOk by nq
name_quick tw9151444980202551346 for PySem.W.namesOk by nq
name_quick tw9501820088010722379 for PySem.W.namesOk by nq
name_quick tw704327219915372674 for PySem.W.namesOk by nq
name_quick tw5357591511691535388 for PySem.W.namesOk by nq
name_quick tw7269565832213808900 for PySem.W.namesOk by nq
name_quick tw13776390136698705113 for PySem.W.namesOk by nq
name_quick tw12734952128020822468 for PySem.W.namesOk by nq
name_quick tw9948023125614773506 for PySem.W.namesOk by nq
name_quick tw12832477231654346042 for PySem.W.namesOk by nq
name_quick tw17018628822417861297 for PySem.W.namesOk by nq
name_quick tw15480198773659482676 for PySem.W.namesOk by nq
name_quick tw10706342367453228570 for PySem.W.namesOk by nq
name_quick tw6683783046931543321 for PySem.W.namesOk by nq
name_quick tw12022618010286034681 for PySem.W.namesOk by nq
name_quick tw17279654841073493023 for PySem.W.namesOk by nq
name_quick tw6679490504615227074 for PySem.W.namesOk by nq
name_quick tw15475462885187679331 for PySem.W.namesOk by nq
name_quick tw6004533443673955352 for PySem.W.namesOk by nq
name_quick tw9759809726879904816 for PySem.W.namesOk by nq
name_quick tw15112985482279097393 for PySem.W.namesOk by nq
name_quick tw13900631225919944168 for PySem.W.namesOk by nq
name_quick tw5349121933718820234 for PySem.W.namesOk by nq
name_quick tw15542503528162795033 for PySem.W.namesOk by nq
name_quick tw1702518465993881591 for PySem.W.namesOk by nq
name_quick tw13678640442995254988 for PySem.W.namesOk by nq
name_quick tw4980102563643897964 for PySem.W.namesOk by nq
name_quick tw9011979029575296479 for PySem.W.namesOk by nq
name_quick tw4636218855388986860 for PySem.W.namesOk by nq
name_quick tw16643379632663270332 for PySem.W.namesOk by nq
name_quick tw1617757218408452269 for PySem.W.namesOk by nq
name_quick tw43969757491396457 for PySem.W.namesOk by nq
name_quick tw7009043117176579089 for PySem.W.namesOk by nq
name_quick tw16145008321745377990 for PySem.W.namesOk by nq
name_quick tw9674257727999782656 for PySem.W.namesOk by nq
name_quick tw9376109419431680627 for PySem.W.namesOk by nq
name_quick tw5882768191206486792 for PySem.W.namesOk by nq
name_quick tw4011157648589011858 for PySem.W.namesOk by nq
name_quick tw282004115355043989 for PySem.W.namesOk by nq
name_quick tw2968979199505139716 for PySem.W.namesOk by nq
name_quick tw13512673800721320934 for PySem.W.namesOk by nq
name_quick tw14168537005229113720 for PySem.W.namesOk by nq
name_quick tw6434138532213402376 for PySem.W.namesOk by nq
name_quick tw4075660801711882420 for PySem.W.namesOk by nq
name_quick tw3039592710220408265 for PySem.W.namesOk by nq
name_quick tw7392212959928792091 for PySem.W.namesOk by nq
name_quick tw3442601649717412197 for PySem.W.namesOk by nq
name_quick tw14821650378409806113 for PySem.W.namesOk by nq
name_quick tw8753696776887207221 for PySem.W.namesOk by nq
name_quick tw8902219603052485911 for PySem.W.namesOk by nq
name_quick tw15823609455315575823 for PySem.W.namesOk by nq
name_quick tw4933834842325187142 for PySem.W.namesOk by nq
name_quick tw10938465397075749097 for PySem.W.namesOk by nq
name_quick tw17964007177503468958 for PySem.W.namesOk by nq
name_quick tw2460228577881660442 for PySem.W.namesOk by nq
name_quick tw14073706353221006472 for PySem.W.namesOk by nq
name_quick tw724751600484774222 for PySem.W.namesOk by nq
name_quick tw14223099787259518943 for PySem.W.namesOk by nq
name_quick tw14386061602966655976 for PySem.W.namesOk by nq
name_quick tw136631920214876835 for PySem.W.namesOk by nq
name_quick tw5706481520468235054 for PySem.W.namesOk by nq
name_quick tw11161088081135249708 for PySem.W.namesOk by nq
name_quick tw11985326045990495214 for PySem.W.namesOk by nq
name_quick tw14333388528381170442 for PySem.W.namesOk by nq
name_quick tw4549333791460862111 for PySem.W.namesOk by nq
name_quick tw6929956602132211858 for PySem.W.namesOk by nq
name_quick tw16979880578912567463 for PySem.W.namesOk by nq
name_quick tw13236226663087606529 for PySem.W.namesOk by nq
name_quick tw17057272898397164401 for PySem.W.namesOk by nq
name_quick tw6019396324639902685 for PySem.W.namesOk by nq
name_quick tw8253183596043897158 for PySem.W.namesOk by nq
name_quick tw6363645014702824404 for PySem.W.namesOk by nq
name_quick tw4302124980754421698 for PySem.W.namesOk by nq
name_quick tw10029231156530900338 for PySem.W.namesOk by nq
name_quick tw4978915544186085027 for PySem.W.namesOk by nq
name_quick tw18416463498863911781 for PySem.W.namesOk by nq
name_quick tw11636919720809706868 for PySem.W.namesOk by nq
name_quick tw5529568453561195837 for PySem.W.namesOk by nq
name_quick tw5268983451555188008 for PySem.W.namesOk by nq
name_quick tw11892598404827812706 for PySem.W.namesOk by nq
name_quick tw8537084889766193716 for PySem.W.namesOk by nq
name_quick tw17497748084772794779 for PySem.W.namesOk by nq
name_quick tw4071324889030633612 for PySem.W.namesOk by nq
name_quick tw12172078356533094185 for PySem.W.namesOk by nq
name_quick tw3131671291697673992 for PySem.W.namesOk by nq
name_quick tw662354867322794072 for PySem.W.namesOk by nq
name_quick tw13607416678640721797 for PySem.W.namesOk by nq
name_quick tw14537914154153760125 for PySem.W.namesOk by nq
name_quick tw18340240734955500558 for PySem.W.namesOk by nq
name_quick tw14714103240675001986 for PySem.W.namesOk by nq
name_quick tw13002492023102617099 for PySem.W.namesOk by nq
name_quick tw10919533547850550483 for PySem.W.namesOk by nq
name_quick tw13559156169165276386 for PySem.W.namesOk by nq
name_quick tw1041845030581493396 for PySem.W.namesOk by nq
name_quick tw3362959441861295915 for PySem.W.namesOk by nq
name_quick tw13789449189825218787 for PySem.W.namesOk by nq
name_quick tw4558998842232669794 for PySem.W.namesOk by nq
name_quick tw7892128664451923741 for PySem.W.namesOk by nq
name_quick tw14108194823987119177 for PySem.W.namesOk by nq
name_quick tw313226197891681235 for PySem.W.namesOk by nq
name_quick tw16439824349840649037 for PySem.W.namesOk by nq
name_quick tw2315820567201803617 for PySem.W.namesOk by nq
name_quick tw4552823106982906706 for PySem.W.namesOk by nq
name_quick tw2039238271031011813 for PySem.W.namesOk by nq
name_quick tw9594665118957945026 for PySem.W.namesOk by nq
name_quick tw11270796479367742343 for PySem.W.namesOk by nq
name_quick tw14884601019740666482 for PySem.W.namesOk by nq
name_quick tw10942035263794033107 for PySem.W.namesOk by nq
name_quick tw4679858250743294509 for PySem.W.namesOk by nq
name_quick tw1706496860858754268 for PySem.W.namesOk by nq
name_quick tw12329403913580668285 for PySem.W.namesOk by nq
name_quick tw13254397897704925713 for PySem.W.namesOk by nq
name_quick tw16374537267813192141 for PySem.W.namesOk by nq
name_quick tw9908251947323293946 for PySem.W.namesOk by nq
name_quick tw10887116778572429059 for PySem.W.namesOk by nq
name_quick tw505943868828395459 for PySem.W.namesOk by nq
name_quick tw9407582987413476825 for PySem.W.namesOk by nq
name_quick tw6550987210724342151 for PySem.W.namesOk by nq
name_quick tw1419416864934026935 for PySem.W.namesOk by nq
name_quick tw10323183001455561277 for PySem.W.namesOk by nq
name_quick tw6434265647005701932 for PySem.W.namesOk by nq
name_quick tw7496433998918960881 for PySem.W.namesOk by nq
name_quick tw1092655722715705105 for PySem.W.namesOk by nq
name_quick tw15766043655864335149 for PySem.W.namesOk by nq
name_quick tw11788150170368784547 for PySem.W.namesOk by nq
name_quick tw4921902886906138986 for PySem.W.namesOk by nq
name_quick tw5701610774189311196 for PySem.W.namesOk by nq
name_quick tw6817277305950994716 for PySem.W.namesOk by nq
name_quick tw7098571738820278039 for PySem.W.namesOk by nq
name_quick tw11420187438672877268 for PySem.W.namesOk by nq
name_quick tw12945451867199242903 for PySem.W.namesOk by nq
name_quick tw8098380416015320538 for PySem.W.namesOk by nq
name_quick tw11939915149646268982 for PySem.W.namesOk by nq
name_quick tw11790162104776037713 for PySem.W.namesOk by nq
name_quick tw11013792430000457035 for PySem.W.namesOk by nq
name_quick tw7401281599722004195 for PySem.W.namesOk by nq
name_quick tw3577408171920636059 for PySem.W.namesOk by nq
name_quick tw17537794083376710389 for PySem.W.namesOk by nq
name_quick tw4525517667737911620 for PySem.W.namesOk by nq
name_quick tw8727135674562949291 for PySem.W.namesOk by nq
name_quick tw15919542637913265678 for PySem.W.namesOk by nq
name_quick tw16869277618539721502 for PySem.W.namesOk by nq
name_quick tw608726401823008365 for PySem.W.namesOk by nq
name_quick tw5345256250457102556 for PySem.W.namesOk by nq
name_quick tw5978237884098788730 for PySem.W.namesOk by nq
name_quick tw470574548607681690 for PySem.W.namesOk by nq
name_quick tw11452132507678324671 for PySem.W.namesOk by nq
name_quick tw2408619945344806742 for PySem.W.namesOk by nq
name_quick tw3560238982266916124 for PySem.W.namesOk by nq
name_quick tw8424611434330503625 for PySem.W.namesOk by nq
name_quick tw2670528217467546775 for PySem.W.namesOk by nq
name_quick tw2478078296215019888 for PySem.W.namesOk by nq
name_quick tw11964429278604863157 for PySem.W.namesOk by nq
name_quick tw10996506086634736982 for PySem.W.namesOk by nq
name_quick tw15894407043143930727 for PySem.W.namesOk by nq
name_quick tw12635813782599140982 for PySem.W.namesOk by nq
name_quick tw6059929106960060952 for PySem.W.namesOk by nq
name_quick tw4224760802259116069 for PySem.W.namesOk by nq
name_quick tw13036272033356848781 for PySem.W.namesOk by nq
name_quick tw10227693086864044499 for PySem.W.namesOk by nq
name_quick tw1333364371103165705 for PySem.W.namesOk by nq
name_quick tw6662432510661729299 for PySem.W.namesOk by nq
name_quick tw16349804527192203551 for PySem.W.namesOk by nq
name_quick tw15450981722951097364 for PySem.W.namesOk by nq
name_quick tw7788680626742099145 for PySem.W.namesOk by nq
name_quick tw12237943961548833269 for PySem.W.namesOk by nq
name_quick tw2611137233208623240 for PySem.W.namesOk by nq
name_quick tw1377046205977697930 for PySem.W.namesOk by nq
name_quick tw9564595351457756722 for PySem.W.namesOk by nq
name_quick tw4658958612460137192 for PySem.W.namesOk by nq
name_quick tw8603108125212654177 for PySem.W.namesOk by nq
name_quick tw2627984346626558326 for PySem.W.namesOk by nq
name_quick tw1402947280878808549 for PySem.W.namesOk by nq
name_quick tw3976722010076183465 for PySem.W.namesOk by nq
name_quick tw3880421473898291048 for PySem.W.namesOk by nq
name_quick tw4039474712603431140 for PySem.W.namesOk by nq
name_quick tw13615603153576403970 for PySem.W.namesOk by nq
name_quick tw1218959903707654005 for PySem.W.namesOk by nq
name_quick tw7650934615059315214 for PySem.W.namesOk by nq
name_quick tw11863081143760314161 for PySem.W.namesOk by nq
name_quick tw9529234661008812162 for PySem.W.namesOk by nq
name_quick tw18211773271919218964 for PySem.W.namesOk by nq
name_quick tw16741492637210864865 for PySem.W.namesOk by nq
name_quick tw15263041282635125899 for PySem.W.namesOk by nq
name_quick tw117213463901210413 for PySem.W.namesOk by nq
name_quick tw16846860572762119324 for PySem.W.namesOk by nq
name_quick tw15742981410569661332 for PySem.W.namesOk by nq
name_quick tw4775785305629353868 for PySem.W.namesOk by nq
name_quick tw7299303143086499733 for PySem.W.namesOk by nq
name_quick tw8989982439271903415 for PySem.W.namesOk by nq
name_quick tw3972328310683599613 for PySem.W.namesOk by nq
name_quick tw5396446701170858492 for PySem.W.namesOk by nq
name_quick tw7198390536060210744 for PySem.W.namesOk by nq
name_quick tw11566699232636054958 for PySem.W.namesOk by nq
name_quick tw10424941004445345732 for PySem.W.namesOk by nq
name_quick tw9763268239775435451 for PySem.W.namesOk by nq
open_top hd for PySem.Challenge.rw_pf0075_01
theorem nq2 : True := by
  w_top off
  trivial
section
theorem hide {p : Prop} (h : ∀ G : Prop, (p → G) → G) : p := h p id
abbrev tupO (vs : List Value) (n : Nat) : Obj := { cls := .type "tuple", data := .seq vs.toArray n }
abbrev excO (t : Addr) (dx : Option Addr) : Obj := { cls := .ref 59, dict := dx, data := .fields #[.ref t, .none, .none, .none, .bool false, .none] }
local macro_rules | `(tactic| x_close) => `(tactic| (rename ∀ h' e t tk, Mem _ h' [] _ → _ => hq; exact hq _ _ _ _ (by assumption)))
theorem exc_new (w : World) (A : Around) (s : Shared) (a b : Value) (Q E : Value → Shared → Prop)
    (X : (hd.heap_39 w.params).In s.heap) 
    (hret : ∀ h' e t tk, Mem s.heap h' [] [(e, excO t none), (t, tupO [a, b] 0)] → Q (.ref e) { s with heap := h', toks := tk }) :
    wpAny (model PySem.Challenge.rw_pf0075_01.row.prog w) A (call (.builtin "Exception.__new__") [.ref 59, a, b]) Q E s := by
  have hfill : (hd.heap_39 = hd.heap_39 ∧ PySem.Challenge.rw_pf0075_01 = PySem.Challenge.rw_pf0075_01) → True := by
    k_fill
    intro _; trivial
  clear hfill
  x_run
theorem exc_call (w : World) (A : Around) (s : Shared) (a b : Value) (R : Result → Shared → Prop)
    (X : (hd.heap_39 w.params).In s.heap)
    (hret : ∀ h' e t tk, Mem s.heap h' [] [(e, excO t none), (t, tupO [a, b] 0)] →
      codeAny (model PySem.Challenge.rw_pf0075_01.row.prog w) (A.under (.builtin "type.__call__" ⟨[.ref 59, a, b], []⟩)) (.call (.ref 56) ⟨[.ref e, a, b], []⟩) (InitBack e R) { s with heap := h', toks := tk }) :
    codeAny (model PySem.Challenge.rw_pf0075_01.row.prog w) A (.call (.ref 59) ⟨[a, b], []⟩) R s := by
  have L1 : Looks (model PySem.Challenge.rw_pf0075_01.row.prog w) s.heap (callAny (.ref 59) ⟨[a, b], []⟩) (Fin.again (.call (.builtin "type.__call__") ⟨[.ref 59, a, b], []⟩)) := Looks.of_peek X (by kernel_rfl)
  refine codeAny_of_tree ?_
  show wpAny _ _ (callAny (.ref 59) _) _ _ _
  refine L1.here ⟨rfl, ?_⟩
  have typ : Looks (model PySem.Challenge.rw_pf0075_01.row.prog w) s.heap (isInstance (.ref 59) (.type "type")) true := Looks.of_peek X (by kernel_rfl)
  refine codeAny_call_builtin_at (Code.quiet_builtin _ (by decide +kernel)) entry_typeCall (check_slot tc_kind tc_split typ (tc_args _ _ _) ?_)
  unfold Builtin.«type.__call__»
  have hm : Looks (model PySem.Challenge.rw_pf0075_01.row.prog w) s.heap (mroOf (.ref 59)) [.ref 59, .ref 39, .type "Exception", .type "BaseException", .type "object"] := Looks.of_peek X (by kernel_rfl)
  have made : Looks (model PySem.Challenge.rw_pf0075_01.row.prog w) s.heap (Bind.madeBy (.ref 59)) (some "Exception.__new__") := Looks.of_peek X (by kernel_rfl)
  have ini : Looks (model PySem.Challenge.rw_pf0075_01.row.prog w) s.heap (typeLookup (.ref 59) "__init__") (some (.ref 56)) := looks_findIn X (by kernel_rfl)
  have bs : ∀ self, Looks (model PySem.Challenge.rw_pf0075_01.row.prog w) s.heap (bindSpecial (.ref 56) self) (.ref 56, [self]) := fun self => bind_fn X self (by kernel_rfl)
  have sub : Looks (model PySem.Challenge.rw_pf0075_01.row.prog w) s.heap (isSubtype (.ref 59) (.ref 59)) true := looks_subIn X (by kernel_rfl)
  obtain ⟨hh, g, d, t, os⟩ := s
  repeat (first | simp only [List.isEmpty_cons, Bool.false_eq_true, if_false] | with_reducible refine exc_new w _ _ a b _ _ X ?_ | lk)
  intro h' e t' tk D
  have k : ∀ b o, hh.get? b = some o → h'.get? b = some o := fun b o e => D.keep b o e (by simp [away])
  have he := D.at 0 e _ rfl
  have t1 : Looks (model PySem.Challenge.rw_pf0075_01.row.prog w) h' (typeOf (.ref e)) (.ref 59) := (Looks.ld (part := none) he).andThen .now
  have sub1 := sub.keeps k
  have ini1 := ini.keeps k
  have bs1 := (bs (.ref e)).keeps k
  unfold isInstance callSpecial? specialOf
  repeat (first | with_reducible refine wpAny_call ?_ | lk)
  refine codeAny_mono (hret _ _ _ _ D) fun r s' z => ?_
  rcases r with e | (v | _ | _ | _) <;> first | exact z | exact z.elim | skip
  obtain ⟨rfl, z⟩ := z
  exact wpAny_pure (wpAny_pure z)
end
section
theorem exc_init (w : World) (A : Around) (s : Shared) (e t : Addr) (dx : Option Addr) (msg : Value) (Q E : Value → Shared → Prop)
    (X : (hd.heap_39 w.params).In s.heap) (he : s.heap.get? e = some (excO t dx))
    (h : Q .none { s with heap := (s.heap.push (tupO [msg] 0)).update e (Obj.mapFields (·.setIfInBounds 0 (.ref s.heap.objs.size))) }) :
    wpAny (model PySem.Challenge.rw_pf0075_01.row.prog w) A (call (.builtin "Exception.__init__") [.ref e, msg]) Q E s := by
  have t1 : Looks (model PySem.Challenge.rw_pf0075_01.row.prog w) s.heap (typeOf (.ref e)) (.ref 59) := (Looks.ld (part := none) he).andThen .now
  have i1 : Looks (model PySem.Challenge.rw_pf0075_01.row.prog w) s.heap (isInstance (.ref e) (.type "Exception")) true := t1.andThen (looks_subIn X (by kernel_rfl))
  have F := PySem.F.excCall_Exception
  refine wpAny_call (codeAny_call_builtin F.init.plain F.initEntry ?_)
  have hfill : (hd.heap_39 = hd.heap_39 ∧ PySem.Challenge.rw_pf0075_01 = PySem.Challenge.rw_pf0075_01) → True := by
    k_fill
    intro _; trivial
  clear hfill
  obtain ⟨cd, hcd⟩ : ∃ cd, clsIn (hd.heap_39 w.params) 59 = some cd := ⟨_, by k_is⟩
  have L59 := looks_clsIn (M := model PySem.Challenge.rw_pf0075_01.row.prog w) X hcd
  obtain ⟨hh, g, d, tk, os⟩ := s
  have hshort := F.noStar
  simp only [checkBuiltinCall, F.initKind, F.initSplit, F.initRow]
  repeat lk
  have he' := Heap.get?_push_of_some (tupO [msg] 0) he
  repeat lk
  refine wpAny_update he' ?_
  dsimp only
  repeat (first | with_reducible refine wpAny_letGo ?_ | lk)
  exact h
end
section
open PySem PySem.W PySem.W.X PySem.Calls PyProof.Rows PySem.Spec Builtin Builtin.ObjectAttr
section
variable {w : World} {A : Around} {s : Shared} {R : Result → Shared → Prop} {x : Addr} {ox : Obj} {od : Option Obj} {name : Str} {tk : Tok} {v : Value}
theorem osa59 (X : (hd.heap_39 w.params).In s.heap) (I : InstAt s.heap x ox 59 od) (hn : findIn (hd.heap_39 w.params) (.ref 59) name = some none)
    (h : wpAny (model PySem.Challenge.rw_pf0075_01.row.prog w) A.in1 (storeInOwnDict (.ref x) (.ref 59) (.str name tk) name v false)
      (fun fin s' => match fin with | .done f => R (.ok f) s' | .again c' => c'.quiet = true ∧ codeAny (model PySem.Challenge.rw_pf0075_01.row.prog w) A c' R s') (fun e s' => R (.error e) s') s) :
    codeAny (model PySem.Challenge.rw_pf0075_01.row.prog w) A (.call (.builtin "object.__setattr__") ⟨[.ref x, .str name tk, v], []⟩) R s := by
  have SF := PySem.F.store_object
  have t1 := I.type (M := model PySem.Challenge.rw_pf0075_01.row.prog w)
  have sub : Looks (model PySem.Challenge.rw_pf0075_01.row.prog w) s.heap (isInstance (.ref x) (.type "object")) true := t1.andThen (looks_subIn X (by kernel_rfl))
  refine codeAny_call_builtin SF.slot.plain SF.entry (@check_slot (model PySem.Challenge.rw_pf0075_01.row.prog w) _ _ s "object.__setattr__" "object" "__setattr__" (.ref x) [.str name tk, v] [] _ SF.kind SF.split sub (SF.args (.ref x) (.str name tk) v) ?_)
  have R1 : Looks (model PySem.Challenge.rw_pf0075_01.row.prog w) s.heap (refuseIfOverridden (.ref x) "__setattr__") () := by
    unfold refuseIfOverridden
    exact t1.andThen (Looks.of_peek X (by kernel_rfl))
  rw [osa_eq]
  refine wpAny_bind (R1.here (wpAny_bind (t1.here (wpAny_bind ((looks_findIn X hn).here (wpAny_bind ?_))))))
  exact wpAny_pure h
end
theorem set_newdict (w : World) (A : Around) (s : Shared) (h₀ : Heap) (L : Addr) (m : Str → Option Value) (news : List (Addr × Obj)) (e t : Addr) (v : Value) (Q : Unit → Shared → Prop) (E : Value → Shared → Prop)
    (F : Fr h₀ L s.heap m) (X₀ : (hd.heap_39 w.params).In h₀) (N : News h₀ L s.heap ((e, excO t none) :: news)) (hne : ∀ p ∈ news, p.1 ≠ e)
    (h : ∀ h' d tk hs, Fr h₀ L h' m → News h₀ L h' ((d, dictOf [⟨hs, .str (Str.ofString "message") tk, v⟩] 1) :: (e, excO t (some d)) :: news) → (∀ p ∈ news, p.1 < d) → e < d → Q () { s with heap := h', toks := s.toks + 2 }) :
    wpAny (model PySem.Challenge.rw_pf0075_01.row.prog w) A (setAttr (.ref e) (Str.ofString "message") v) Q E s := by
  have hfill : (hd.heap_39 = hd.heap_39 ∧ PySem.Challenge.rw_pf0075_01 = PySem.Challenge.rw_pf0075_01) → True := by
    k_fill
    intro _; trivial
  clear hfill
  have X := X₀.keeps F.keep
  have I : InstAt s.heap e (excO t none) 59 none := ⟨(N _ (.head _)).1, rfl, rfl, trivial⟩
  obtain ⟨cd, hcd⟩ : ∃ cd, clsIn (hd.heap_39 w.params) 59 = some cd := ⟨_, by k_is⟩
  have hdct : cd.hasDict = true := by
    have : hasDictIn (hd.heap_39 w.params) 59 = true := by k_is
    unfold hasDictIn at this
    rw [hcd] at this
    exact this
  refine set_plain X I (by k_is) (osa59 (s := { s with toks := s.toks + 1 }) X I (by k_is) ?_)
  have L59 := looks_clsIn (M := model PySem.Challenge.rw_pf0075_01.row.prog w) X hcd
  have he := (N _ (.head _)).1
  refine wpAny_bind (wpAny_pure (wpAny_bind (wpAny_bind (wpAny_loadPart he (wpAny_bind (L59 _ _ _ _ (fun _ _ e => e) ?_))))))
  rw [hdct]
  refine wpAny_bind (wpAny_alloc ?_)
  have he' := Heap.get?_push_of_some ({ cls := .type "dict", data := .dict #[] } : Obj) he
  refine wpAny_bind (wpAny_update he' ?_)
  have N1 := N.push F emptyDict
  have F1 := F.push emptyDict
  have hd1 : s.heap.objs.size ≠ e := Nat.ne_of_gt (Heap.lt_size he)
  have hdn : ∀ p ∈ news, p.1 < s.heap.objs.size := fun p hp => Heap.lt_size (N p (.tail _ hp)).1
  obtain ⟨F2, N2⟩ := news_upd (pre := [(s.heap.objs.size, emptyDict)]) (post := news) (o := excO t none) (o' := excO t (some s.heap.objs.size))
    (f := fun o => { o with dict := some s.heap.objs.size }) F1 N1 (fun p hp => by rw [List.mem_singleton.mp hp]; exact hd1) hne rfl rfl
  refine wpAny_pure (wpAny_bind (wpAny_pure (wpAny_bind ?_)))
  have D := (N2 (s.heap.objs.size, emptyDict) (.head _)).1
  unfold nsSet
  refine wpAny_bind (wpAny_bind (wpAny_askSetting (wpAny_pure (wpAny_bind (wpAny_mkText (wpAny_bind (wpAny_loadPart D ?_)))))))
  refine wpAny_updatePart D ?_
  obtain ⟨F3, N3⟩ := news_upd (pre := []) (post := (e, excO t (some s.heap.objs.size)) :: news) (o := emptyDict)
    (o' := dictOf [⟨PyData.keyHash w.params (Str.ofString "message"), .str (Str.ofString "message") (s.toks + 1), v⟩] 1)
    (f := Obj.putName (Str.ofString "message") (PyData.keyHash w.params (Str.ofString "message")) (.str (Str.ofString "message") (s.toks + 1)) v) F2 N2
    (fun p hp => nomatch hp) (fun p hp => by
      rcases List.mem_cons.mp hp with rfl | hp
      · exact fun q => hd1 q.symm
      · exact Nat.ne_of_lt (hdn p hp)) (putName_dict _ _ _ _ [] 0) rfl
  refine wpAny_bind (wpAny_lookBehind (N3 _ (.head _)).1 (pastItsLine_dict (show 1 ≤ sizeLine + 1 from by decide)) ?_)
  exact wpAny_pure (h _ _ _ _ F3 N3 hdn (Heap.lt_size he))
theorem set_dict59 (w : World) (A : Around) (s : Shared) (h₀ : Heap) (L : Addr) (m : Str → Option Value) (news : List (Addr × Obj)) (e t d : Addr) (name : Str) (es es' : List DictEntry) (n n' : Nat) (v : Value) (Q : Unit → Shared → Prop) (E : Value → Shared → Prop)
    (F : Fr h₀ L s.heap m) (X₀ : (hd.heap_39 w.params).In h₀) (N : News h₀ L s.heap ((d, dictOf es n) :: news)) (hne : ∀ p ∈ news, p.1 ≠ d) (hI : (e, excO t (some d)) ∈ news)
    (hs : findIn (hd.heap_39 w.params) (.ref 59) "__setattr__" = some (some (.builtin "object.__setattr__"))) (hn : findIn (hd.heap_39 w.params) (.ref 59) name = some none) (hl : (getL name es).isSome = true)
    (e1 : (putL name (PyData.keyHash w.params name) (.str name (s.toks + 1)) v es, putN name es n) = (es', n')) (hz : es'.length ≤ 1000)
    (h : ∀ h', Fr h₀ L h' m → News h₀ L h' ((d, dictOf es' n') :: news) → Q () { s with heap := h', toks := s.toks + 2 }) :
    wpAny (model PySem.Challenge.rw_pf0075_01.row.prog w) A (setAttr (.ref e) name v) Q E s := by
  have X := X₀.keeps F.keep
  have he := (N _ (.tail _ hI)).1
  have D := (N _ (.head _)).1
  have I : InstAt s.heap e (excO t (some d)) 59 (some (dictOf es n)) := ⟨he, rfl, rfl, D⟩
  have hfill : (hd.heap_39 = hd.heap_39 ∧ PySem.Challenge.rw_pf0075_01 = PySem.Challenge.rw_pf0075_01) → True := by
    k_fill
    intro _; trivial
  clear hfill
  obtain ⟨cd, hcd⟩ : ∃ cd, clsIn (hd.heap_39 w.params) 59 = some cd := ⟨_, by k_is⟩
  have hdct : cd.hasDict = true := by
    have : hasDictIn (hd.heap_39 w.params) 59 = true := by k_is
    unfold hasDictIn at this
    rw [hcd] at this
    exact this
  refine set_plain X I hs (osa59 (s := { s with toks := s.toks + 1 }) X I hn ?_)
  have L59 := looks_clsIn (M := model PySem.Challenge.rw_pf0075_01.row.prog w) X hcd
  refine wpAny_bind (wpAny_pure (wpAny_bind (wpAny_bind (wpAny_loadPart he (wpAny_bind (L59 _ _ _ _ (fun _ _ e => e) ?_))))))
  rw [hdct]
  refine wpAny_pure (a := some d) (wpAny_bind (wpAny_pure (wpAny_bind ?_)))
  unfold nsSet
  refine wpAny_bind (wpAny_bind (wpAny_askSetting (wpAny_pure (wpAny_bind (wpAny_mkText (wpAny_bind (wpAny_loadPart D ?_)))))))
  obtain ⟨q1, q2⟩ := Prod.mk.inj e1
  have hl' : (lookIn name (dictOf es n)).isSome = true := hl
  obtain ⟨F3, N3⟩ := news_upd (pre := []) (post := news) (o := dictOf es n) (o' := dictOf es' n')
    (f := Obj.putName name (PyData.keyHash w.params name) (.str name (s.toks + 1)) v) F N
    (fun p hp => nomatch hp) hne (by rw [putName_dict, q1, q2]) rfl
  have c : (!es.toArray.any (·.key.isStr name) && es.toArray.any (·.refKey)) = false := by
    rw [← Array.any_toList, ← Array.any_toList]
    unfold getL at hl
    split at hl
    · rename_i en he
      rw [List.any_eq_true.mpr ⟨en, List.mem_of_find?_eq_some he, List.find?_some he⟩]; rfl
    · split at hl
      · cases hl
      · rename_i z; rw [Bool.not_eq_true] at z; rw [z, Bool.and_false]
  dsimp only
  rw [aRefKeyMayBeTheName_at, c]
  refine wpAny_updatePart D ?_
  refine wpAny_bind (wpAny_lookBehind (N3 _ (.head _)).1 (pastItsLine_dict (by rw [List.size_toArray, sizeLine_eq]; omega)) ?_)
  exact wpAny_pure (h _ F3 N3)
end
section
def TrD (base : Heap) (e : Addr) (c : Value) (dx : Option Addr) (fl : Value) (h : Heap) : Prop :=
  ∃ oe vs T oT ts, h.get? e = some oe ∧ oe.cls = c ∧ oe.dict = dx ∧ oe.data = .fields vs ∧ vs[1]? = some (.ref T) ∧ base.get? T = none ∧ T ≠ e ∧ h.get? T = some oT ∧ oT.data = .fields ts ∧ ts[3]? = some fl
def FlyD (base : Heap) (l : List Env) (e : Addr) (c : Value) (dx : Option Addr) (fl : Value) (h : Heap) : Prop :=
  base.StaysIn h ∧ base.get? e = none ∧ h.FunFrames base l ∧ TrD base e c dx fl h
theorem dict_mapFields (f : Array Value → Array Value) (o : Obj) : (o.mapFields f).dict = o.dict := by
  unfold Obj.mapFields; split <;> rfl
theorem notRecd {h : Heap} {e : Addr} {oe : Obj} {vs : Array Value} (he : h.get? e = some oe) (hd : oe.data = .fields vs) {b : Addr} {o : Obj} (hb : h.get? b = some o) (hn : ∀ ws, o.data ≠ .fields ws) : b ≠ e := fun q => by
  subst q; rw [he] at hb; cases hb; exact hn _ hd
section
variable {M : Model} {A : Around} {E : Value → Shared → Prop} {s : Shared} {base : Heap} {env : Env} {outer : List Env} {L e : Addr} {c : Value} {dx : Option Addr} {fl : Value} {Q : Unit → Shared → Prop}
theorem entryD {oe : Obj} {vs : Array Value} {head : Value} {had : Bool} (hfr : A.frames = some (env :: outer)) (hf : env.frame = some L) (hk : base.StaysIn s.heap) (hen : base.get? e = none) (hl : s.heap.FunFrames base (env :: outer))
    (he : s.heap.get? e = some oe) (hd : oe.data = .fields vs) (hz : 1 < vs.size)
    (h : ∀ h', FlyD base (env :: outer) e oe.cls oe.dict (rawInt L) h' → s.heap.UpToSlots h' → Q () { s with heap := h' }) :
    wpAny M A (do let a ← frameOf env; let pl ← entryPlaceOf L had; let b ← EntryCells.newEntry head a .none (rawInt L) .none pl; setField (.ref e) 1 b) Q E s := by
  have ne : e ∉ (env :: outer).filterMap (·.frame) := fun hm => by
    obtain ⟨_, o, ho, hn⟩ := hl.mem hm
    exact notRecd he hd ho hn rfl
  refine wpAny_bind (wpAny_frameOf_fun hfr hl hf fun h₁ S => wpAny_bind (wpAny_entryPlaceOf fun pl hpl => ?_))
  unfold EntryCells.newEntry newFields
  refine wpAny_bind (wpAny_newObj_type ?_ (hpl.sizeOk5 _ _ _ _ _))
  generalize hT : ({ cls := .type "traceback", dict := none, data := .fields ([head, .ref L, .none, rawInt L, .none] ++ (if pl.isEmpty then List.replicate 6 Value.none else pl)).toArray } : Obj) = oT
  have dT : oT.data = .fields ([head, .ref L, .none, rawInt L, .none] ++ (if pl.isEmpty then List.replicate 6 Value.none else pl)).toArray := by subst hT; rfl
  have he₁ : h₁.get? e = some oe := (S.2.1 e ne).trans he
  have k₁ : base.StaysIn h₁ := fun b o q => (S.2.1 b fun m => by rw [(hl.mem m).1] at q; cases q).trans (hk b o q)
  have he₂ := Heap.get?_push_of_some oT he₁
  have neT : h₁.objs.size ≠ e := Nat.ne_of_gt (Heap.lt_size he₁)
  refine wpAny_setField he₂ hd hz (h _ ?_ ?_)
  · have keep : ∀ b o, b ≠ e → h₁.get? b = some o → ((h₁.push oT).update e (Obj.mapFields (·.setIfInBounds 1 (.ref h₁.objs.size)))).get? b = some o := fun b o n q => by
      rw [Heap.get?_update_other _ _ (Ne.symm n)]
      exact Heap.get?_push_of_some _ q
    refine ⟨fun b o q => keep b o (fun z => by rw [z, hen] at q; cases q) (k₁ b o q), hen, hl.of_keeps fun b o q n => ?_, ?_⟩
    · obtain ⟨sl, z⟩ := S.2.2 b o q
      exact ⟨_, keep b _ (notRecd he hd q n) z, rfl⟩
    · have d3 := Obj.data_mapFields hd (·.setIfInBounds 1 (Value.ref h₁.objs.size))
      exact ⟨_, _, h₁.objs.size, oT, _, Heap.get?_update_self _ he₂ (Obj.isFreed_of_fields d3), Obj.cls_mapFields _ _, dict_mapFields _ _, d3, by simp [hz], k₁.fresh, neT,
        (Heap.get?_update_other _ _ (Ne.symm neT)).trans (Heap.get?_push_size h₁ (Obj.isFreed_of_fields dT)), dT, by simp⟩
  · intro b o q n
    obtain ⟨sl, z⟩ := S.2.2 b o q
    refine ⟨sl, ?_⟩
    show ((h₁.push oT).update e _).get? b = _
    rw [Heap.get?_update_other _ _ (Ne.symm (notRecd he hd q n))]
    exact Heap.get?_push_of_some _ z
theorem note_newD {oe : Obj} {vs : Array Value} (hfr : A.frames = some (env :: outer)) (hf : env.frame = some L) (hk : base.StaysIn s.heap) (hen : base.get? e = none) (hl : s.heap.FunFrames base (env :: outer))
    (he : s.heap.get? e = some oe) (hd : oe.data = .fields vs) (h1 : vs[1]? = some .none)
    (h : ∀ h', FlyD base (env :: outer) e oe.cls oe.dict (rawInt L) h' → s.heap.UpToSlots h' → Q () { s with heap := h' }) : wpAny M A (noteFrame (.ref e) env) Q E s := by
  unfold noteFrame
  simp only [hf]
  refine wpAny_bind (wpAny_field he hd h1 ?_)
  rw [if_neg (by decide)]
  exact entryD hfr hf hk hen hl he hd (Array.getElem?_eq_some_iff.mp h1).1 h
theorem note_nextD (hfr : A.frames = some (env :: outer)) (hf : env.frame = some L) (Y : FlyD base (env :: outer) e c dx .none s.heap)
    (h : ∀ h', FlyD base (env :: outer) e c dx (rawInt L) h' → s.heap.UpToSlots h' → Q () { s with heap := h' }) : wpAny M A (noteFrame (.ref e) env) Q E s := by
  obtain ⟨hk, hen, hl, oe, vs, T, oT, ts, he, rfl, rfl, hd, h1, nT, neT, hT, dT, h3⟩ := Y
  unfold noteFrame
  simp only [hf]
  refine wpAny_bind (wpAny_field he hd h1 ?_)
  rw [if_pos (show (Value.ref T != Value.none) = true from by simp)]
  refine wpAny_bind (wpAny_field hT dT h3 ?_)
  rw [if_neg (show ¬ ((Value.none == rawInt L) = true) from by simp [rawInt])]
  refine wpAny_bind (wpAny_setField hT dT (Array.getElem?_eq_some_iff.mp h3).1 ?_)
  have keep : ∀ b o, b ≠ T → s.heap.get? b = some o → (s.heap.update T (Obj.mapFields (·.setIfInBounds 3 .none))).get? b = some o := fun b o n q => (Heap.get?_update_other _ _ (Ne.symm n)).trans q
  exact entryD hfr hf (fun b o q => keep b o (fun z => by rw [z, nT] at q; cases q) (hk b o q)) hen (hl.of_keeps fun b o q n => ⟨o, keep b o (notRecd hT dT q n) q, rfl⟩) (keep e _ (Ne.symm neT) he) hd (Array.getElem?_eq_some_iff.mp h1).1
    fun h' Y U => h h' Y fun b o q n => U b o (keep b o (notRecd hT dT q n) q) n
theorem landD {l : List Env} (Y : FlyD base l e c dx fl s.heap) (h : ∀ h', FlyD base l e c dx .none h' → s.heap.UpToSlots h' → Q () { s with heap := h' }) : wpAny M A (setFlight (.ref e) none) Q E s := by
  obtain ⟨hk, hen, hl, oe, vs, T, oT, ts, he, rfl, rfl, hd, h1, nT, neT, hT, dT, h3⟩ := Y
  have keep : ∀ b o, b ≠ T → s.heap.get? b = some o → (s.heap.update T (Obj.mapFields (·.setIfInBounds 3 .none))).get? b = some o := fun b o n q => (Heap.get?_update_other _ _ (Ne.symm n)).trans q
  have z3 : 3 < ts.size := (Array.getElem?_eq_some_iff.mp h3).1
  unfold setFlight
  refine wpAny_bind (wpAny_field he hd h1 ?_)
  rw [if_pos (show (Value.ref T != Value.none) = true from by simp)]
  have d3 := Obj.data_mapFields dT (·.setIfInBounds 3 (Value.none))
  exact wpAny_setField hT dT z3 (h _ ⟨fun b o q => keep b o (fun z => by rw [z, nT] at q; cases q) (hk b o q), hen, hl.of_keeps fun b o q n => ⟨o, keep b o (notRecd hT dT q n) q, rfl⟩,
    _, _, T, _, _, keep e _ (Ne.symm neT) he, rfl, rfl, hd, h1, nT, neT, Heap.get?_update_self _ hT (Obj.isFreed_of_fields d3), d3, by simp [z3]⟩ fun b o q n => ⟨o.slots, keep b o (notRecd hT dT q n) q⟩)
theorem leave_newD {oe : Obj} {vs : Array Value} (hfr : A.frames = some (env :: outer)) (hf : env.frame = some L) (hk : base.StaysIn s.heap) (hen : base.get? e = none) (hl : s.heap.FunFrames base (env :: outer))
    (he : s.heap.get? e = some oe) (hd : oe.data = .fields vs) (h1 : vs[1]? = some .none)
    (h : ∀ h', FlyD base outer e oe.cls oe.dict .none h' → s.heap.UpToSlots h' → Q () { s with heap := h' }) : wpAny M A (leaving env (.ref e)) Q E s := by
  unfold leaving
  exact wpAny_bind (note_newD hfr hf hk hen hl he hd h1 fun h' Y U => landD Y fun h'' Y' U' => h h'' ⟨Y'.1, Y'.2.1, Y'.2.2.1.2.2, Y'.2.2.2⟩ (U.trans U'))
theorem leave_nextD (hfr : A.frames = some (env :: outer)) (hf : env.frame = some L) (Y : FlyD base (env :: outer) e c dx .none s.heap)
    (h : ∀ h', FlyD base outer e c dx .none h' → s.heap.UpToSlots h' → Q () { s with heap := h' }) : wpAny M A (leaving env (.ref e)) Q E s := by
  unfold leaving
  exact wpAny_bind (note_nextD hfr hf Y fun h' Y U => landD Y fun h'' Y' U' => h h'' ⟨Y'.1, Y'.2.1, Y'.2.2.1.2.2, Y'.2.2.2⟩ (U.trans U'))
end
/-- what flies: the exception, its ledger, above the ground `G` -/
def RaisedD (base G : Heap) (l : List Env) (e : Addr) (c : Value) (dx : Option Addr) (news : List (Addr × Obj)) (h : Heap) : Prop :=
  ∃ B, base.StaysIn B ∧ (∀ b o, G.get? b = some o → b ∉ l.filterMap (·.frame) → B.get? b = some o) ∧ (∀ q ∈ news, B.get? q.1 = some q.2 ∧ G.get? q.1 = none ∧ base.get? q.1 = none) ∧ FlyD B l e c dx .none h ∧ G.UpToSlots h
section
variable {M : Model} {A : Around} {E : Value → Shared → Prop} {s' : Shared} {base g g₂ h : Heap} {outer : List Env} {L a e : Addr} {m : Str → Option Value} {name : Str} {scope : Scope} {cd : Value} {Q : Unit → Shared → Prop} {news : List (Addr × Obj)} {c : Value} {dx : Option Addr}
theorem leaveD_new {oe : Obj} {vs : Array Value} (K : Below A base outer g) (F : Fr g L s'.heap m) (N : News g L s'.heap ((e, oe) :: news)) (hne : ∀ p ∈ news, p.1 ≠ e) (hd : oe.data = .fields vs) (h1 : vs[1]? = some .none) (hc : oe.cls = c) (hx : oe.dict = dx)
    (hQ : ∀ h', RaisedD base g outer e c dx news h' → Q () { s' with heap := h' }) (hk : scope.kind = .function := by rfl) :
    wpAny M (A.deeper (envOf name scope L a cd)) (leaving (envOf name scope L a cd) (.ref e)) Q E s' := by
  subst hc hx
  have K' := K.push (name := name) (a := a) (cd := cd) F hk
  have N1 : News g L s'.heap news := fun p hp => N p (.tail _ hp)
  obtain ⟨he, heL, heg⟩ := N _ (.head _)
  have hin : ∀ env ∈ (envOf name scope L a cd :: outer), ∀ b, env.frame = some b → b ∈ (e :: (envOf name scope L a cd :: outer).filterMap (·.frame)) := fun env he b hb => .tail _ (List.mem_filterMap.mpr ⟨env, he, hb⟩)
  have fm : ∀ b ∈ (envOf name scope L a cd :: outer).filterMap (·.frame), base.get? b = none := fun b hb => (K'.frames.mem hb).1
  have st : base.StaysIn (hideAll s'.heap (e :: (envOf name scope L a cd :: outer).filterMap (·.frame))) := fun b o q => hideAll_get _ (K'.stays b o q) fun hm => by
    rcases List.mem_cons.mp hm with z | z
    · rw [z, fresh_of_stays K.stays heg] at q; cases q
    · rw [fm _ z] at q; cases q
  have sg : ∀ b o, g.get? b = some o → b ∉ outer.filterMap (·.frame) → (hideAll s'.heap (e :: (envOf name scope L a cd :: outer).filterMap (·.frame))).get? b = some o := fun b o q nm => hideAll_get _ (F.keep b o q) fun hm => by
    rcases List.mem_cons.mp hm with z | z
    · rw [z, heg] at q; cases q
    rcases kts_mem z with z | z
    · rw [z, kts_self F] at q; cases q
    · exact nm z
  have hl : ∀ q ∈ news, (hideAll s'.heap (e :: (envOf name scope L a cd :: outer).filterMap (·.frame))).get? q.1 = some q.2 ∧ g.get? q.1 = none ∧ base.get? q.1 = none := fun q hq => by
    refine ⟨hideAll_get _ (N1 q hq).1 fun hm => ?_, (N1 q hq).2.2, fresh_of_stays K.stays (N1 q hq).2.2⟩
    rcases List.mem_cons.mp hm with z | z
    · exact hne q hq z
    rcases kts_mem z with z | z
    · exact (N1 q hq).2.1 z
    · obtain ⟨_, o, ho, _⟩ := K.frames.mem z
      rw [(N1 q hq).2.2] at ho; cases ho
  refine leave_newD (base := hideAll s'.heap (e :: (envOf name scope L a cd :: outer).filterMap (·.frame))) K'.stack rfl (fun b o q => of_hideAll _ q) (hideAll_none _ (.head _)) (funFrames_hide K'.frames hin) he hd h1 fun h' Y U => ?_
  exact hQ h' ⟨_, st, sg, hl, Y, ((Heap.UpToSlots.of_keeps F.keep).trans U)⟩
theorem leaveD_on (K : Below A base outer g) (F : Fr g L g₂ m) (R : RaisedD base g₂ (envOf name scope L a cd :: outer) e c dx news s'.heap)
    (hQ : ∀ h', RaisedD base g outer e c dx news h' → Q () { s' with heap := h' }) :
    wpAny M (A.deeper (envOf name scope L a cd)) (leaving (envOf name scope L a cd) (.ref e)) Q E s' := by
  obtain ⟨B, hB, hBG, hl, hfl, hsm⟩ := R
  exact leave_nextD (Around.frames_deeper K.stack) rfl hfl fun h' Y U => hQ h' ⟨B, hB, fun b o q nm => hBG b o (F.keep b o q) (fun hm => by
      rcases kts_mem hm with z | z
      · rw [z, kts_self F] at q; cases q
      · exact nm z), fun q hq => ⟨(hl q hq).1, kts_none F.keep (hl q hq).2.1, (hl q hq).2.2⟩, Y, ((Heap.UpToSlots.of_keeps F.keep).trans hsm).trans U⟩
end
end
section
section
variable {prog : Program} {w : World} {A₀ : Around} {E : Value → Shared → Prop} {s' : Shared} {base g g₀ G : Heap} {outer : List Env} {L a e C : Addr} {m : Str → Option Value} {name : Str} {scope : Scope} {cd : Value}
  {n : Str} {b₀ : Stmt} {suite : List Stmt} {pos np : Pos} {rest : List ExceptHandler} {Q : Flow → Shared → Prop} {news : List (Addr × Obj)} {KF : Frag}
  {p : Program} {loose : List Str} {mean : ExcName → Option Value} {mg mb : Str → Option Value} {x : Str} {dx : Option Addr}
theorem caughtD (R : RaisedD base G (envOf name scope L a cd :: outer) e (.ref C) dx news s'.heap) (F : Fr g L G m) (K : Below A₀ base outer g) (XB : KF.In base) (TB : Top p loose mean mg mb base)
    (D : KtsDicts (outer.filterMap (·.frame)) g) (T0 : KtsTurn (outer.filterMap (·.frame)) g₀ g)
    (ex : nsIn KF mainGlobals x = some (some (.ref C))) (q : ktsIn KF C "BaseException" = true)
    (k : ∀ h' g' oe tk, KtsTurn (outer.filterMap (·.frame)) g₀ g' → Fr g' L h' (fun y => if y = n then some (.ref e) else m y) → News g' L h' ((e, oe) :: news) → oe.cls = .ref C → oe.dict = dx → (∃ vs, oe.data = .fields vs) → Below A₀ base outer g' → KF.In g' → Top p loose mean mg mb g' → KtsDicts (outer.filterMap (·.frame)) g' →
      wpAny (model prog w) ((A₀.deeper (envOf name scope L a cd)).mark (some (.ref e))) (execs (b₀ :: suite) (envOf name scope L a cd))
        (fun f s₄ => wpAny (model prog w) (A₀.deeper (envOf name scope L a cd)) (do bindName (envOf name scope L a cd) n .none; unbindBehindTheSuite (envOf name scope L a cd) n pos) (fun _ s₅ => Q f s₅) E s₄)
        (AsSuiteRaised (model prog w) ((A₀.deeper (envOf name scope L a cd)).mark (some (.ref e))) (envOf name scope L a cd) n pos (notedBy (model prog w) ((A₀.deeper (envOf name scope L a cd)).mark (some (.ref e))) (envOf name scope L a cd) (cameBackBy (model prog w) (A₀.deeper (envOf name scope L a cd)) (envOf name scope L a cd) E)))
        { s' with heap := h', toks := tk })
    (hk : scope.kind = .function := by rfl) (hlo : (envOf name scope L a cd).kindOf n = some .local := by rfl) (hx : (envOf name scope L a cd).kindOf x = some .globalImplicit := by rfl) (hd : (x == ("__debug__" : Str)) = false := by decide) :
    wpAny (model prog w) (A₀.deeper (envOf name scope L a cd)) (noteFrame (.ref e) (envOf name scope L a cd))
      (fun _ s₂ => wpAny (model prog w) (A₀.deeper (envOf name scope L a cd)) (setFlight (.ref e) none) (fun _ s₃ =>
        wpAny (model prog w) (A₀.deeper (envOf name scope L a cd)) (handleBy (.ref e) (envOf name scope L a cd) (.ExceptHandler (some (.Name x np)) (some n) (b₀ :: suite) pos :: rest)) Q E s₃) E s₂) E s' := by
  obtain ⟨B, hB, hBG, hl, Y, hsm⟩ := R
  have hL : B.get? L = none := by
    obtain ⟨_, ⟨L', _, hf, hn', _⟩, _⟩ := Y.2.2.1
    obtain rfl : L = L' := Option.some.inj hf
    exact hn'
  refine note_nextD (Around.frames_deeper K.stack) rfl Y fun h₄ Y₄ U₄ => ?_
  refine landD Y₄ fun h₅ Y₅ U₅ => ?_
  have U₅ := U₄.trans U₅
  obtain ⟨g₅, T₅, F₅, K₅⟩ := kts_ground K F hBG Y₅.1 (hsm.trans U₅)
  have X₅ : KF.In g₅ := XB.keeps K₅.stays
  have P₅ : TopRead p loose mg mb g₅ := topRead_of (TB.keeps K₅.stays)
  obtain ⟨ob, _, _, _, _, hob, hobc, _⟩ := Y₅.2.2.2
  obtain ⟨nm, q', N, bs, bm, hdct, sn, sub, ab, col, dd, k0, k1, k2, k3, k5, newId, hC, hbase, hbT⟩ := kts_cls X₅ q
  have hC₅ := F₅.keep _ _ hC
  refine wpAny_handleBy_cons (codeAny_handlers_test (name_K F₅ X₅ P₅ ex ?_ hk hx hd)) (by intro q; cases q)
  refine wpAny_excMatches_sub_self hC₅ hob hobc hbase (codeAny_handlers_suite_as ?_)
  refine landD Y₅ fun h₆ Y₆ U₆ => ?_
  obtain ⟨g₆, T₆, F₆, K₆⟩ := kts_ground K F hBG Y₆.1 ((hsm.trans U₅).trans U₆)
  obtain ⟨oe, vs, _, _, _, hoe, hoec, hoed, hdat, _⟩ := Y₆.2.2.2
  have ne₆ : g₆.get? e = none := T₆.none_ _ (kts_fresh F hBG Y₆.2.1 fun o ho m => by
    obtain ⟨_, o', ho', hd⟩ := K.frames.mem m
    rw [ho] at ho'
    cases ho'
    obtain ⟨sl, hs⟩ := ((hsm.trans U₅).trans U₆) _ _ (F.keep _ _ ho) hd
    rw [hoe] at hs
    cases hs
    exact hd _ hdat)
  have N₆ := News.more F₆ (News.nil) hoe (fun es n q => by rw [hdat] at q; cases q) ne₆
  have Nl : News g₆ L h₆ news := fun q hq => ⟨Y₆.1 _ _ (hl q hq).1, (fun z => by have := (hl q hq).1; rw [z, hL] at this; cases this), T₆.none_ _ (kts_none F.keep (hl q hq).2.1)⟩
  refine stN F₆ (news := _ ++ news) (fun q hq => (List.mem_append.mp hq).elim (N₆ q) (Nl q)) (fun h₇ F₇ N₇ => ?_) hk hlo
  exact k h₇ g₆ oe _ (T0.trans T₆) F₇ N₇ hoec hoed ⟨_, hdat⟩ K₆ (XB.keeps K₆.stays) (TB.keeps K₆.stays) (D.turn T₆)
end
end
local macro_rules | `(tactic| walk_at "zz") => `(tactic| skip)
section
noncomputable abbrev PP : Program := topProg
noncomputable abbrev LL : List Str := looseW hd.view_39 [Str.ofString "ChanError"] ++ (recsOf hd.view_39).map (fun x => x.name) ++ (litsOf hd.view_39).map (fun x => x.1) ++ (clssOf hd.view_39 (looseW hd.view_39 [Str.ofString "ChanError"])).map (fun x => x.name)
section
variable {w : World} {A : Around} {s : Shared} {h₀ : Heap} {L : Addr} {m : Str → Option Value} {news : List (Addr × Obj)} {e t d : Addr} {dx : Option Addr} {msg v : Value} {E : Value → Shared → Prop}
theorem init_led {Q : Value → Shared → Prop} (F : Fr h₀ L s.heap m) (X₀ : (hd.heap_39 w.params).In h₀) (N : News h₀ L s.heap ((e, excO t dx) :: news)) (hne : ∀ p ∈ news, p.1 ≠ e)
    (h : ∀ h' t', Fr h₀ L h' m → News h₀ L h' ((e, excO t' dx) :: (t', tupO [msg] 0) :: news) → (∀ p ∈ ((t', tupO [msg] 0) :: news), p.1 ≠ e) → Q .none { s with heap := h' }) :
    wpAny (model PySem.Challenge.rw_pf0075_01.row.prog w) A (call (.builtin "Exception.__init__") [.ref e, msg]) Q E s := by
  refine exc_init w A s e t dx msg Q E (X₀.keeps F.keep) (N _ (.head _)).1 ?_
  have N1 := N.push F (tupO [msg] 0)
  have F1 := F.push (tupO [msg] 0)
  have hd1 : s.heap.objs.size ≠ e := Nat.ne_of_gt (Heap.lt_size (N _ (.head _)).1)
  obtain ⟨F2, N2⟩ := news_upd (pre := [(s.heap.objs.size, tupO [msg] 0)]) (post := news) (o := excO t dx) (o' := excO s.heap.objs.size dx)
    (f := Obj.mapFields (·.setIfInBounds 0 (.ref s.heap.objs.size))) F1 N1 (fun p hp => by rw [List.mem_singleton.mp hp]; exact hd1) hne rfl rfl
  refine h _ s.heap.objs.size F2 (fun p hp => N2 p ?_) fun p hp => ?_
  · rcases List.mem_cons.mp hp with rfl | hp
    · exact .tail _ (.head _)
    · rcases List.mem_cons.mp hp with rfl | hp
      · exact .head _
      · exact .tail _ (.tail _ hp)
  · rcases List.mem_cons.mp hp with rfl | hp
    · exact hd1
    · exact hne p hp
theorem setnew_led {Q : Unit → Shared → Prop} (F : Fr h₀ L s.heap m) (X₀ : (hd.heap_39 w.params).In h₀) (N : News h₀ L s.heap ((e, excO t none) :: news)) (hne : ∀ p ∈ news, p.1 ≠ e)
    (h : ∀ h' d tk hs, Fr h₀ L h' m → News h₀ L h' ((d, dictOf [⟨hs, .str (Str.ofString "message") tk, v⟩] 1) :: (e, excO t (some d)) :: news) → (∀ p ∈ ((e, excO t (some d)) :: news), p.1 ≠ d) → (∀ p ∈ news, p.1 ≠ e) → Q () { s with heap := h', toks := s.toks + 2 }) :
    wpAny (model PySem.Challenge.rw_pf0075_01.row.prog w) A (setAttr (.ref e) (Str.ofString "message") v) Q E s := by
  refine set_newdict w A s h₀ L m news e t v Q E F X₀ N hne fun h' d tk hs F' N' n1 n2 => h h' d tk hs F' N' (fun p hp => ?_) hne
  rcases List.mem_cons.mp hp with rfl | hp
  · exact Nat.ne_of_lt n2
  · exact Nat.ne_of_lt (n1 p hp)
end
local macro_rules | `(tactic| walk_at "mine enter") => `(tactic| k_dflt (refine' code_def ?k1 ?k2 ?k3 ?k4 ?k5 ?kA ?kF ?kK ?k6 ?k7 ?k8 ?k9 ?kB ?_ ?c2 ?c3 ?c4 ?c5; (case kA => exact rfl); (case kF => exact rfl); (case kK => first | exact rfl | assumption); (case k1 => k_asm); (case k2 => k_asm); (case k3 => k_asm); (case k4 => k_asm); (case k5 => k_asm); (case k6 => k_is); (case k7 => k_is); (case k8 => ktr_room); (case k9 => first | exact BindsTo.of_eq rfl | exact binds_K (by k_in) rfl (by k_is) rfl rfl rfl); (case c5 => decide); (case kB => exact locs rfl); (case c2 => exact rfl); (case c3 => exact rfl); (case c4 => exact rfl); k_whole; intro g' L' h' FG' F' N' B' X' T'; (try dsimp only); (try k_fold)))
local macro_rules | `(tactic| walk_at "call ref") => `(tactic| (k_here; refine wpAny_call ?_; walk_at "mine enter"))
local macro_rules | `(tactic| walk_at "getMethod type:Exception") => `(tactic| (k_here; refine' method_type ?F ?X ?m (by decide +kernel) ?e ?h ?_; (case F => k_asm); (case X => k_asm); (case m => exact kitMeta_of (by decide +kernel)); (case e => k_dflt k_is); (case h => k_handed)))
local macro_rules | `(tactic| walk_at "call builtin:Exception.__init__") => `(tactic| (k_here; k_dflt (refine' init_led ?F ?X ?N ?n ?_; (case F => k_asm); (case X => k_asm); (case N => k_asm); (case n => assumption); k_whole); intro h' t' F' N' n1))
local macro_rules | `(tactic| walk_at "setAttr ref") => `(tactic| (k_here; k_dflt (first
  | (refine' setnew_led ?F ?X ?N ?n ?_; (case F => k_asm); (case X => k_asm); (case N => k_asm); (case n => assumption); k_whole; intro h' d' tk' hs' F' N' n1 n2)
  | (refine' set_dict59 _ _ _ _ _ _ _ _ _ _ _ _ _ _ _ _ _ _ ?F ?X ?N ?n ?I ?s ?k ?l rfl ?z ?_; (case F => k_asm); (case X => k_asm); (case N => k_asm); (case n => assumption); (case I => k_mem); (case s => k_is); (case k => k_is); (case l => rfl); (case z => exact Nat.le_of_ble_eq_true rfl); k_whole; intro h' F' N'))))
theorem perm4 {h₀ h : Heap} {L : Addr} {d : Addr} {od : Obj} {e : Addr} {oe o1 o2 : Obj} {x y : Addr} {r : List (Addr × Obj)} (N : News h₀ L h ((d, od) :: (e, oe) :: (x, o1) :: (y, o2) :: r)) : News h₀ L h ((e, oe) :: (d, od) :: r) := News.perm N fun p hp => by
  rcases List.mem_cons.mp hp with rfl | hp
  · exact .tail _ (.head _)
  rcases List.mem_cons.mp hp with rfl | hp
  · exact .head _
  · exact .tail _ (.tail _ (.tail _ (.tail _ hp)))
theorem fault_made {w : World} {mean : ExcName → Option Value} {mg mb : Str → Option Value} {dp un : Nat} {gd : Option (List Code)} {cn : Str} {cs : Scope} {a : Addr} {ccd : Value} {cl : List (Str × Addr)} {outer : List Env} {A₀ : Around} {base h₀ : Heap} {L : Addr} {m : Str → Option Value} {news : List (Addr × Obj)} {s : Shared}
    {k msg : Str} {t1 t2 : Tok} {Q E : Value → Shared → Prop}
    (B : Below A₀ base outer h₀) (F : Fr h₀ L s.heap m) (X : (hd.heap_39 w.params).In h₀) (N : News h₀ L s.heap news) (T : Top PP LL mean mg mb h₀) (hk : cs.kind = .function)
    (hdp : dp + 100 < recursionLimit) (hun : un + 800 < cLine)
    (hret : ∀ h' tk' e t de es n, Fr h₀ L h' m → News h₀ L h' ((e, excO t (some de)) :: (de, dictOf es n) :: news) → getL (Str.ofString "kind") es = some (some (.str k t1)) → (∀ p ∈ ((de, dictOf es n) :: news), p.1 ≠ e) → Q (.ref e) { s with heap := h', toks := tk' }) :
    wpAny (model PySem.Challenge.rw_pf0075_01.row.prog w) (ktrTop dp un gd cn cs L a ccd cl outer) (call (.ref 59) [.str k t1, .str msg t2]) Q E s := by
  have hfill : (hd.heap_39 = hd.heap_39 ∧ PySem.Challenge.rw_pf0075_01 = PySem.Challenge.rw_pf0075_01) → True := by
    k_fill
    intro _; trivial
  clear hfill
  refine wpAny_call (exc_call w _ s _ _ _ (X.keeps F.keep) fun h' e t tk D => ?_)
  have kp : ∀ b o, s.heap.get? b = some o → h'.get? b = some o := fun b o e => D.keep b o e (by simp [away])
  have F1 : Fr h₀ L h' m := F.keeps kp
  have fr : ∀ x o, (x, o) ∈ [(e, excO t none), (t, tupO [.str k t1, .str msg t2] 0)] → h'.get? x = some o ∧ x ≠ L ∧ h₀.get? x = none := fun x o hx => by
    obtain ⟨p1, p2⟩ := D.nw _ hx
    refine ⟨p1, fun q => ?_, ?_⟩
    · obtain ⟨oL, es, ep, hL, _⟩ := F.ns
      subst q; rw [hL] at p2; cases p2
    · cases q : h₀.get? x with
      | none => rfl
      | some o => rw [F.keep _ _ q] at p2; cases p2
  have fr2 : ∀ x o, (x, o) ∈ [(e, excO t none), (t, tupO [.str k t1, .str msg t2] 0)] → ∀ p ∈ news, p.1 ≠ x := fun x o hx p hp q => by
    have := (D.nw _ hx).2
    rw [← q, (N p hp).1] at this; cases this
  have N1 : News h₀ L h' ((e, excO t none) :: (t, tupO [.str k t1, .str msg t2] 0) :: news) := fun p hp => by
    rcases List.mem_cons.mp hp with rfl | hp
    · exact fr _ _ (.head _)
    rcases List.mem_cons.mp hp with rfl | hp
    · exact fr _ _ (.tail _ (.head _))
    · exact ⟨kp _ _ (N p hp).1, (N p hp).2⟩
  have n0 : ∀ p ∈ ((t, tupO [.str k t1, .str msg t2] 0) :: news), p.1 ≠ e := fun p hp => by
    rcases List.mem_cons.mp hp with rfl | hp
    · have := D.ord
      simp at this
      exact Nat.ne_of_lt this
    · exact fr2 _ _ (.head _) p hp
  clear D kp fr fr2
  clear F N
  k_dflt cell_enter
  k_steps
  rename Fr h₀ L _ m => kF
  rename News h₀ L _ _ => kN
  rename ∀ p : Addr × Obj, p ∈ (_, excO _ (some _)) :: _ → p.1 ≠ _ => n1
  rename ∀ p : Addr × Obj, p ∈ (_, tupO _ _) :: (_, tupO _ _) :: _ → p.1 ≠ _ => n2
  refine hret _ _ _ _ _ _ _ kF (perm4 kN) rfl fun p hp => ?_
  rcases List.mem_cons.mp hp with rfl | hp
  · exact fun q => n1 _ (.head _) q.symm
  · exact n2 _ (.tail _ (.tail _ hp))
end
section
def MadeThen (w : World) (E : Value → Shared → Prop) (v : Value) (s₁ : Shared) : Prop := ∃ e t dx, v = .ref e ∧ s₁.heap.get? e = some (excO t dx) ∧ (hd.heap_39 w.params).In s₁.heap ∧ E (.ref e) s₁
theorem Raise_any {w : World} {A : Around} {s : Shared} {e₀ : Expr} {env : Env} {pos : Pos} {Q : Flow → Shared → Prop} {E : Value → Shared → Prop} (hh : A.handled = none)
    (h : wpAny (model PySem.Challenge.rw_pf0075_01.row.prog w) A (eval e₀ env) (MadeThen w E) E s) : wpAny (model PySem.Challenge.rw_pf0075_01.row.prog w) A (exec (.Raise (some e₀) none pos) env) Q E s := by
  rw [arm_exec_Raise]
  refine wpAny_bind (wpAny_standAt ?_)
  simp only [evalOpt, Option.map]
  unfold raiseStmt
  refine wpAny_bind (wpAny_bind (wpAny_mono h (fun v s₁ h₁ => wpAny_bind (wpAny_standAt (wpAny_pure ?_))) fun _ _ x => x))
  obtain ⟨e, t, dx, rfl, he, X, hE⟩ := h₁
  obtain ⟨hp, g, d, tk, os⟩ := s₁
  have t1 : Looks (model PySem.Challenge.rw_pf0075_01.row.prog w) hp (typeOf (.ref e)) (.ref 59) := (Looks.ld (part := none) he).andThen .now
  have i1 : Looks (model PySem.Challenge.rw_pf0075_01.row.prog w) hp (isSubtype (.ref 59) (.type "type")) false := looks_subIn X (by kernel_rfl)
  have i2 : Looks (model PySem.Challenge.rw_pf0075_01.row.prog w) hp (isSubtype (.ref 59) (.type "BaseException")) true := looks_subIn X (by kernel_rfl)
  have i3 : Looks (model PySem.Challenge.rw_pf0075_01.row.prog w) hp (isSubtype (.ref 59) (.ref 39)) true := looks_subIn X (by kernel_rfl)
  have j1 : Looks (model PySem.Challenge.rw_pf0075_01.row.prog w) hp (isInstance (.ref e) (.type "type")) false := t1.andThen i1
  have j2 : Looks (model PySem.Challenge.rw_pf0075_01.row.prog w) hp (isInstance (.ref e) (.type "BaseException")) true := t1.andThen i2
  have q : ((hd.heap_39 w.params).lookup 59).map (·.cls) = some (.type "type") := by kernel_rfl
  obtain ⟨o59, ho, hc⟩ := Option.map_eq_some_iff.mp q
  have h59 := X _ _ ho
  repeat (first | with_reducible refine wpAny_loadPart_at he ?_ | (with_reducible refine wpAny_loadPart_at h59 ?_; rw [hc]) | lk | wp_step)
  refine wpAny_handled ?_
  rw [hh]
  exact wpAny_throw hE
end
section
abbrev Prg : Program := PySem.Challenge.rw_pf0075_01.row.prog
theorem RaisedD.sub {base G : Heap} {l : List Env} {e : Addr} {c : Value} {dx : Option Addr} {news news' : List (Addr × Obj)} {h : Heap} (R : RaisedD base G l e c dx news h) (hs : ∀ p ∈ news', p ∈ news) : RaisedD base G l e c dx news' h := by
  obtain ⟨B, h1, h2, h3, h4⟩ := R
  exact ⟨B, h1, h2, fun q hq => h3 q (hs q hq), h4⟩
def FailP (base h₀ : Heap) (L : Addr) (m : Str → Option Value) (env : List Env) (news : List (Addr × Obj)) (s : Shared) (kind : Str) (E : Value → Shared → Prop) : Prop :=
  ∀ h' g tk' e de es n t', Fr h₀ L g m → RaisedD base g env e (.ref 59) (some de) ((de, dictOf es n) :: news) h' → getL (Str.ofString "kind") es = some (some (.str kind t')) → E (.ref e) { s with heap := h', toks := tk' }
theorem madeThen_intro {w : World} {E : Value → Shared → Prop} {s₁ : Shared} {h₀ : Heap} {L e t : Addr} {m : Str → Option Value} {dx : Option Addr} {news : List (Addr × Obj)} (F : Fr h₀ L s₁.heap m) (X : (hd.heap_39 w.params).In h₀) (N : News h₀ L s₁.heap ((e, excO t dx) :: news)) (h : E (.ref e) s₁) : MadeThen w E (.ref e) s₁ :=
  ⟨e, t, dx, rfl, (N _ (.head _)).1, X.keeps F.keep, h⟩
theorem leaveD_fault {M : Model} {A : Around} {E : Value → Shared → Prop} {s' : Shared} {base g : Heap} {outer : List Env} {L a e t : Addr} {m : Str → Option Value} {name : Str} {scope : Scope} {cd : Value} {Q : Unit → Shared → Prop} {news : List (Addr × Obj)} {dx : Option Addr}
    (K : Below A base outer g) (F : Fr g L s'.heap m) (N : News g L s'.heap ((e, excO t dx) :: news)) (hne : ∀ p ∈ news, p.1 ≠ e)
    (hQ : ∀ h', RaisedD base g outer e (.ref 59) dx news h' → Q () { s' with heap := h' }) (hk : scope.kind = .function := by rfl) :
    wpAny M (A.deeper (envOf name scope L a cd)) (leaving (envOf name scope L a cd) (.ref e)) Q E s' := leaveD_new K F N hne rfl rfl rfl rfl hQ hk
end
local macro_rules | `(tactic| walk_at "mine enter") => `(tactic| k_dflt (refine' code_def ?k1 ?k2 ?k3 ?k4 ?k5 ?kA ?kF ?kK ?k6 ?k7 ?k8 ?k9 ?kB ?_ ?c2 ?c3 ?c4 ?c5; (case kA => exact rfl); (case kF => exact rfl); (case kK => first | exact rfl | assumption); (case k1 => k_asm); (case k2 => k_asm); (case k3 => k_asm); (case k4 => k_asm); (case k5 => k_asm); (case k6 => k_is); (case k7 => k_is); (case k8 => ktr_room); (case k9 => first | exact BindsTo.of_eq rfl | exact binds_K (by k_in) rfl (by k_is) rfl rfl rfl); (case c5 => decide); (case kB => exact locs rfl); (case c2 => exact rfl); (case c3 => exact rfl); (case c4 => exact rfl); k_whole; intro g' L' h' FG' F' N' B' X' T'; (try dsimp only); (try k_fold)))
local macro_rules | `(tactic| walk_at "leaving ref") => `(tactic| (k_here; k_dflt (first | (refine' leaveD_fault ?K ?F ?N ?n ?_; (case K => k_asm); (case F => k_asm); (case N => k_asm); (case n => assumption); k_whole; intro h' R') | (refine' leaveD_on ?K ?F ?R ?_; (case R => assumption); (case F => assumption); (case K => assumption); k_whole; intro h' R'))))
local macro_rules | `(tactic| k_mem) => `(tactic| first | assumption | exact List.mem_cons_self | (refine List.mem_cons_of_mem _ ?_; k_mem) | (refine List.mem_append_right _ ?_; k_mem))
local macro_rules | `(tactic| k_all) => `(tactic| assumption)
local macro_rules | `(tactic| k_enter) => `(tactic| walk_at "mine enter")
theorem kw_M4 : True := by
  k_with_none
  k_with "exec Raise some none" => (k_here; refine Raise_any rfl ?_)
  k_with "mine fault_made" => (k_here; k_dflt (refine fault_made (by k_asm) (by k_asm) (by k_asm) (by k_asm) (by k_asm) (by rfl) (by ktr_room) (by ktr_units) ?_; k_whole; intros))
  k_with "call ref" => walk_at "mine fault_made"
  k_with "MadeThen" => (refine madeThen_intro (by k_asm) (by k_asm) (by k_asm) ?_)
  k_with "call builtin:len" => (k_here; (with_reducible show wpAny _ _ (call (Value.builtin "len") [Value.ref _]) _ _ _); k_dflt (refine len_T (by exact News.isTup (by k_asm) (by k_mem)) (by first | assumption | decide) ?_; k_whole))
  k_with "subscriptTail" => (k_here; (with_reducible show wpAny _ _ (subscriptTail _ _ (Value.ref _) (Value.int _ _)) _ _ _); k_dflt (refine item_tupleT (by exact News.isTup (by k_asm) (by k_mem)) (by first | decide | omega) (by first | decide | omega) (by first | rfl | assumption | exact seq0 _ _) (by first | rfl | assumption) ?_; k_whole))
  k_with "mine fail" => (intros; unfold FailP; intros; (try dsimp only))
  k_with "mine rep" => first | assumption | exact Rep.up (by assumption) (fun _ hq => by k_mem) | exact Rep.up (RowRep.item (by assumption) (by assumption)) (fun _ hq => by k_mem)
  k_with "mine inner_all" => (k_here; k_dflt (refine inner_all (by k_asm) (by k_asm) (by k_asm) (by k_asm) (by k_asm) (by rfl) (by ktr_room) (by ktr_units) (by walk_at "mine rep") ?_ ?_; intros; (try dsimp only); rotate_left 1; walk_at "mine fail"))
  k_with "call ref" => walk_at "mine inner_all"
  k_with "subscriptTail" => (k_here; (with_reducible show wpAny _ _ (subscriptTail _ _ (Value.ref _) (Value.int _ _)) _ _ _); k_dflt (refine item_litK (by exact News.isList (by k_asm) (by k_mem)) (by first | decide | omega) (by first | decide | omega) (by first | rfl | assumption) ?_ (by with_unfolding_all rfl); k_whole))
  k_with "mine cut" => first | (refine cut_to (by k_asm) (by k_asm) (by k_mem) (by first | assumption | omega) (by first | assumption | omega) (by first | assumption | omega) ?_ (by with_unfolding_all rfl) (by (intro _; with_unfolding_all rfl)); k_whole; intros; (try dsimp only)) | (refine cut_from (by k_asm) (by k_asm) (by k_mem) (by first | assumption | omega) (by first | assumption | omega) (by first | assumption | omega) ?_ (by with_unfolding_all rfl) (by (intro _; with_unfolding_all rfl)); k_whole; intros; (try dsimp only))
  k_with "subscriptTail Name Slice ref ref" => (k_here; k_dflt (walk_at "mine cut"))
  k_with "subscriptTail Subscript" => (k_here; (with_reducible show wpAny _ _ (subscriptTail _ _ (Value.ref _) (Value.ref _)) _ _ _); k_dflt (walk_at "mine cut"))
  k_with "binaryOp Add ref ref" => (k_here; k_dflt (refine add_T (by k_asm) (by k_asm) (by k_mem) (by k_mem) (by first | omega | (simp; done) | (simp; omega) | (simp only [List.length_append, List.length_take, List.length_drop, List.length_cons, List.length_nil]; omega)) ?_; k_whole); intros; (try dsimp only))
  k_with "mine notin" => (k_here; k_dflt (first | (refine mix_out (by k_asm) (by k_mem) (by assumption) (by assumption) (by assumption) (by assumption) ?_; k_whole) | (refine mix_in (by k_asm) (by k_mem) (by assumption) (by assumption) (by assumption) (by assumption) ?_; k_whole)))
  k_with "compareOp NotIn int ref" => walk_at "mine notin"
  k_with "compareOp NotIn str ref" => walk_at "mine notin"
  k_with "mine item" => (k_here; k_dflt (refine mix_item (by k_asm) (by k_mem) (by assumption) (by assumption) (by assumption) ?_ (by with_unfolding_all rfl) (by (intro _; with_unfolding_all rfl)); k_whole))
  k_with "subscriptTail" => walk_at "mine item"
  k_with "subscriptTail Attribute" => walk_at "mine item"
  k_with "compareOp Eq ref ref" => (k_here; k_dflt (refine eq_nil (by k_asm) (by k_mem) (by k_mem) (by ktr_units) ?_; k_whole); (try dsimp only [List.isEmpty]))
  k_with "call builtin:len" => (k_here; (with_reducible show wpAny _ _ (call (Value.builtin "len") [Value.ref _]) _ _ _); k_dflt (refine len_L (by k_asm) (by k_mem) (by first | assumption | decide) ?_; k_whole))
  k_with "mine fail0" => (unfold FailP; intros; (try dsimp only))
  k_with "mine setattr" => (k_here; k_dflt (refine set_dict (by k_asm) (by k_asm) (by k_asm) (by k_inst) (by exact rfl) (by k_is) (by k_is) (by k_is) (by k_is) (by k_get) (by exact rfl) (by k_upd) (by exact Nat.le_of_ble_eq_true rfl) ?_; k_whole; intros; (try k_sweep)))
  k_with "setAttr ref" => walk_at "mine setattr"
  trivial
section
theorem inner_int {w : World} {mean : ExcName → Option Value} {mg mb : Str → Option Value} {dp un : Nat} {gd : Option (List Code)} {cn : Str} {cs : Scope} {a : Addr} {ccd : Value} {cl : List (Str × Addr)} {outer : List Env} {A₀ : Around} {base h₀ : Heap} {L : Addr} {m : Str → Option Value} {news : List (Addr × Obj)} {s : Shared} {Q E : Value → Shared → Prop}
    (B : Below A₀ base outer h₀) (F : Fr h₀ L s.heap m) (X : (hd.heap_39 w.params).In h₀) (N : News h₀ L s.heap news) (T : Top PP LL mean mg mb h₀) (hk : cs.kind = .function) (hdp : dp + 110 < recursionLimit) (hun : un + 900 < cLine)
    {v i : Int} {t1 t2 : Tok} (hE : FailP base h₀ L m (envX cn cs L a ccd cl :: outer) news s (Str.ofString "place") E) :
    wpAny (model Prg w) (ktrTop dp un gd cn cs L a ccd cl outer) (call (.ref 68) [.int v t1, .int i t2]) Q E s := by
  have hfill : (hd.heap_39 = hd.heap_39 ∧ PySem.Challenge.rw_pf0075_01 = PySem.Challenge.rw_pf0075_01) → True := by
    k_fill
    intro _; trivial
  clear hfill
  refine wpAny_call ?_
  k_dflt cell_enter
  k_steps
  rename RaisedD _ _ _ _ _ _ _ _ => R
  rename getL _ _ = _ => q1
  rename Fr h₀ L _ m => FG
  exact hE _ _ _ _ _ _ _ _ FG R q1
end
section
theorem len_T {w : World} {A : Around} {s : Shared} {l : Addr} {vs : List Value} {Q : Value → Shared → Prop} {E : Value → Shared → Prop} (hl : IsTup s.heap l vs.toArray) (hz : vs.length ≤ 1000) (h : Q (.int vs.length (s.toks + 1)) { s with toks := s.toks + 1 + 1 }) :
    wpAny (model Prg w) A (call (.builtin "len") [.ref l]) Q E s := kun_lenT hl (by simp) (by omega) h
theorem inner_ok {w : World} {mean : ExcName → Option Value} {mg mb : Str → Option Value} {dp un : Nat} {gd : Option (List Code)} {cn : Str} {cs : Scope} {a : Addr} {ccd : Value} {cl : List (Str × Addr)} {outer : List Env} {A₀ : Around} {base h₀ : Heap} {L : Addr} {m : Str → Option Value} {news : List (Addr × Obj)} {s : Shared} {Q E : Value → Shared → Prop}
    (B : Below A₀ base outer h₀) (F : Fr h₀ L s.heap m) (X : (hd.heap_39 w.params).In h₀) (N : News h₀ L s.heap news) (T : Top PP LL mean mg mb h₀) (hk : cs.kind = .function) (hdp : dp + 110 < recursionLimit) (hun : un + 900 < cLine)
    {x p : Addr} {i : Int} {t1 t2 : Tok} {tag : Str} {n n' : Nat} {vs : List Value} {v : Value} (htag : tag = Str.ofString "struct" ∨ tag = Str.ofString "array") (hx : (x, tupO [.str tag t1, .ref p] n) ∈ news) (hp : (p, tupO vs n') ∈ news)
    (hz : vs.length ≤ 1000) (h0 : 0 ≤ i) (h1 : i < vs.length) (hv : vs[i.toNat]? = some v) (hret : ∀ h' tk', Fr h₀ L h' m → News h₀ L h' news → Q v { s with heap := h', toks := tk' }) :
    wpAny (model Prg w) (ktrTop dp un gd cn cs L a ccd cl outer) (call (.ref 68) [.ref x, .int i t2]) Q E s := by
  have hfill : (hd.heap_39 = hd.heap_39 ∧ PySem.Challenge.rw_pf0075_01 = PySem.Challenge.rw_pf0075_01) → True := by
    k_fill
    intro _; trivial
  clear hfill
  have hj : seqIndex? i vs.length = some i.toNat := by
    have n0 : ¬ i < 0 := by omega
    simp only [seqIndex?, n0, if_false]
    rw [if_pos (by simp [h0, h1])]
  rcases htag with rfl | rfl
  all_goals refine wpAny_call ?_
  all_goals k_dflt cell_enter
  all_goals k_steps
  all_goals rename Fr h₀ L _ m => kF
  all_goals rename News h₀ L _ _ => kN
  all_goals exact hret _ _ kF (News.perm kN fun p hp => by k_mem)
theorem inner_out {w : World} {mean : ExcName → Option Value} {mg mb : Str → Option Value} {dp un : Nat} {gd : Option (List Code)} {cn : Str} {cs : Scope} {a : Addr} {ccd : Value} {cl : List (Str × Addr)} {outer : List Env} {A₀ : Around} {base h₀ : Heap} {L : Addr} {m : Str → Option Value} {news : List (Addr × Obj)} {s : Shared} {Q E : Value → Shared → Prop}
    (B : Below A₀ base outer h₀) (F : Fr h₀ L s.heap m) (X : (hd.heap_39 w.params).In h₀) (N : News h₀ L s.heap news) (T : Top PP LL mean mg mb h₀) (hk : cs.kind = .function) (hdp : dp + 110 < recursionLimit) (hun : un + 900 < cLine)
    {x p : Addr} {i : Int} {t1 t2 : Tok} {tag : Str} {n n' : Nat} {vs : List Value} (htag : tag = Str.ofString "struct" ∨ tag = Str.ofString "array") (hx : (x, tupO [.str tag t1, .ref p] n) ∈ news) (hp : (p, tupO vs n') ∈ news)
    (hz : vs.length ≤ 1000) (hi : i < 0 ∨ vs.length ≤ i) (hE : FailP base h₀ L m (envX cn cs L a ccd cl :: outer) news s (Str.ofString "place") E) :
    wpAny (model Prg w) (ktrTop dp un gd cn cs L a ccd cl outer) (call (.ref 68) [.ref x, .int i t2]) Q E s := by
  have hfill : (hd.heap_39 = hd.heap_39 ∧ PySem.Challenge.rw_pf0075_01 = PySem.Challenge.rw_pf0075_01) → True := by
    k_fill
    intro _; trivial
  clear hfill
  rcases htag with rfl | rfl <;> rcases hi with hi | hi
  all_goals refine wpAny_call ?_
  all_goals k_dflt cell_enter
  all_goals k_steps
  all_goals rename RaisedD _ _ _ _ _ _ _ _ => R
  all_goals rename getL _ _ = _ => q1
  all_goals rename Fr h₀ L _ m => FG
  all_goals exact hE _ _ _ _ _ _ _ _ FG (R.sub fun p hp => by rcases List.mem_cons.mp hp with rfl | hp <;> k_mem) q1
end
section
inductive PV | int (i : Int) | agg (arr : Bool) (ps : List PV)
def tagOf (arr : Bool) : Str := if arr then Str.ofString "array" else Str.ofString "struct"
theorem tagOf_or (arr : Bool) : tagOf arr = Str.ofString "struct" ∨ tagOf arr = Str.ofString "array" := by cases arr <;> simp [tagOf]
def PV.inner : PV → Int → Option PV
  | .int _, _ => none
  | .agg _ ps, i => if 0 ≤ i then ps[i.toNat]? else none
def PV.at : PV → List Int → Option PV
  | v, [] => some v
  | v, i :: r => (v.inner i).bind (PV.at · r)
def PV.with : PV → List Int → PV → PV
  | _, [], q => q
  | .int i, _ :: _, _ => .int i
  | .agg b ps, i :: r, q => .agg b (ps.set i.toNat (((ps[i.toNat]?).getD (.int 0)).with r q))
inductive Rep (news : List (Addr × Obj)) : PV → Value → Prop
  | int {i : Int} {t : Tok} : Rep news (.int i) (.int i t)
  | agg {arr : Bool} {ps : List PV} {x p : Addr} {t : Tok} {n n' : Nat} {vs : List Value} : (x, tupO [.str (tagOf arr) t, .ref p] n) ∈ news → (p, tupO vs n') ∈ news → vs.length = ps.length → ps.length ≤ 900 →
      (∀ (i : Nat) v q, vs[i]? = some v → ps[i]? = some q → Rep news q v) → Rep news (.agg arr ps) (.ref x)
theorem Rep.mono {news news' : List (Addr × Obj)} (hs : ∀ a o, (a, o) ∈ news → o.cls = .type "tuple" → (a, o) ∈ news') {pv : PV} {v : Value} (R : Rep news pv v) : Rep news' pv v := by
  induction R with
  | int => exact .int
  | agg h1 h2 h3 h4 _ ih => exact .agg (hs _ _ h1 rfl) (hs _ _ h2 rfl) h3 h4 ih
theorem Rep.sub {news news' : List (Addr × Obj)} (hs : ∀ p ∈ news, p ∈ news') {pv : PV} {v : Value} (R : Rep news pv v) : Rep news' pv v := R.mono fun a o h _ => hs _ h
theorem Rep.up {news news' : List (Addr × Obj)} {pv : PV} {v : Value} (R : Rep news pv v) (hs : ∀ p ∈ news, p ∈ news') : Rep news' pv v := R.sub hs
theorem Rep.drop1 {news : List (Addr × Obj)} {I : Addr} {o : Obj} {C : String} {pv : PV} {v : Value} (R : Rep ((I, o) :: news) pv v) (hc : o.cls = .type C) (hC : C ≠ "tuple" := by decide) : Rep news pv v := R.mono fun a x h hx => by
  rcases List.mem_cons.mp h with q | h
  · cases q
    rw [hc] at hx
    cases hx
    exact absurd rfl hC
  · exact h
theorem Rep.cons {news : List (Addr × Obj)} {p : Addr × Obj} {pv : PV} {v : Value} (R : Rep news pv v) : Rep (p :: news) pv v := R.sub fun _ h => .tail _ h
theorem inner_all {w : World} {mean : ExcName → Option Value} {mg mb : Str → Option Value} {dp un : Nat} {gd : Option (List Code)} {cn : Str} {cs : Scope} {a : Addr} {ccd : Value} {cl : List (Str × Addr)} {outer : List Env} {A₀ : Around} {base h₀ : Heap} {L : Addr} {m : Str → Option Value} {news : List (Addr × Obj)} {s : Shared} {Q E : Value → Shared → Prop}
    (B : Below A₀ base outer h₀) (F : Fr h₀ L s.heap m) (X : (hd.heap_39 w.params).In h₀) (N : News h₀ L s.heap news) (T : Top PP LL mean mg mb h₀) (hk : cs.kind = .function) (hdp : dp + 110 < recursionLimit) (hun : un + 900 < cLine)
    {pv : PV} {v : Value} {i : Int} {t2 : Tok} (hv : Rep news pv v) (hret : ∀ q v' h' tk', pv.inner i = some q → Rep news q v' → Fr h₀ L h' m → News h₀ L h' news → Q v' { s with heap := h', toks := tk' })
    (hE : pv.inner i = none → FailP base h₀ L m (envX cn cs L a ccd cl :: outer) news s (Str.ofString "place") E) :
    wpAny (model Prg w) (ktrTop dp un gd cn cs L a ccd cl outer) (call (.ref 68) [v, .int i t2]) Q E s := by
  cases hv with
  | int => exact inner_int B F X N T hk hdp hun (hE rfl)
  | @agg arr ps x p t n n' vs h1 h2 h3 h4 h5 =>
    by_cases hz : 0 ≤ i ∧ i < vs.length
    · have hlt : i.toNat < vs.length := by omega
      have hlt' : i.toNat < ps.length := by omega
      have e : (PV.agg arr ps).inner i = some ps[i.toNat] := by
        show (if 0 ≤ i then ps[i.toNat]? else none) = _
        rw [if_pos hz.1]; exact List.getElem?_eq_getElem hlt'
      exact inner_ok B F X N T hk hdp hun (tagOf_or arr) h1 h2 (by omega) hz.1 hz.2 (List.getElem?_eq_getElem hlt) fun h' tk' F' N' => hret _ _ _ _ e (h5 _ _ _ (List.getElem?_eq_getElem hlt) (List.getElem?_eq_getElem hlt')) F' N'
    · refine inner_out B F X N T hk hdp hun (tagOf_or arr) h1 h2 (by omega) (by omega) (hE ?_)
      show (if 0 ≤ i then ps[i.toNat]? else none) = none
      split
      · exact List.getElem?_eq_none (by omega)
      · rfl
theorem News.dup {h₀ h : Heap} {L : Addr} {news : List (Addr × Obj)} {a : Addr} {o : Obj} (N : News h₀ L h news) (hm : (a, o) ∈ news) : News h₀ L h ((a, o) :: news) := fun p hp => by
  rcases List.mem_cons.mp hp with rfl | hp
  · exact N _ hm
  · exact N p hp
end
section
def EndJ (h₀ : Heap) (L : Addr) (s₁ : Shared) (I : Addr) (o : Obj) (J : (Str → Option Value) → List (Addr × Obj) → Prop) (Q : Flow → Shared → Prop) (f : Flow) (s₂ : Shared) : Prop :=
  match f with
  | .ret v => Q (.ret v) s₂
  | .brk => Q .next s₂
  | _ => ∃ h' tk m' news', s₂ = { s₁ with heap := h', toks := tk } ∧ Fr h₀ L h' m' ∧ News h₀ L h' ((I, o) :: news') ∧ (∀ p ∈ news', p.1 ≠ I) ∧ J m' news'
theorem EndJ.next {h₀ : Heap} {L : Addr} {s₁ : Shared} {I : Addr} {o : Obj} {J : (Str → Option Value) → List (Addr × Obj) → Prop} {Q : Flow → Shared → Prop} {h' : Heap} {tk : Nat} {m' : Str → Option Value} {all : List (Addr × Obj)} (F : Fr h₀ L h' m') (N : News h₀ L h' all) (news' : List (Addr × Obj))
    (hI : (I, o) ∈ all) (hs : ∀ p ∈ news', p ∈ all) (hn : ∀ p ∈ news', p.1 ≠ I) (hj : J m' news') : EndJ h₀ L s₁ I o J Q .next { s₁ with heap := h', toks := tk } :=
  ⟨h', tk, m', news', rfl, F, News.perm N fun p hp => (by
    rcases List.mem_cons.mp hp with rfl | hp
    · exact hI
    · exact hs p hp), hn, hj⟩
section
variable {prog : Program} {w : World} {A : Around} {E : Value → Shared → Prop} {s : Shared} {env : Env} {h₀ : Heap} {target : Expr} {body : List Stmt} {Q : Flow → Shared → Prop}
theorem items_J {I : Addr} {C : String} {keep : List (Addr × Obj)} {xs : List Itm} (J : Nat → (Str → Option Value) → List (Addr × Obj) → Prop) (hkeep : ∀ i m news, J i m news → SubL keep news)
    (step : ∀ i a v m₁ news₁ h tk o, xs[i]? = some a → a.Is v h → J i m₁ news₁ → o.cls = .type C → Fr h₀ env.locals h m₁ → News h₀ env.locals h ((I, o) :: news₁) → (∀ p ∈ news₁, p.1 ≠ I) →
      wpAny (model prog w) A (assign target env v) (fun _ s₂ => wpAny (model prog w) A (execs body env) (EndJ h₀ env.locals { s with heap := h, toks := tk } I o (J (i + 1)) Q) E s₂) E { s with heap := h, toks := tk })
    (done : ∀ m news h tk, J xs.length m news → Fr h₀ env.locals h m → News h₀ env.locals h news → Q .next { s with heap := h, toks := tk }) :
    ∀ (k i : Nat) m news, i + k = xs.length → J i m news → (∀ p ∈ news, p.1 ≠ I) → ItemsRest prog w A E h₀ env target body Q s [(I, C)] keep (xs.drop i) m news
  | 0, i, m, news, hi, hJ, hn => by
    rw [List.drop_eq_nil_of_le (by omega)]
    exact ItemsRest.zero fun h tk F N => done m news h tk (by rw [← hi]; exact hJ) F N
  | k + 1, i, m, news, hi, hJ, hn => by
    have hlt : i < xs.length := by omega
    rw [List.drop_eq_getElem_cons hlt]
    intro v h tk hv F
    refine AllObj.cons fun o hc => AllObj.nil fun N => ?_
    refine wpAny_mono (step i _ v m news h tk o (List.getElem?_eq_getElem hlt) hv hJ hc F N hn) (fun _ s₂ h₂ => wpAny_mono h₂ (fun f s₃ h₃ => ?_) fun _ _ e => e) fun _ _ e => e
    have fin : (∃ h' tk' m' news', s₃ = { s with heap := h', toks := tk' } ∧ Fr h₀ env.locals h' m' ∧ News h₀ env.locals h' ((I, o) :: news') ∧ (∀ p ∈ news', p.1 ≠ I) ∧ J (i + 1) m' news') →
        UnrEndW h₀ env.locals { s with heap := h, toks := tk } [(I, o)] (fun m' n' => SubL keep n' ∧ ItemsRest prog w A E h₀ env target body Q s [(I, C)] keep (xs.drop (i + 1)) m' n') s₃ := by
      rintro ⟨h', tk', m', news', rfl, F', N', hn', hJ'⟩
      exact ⟨h', tk', m', news', rfl, F', N', fun p hp q hq => by rw [List.mem_singleton.mp hq]; exact hn' p hp, hkeep _ _ _ hJ', items_J J hkeep step done k (i + 1) m' news' (by omega) hJ' hn'⟩
    cases f with
    | ret v => exact h₃
    | brk => exact h₃
    | next => exact fin h₃
    | cont => exact fin h₃
theorem iter_tupJ {ax : Addr} {vs : List Value} {n : Nat} {m₀ : Str → Option Value} {news : List (Addr × Obj)} (F : Fr h₀ env.locals s.heap m₀) (N : News h₀ env.locals s.heap news)
    (J : Nat → (Str → Option Value) → List (Addr × Obj) → Prop) (h0 : J 0 m₀ news) (hkeep : ∀ i m news, J i m news → (ax, tupO vs n) ∈ news)
    (step : ∀ I i v m₁ news₁ h tk o, vs[i]? = some v → J i m₁ news₁ → o.cls = .type "tuple_iterator" → Fr h₀ env.locals h m₁ → News h₀ env.locals h ((I, o) :: news₁) → (∀ p ∈ news₁, p.1 ≠ I) →
      wpAny (model prog w) A (assign target env v) (fun _ s₂ => wpAny (model prog w) A (execs body env) (EndJ h₀ env.locals { s with heap := h, toks := tk } I o (J (i + 1)) Q) E s₂) E { s with heap := h, toks := tk })
    (done : ∀ m news h tk, J vs.length m news → Fr h₀ env.locals h m → News h₀ env.locals h news → Q .next { s with heap := h, toks := tk }) (hh : A.handled = none) :
    wpAny (model prog w) A (pyIter (.ref ax)) (fun it s₂ => TurnsAt prog w A h₀ env target body Q E it s₂) E s := by
  refine iter_tupTurns (lo := tupO vs n) (vs := vs) hh F N (hkeep _ _ _ h0) rfl rfl fun I hI => ?_
  have := items_J (prog := prog) (w := w) (A := A) (E := E) (s := s) (env := env) (h₀ := h₀) (target := target) (body := body) (Q := Q) (I := I) (C := "tuple_iterator") (keep := [(ax, tupO vs n)]) (xs := vs.map .val) J
    (fun i m news hJ => ⟨hkeep i m news hJ, trivial⟩)
    (fun i a v m₁ news₁ h tk o ha hv hJ hc F N hn => by
      rw [List.getElem?_map] at ha
      obtain ⟨u, hu, rfl⟩ := Option.map_eq_some_iff.mp ha
      obtain rfl : v = u := hv
      exact step I i v m₁ news₁ h tk o hu hJ hc F N hn)
    (fun m news h tk hJ F N => done m news h tk (by rw [List.length_map] at hJ; exact hJ) F N) (vs.map Itm.val).length 0 m₀ news (by omega) h0 (fun p hp => Nat.ne_of_lt (hI p hp))
  rw [List.drop_zero] at this
  exact this
theorem iter_tupM {ax : Addr} {vs : List Value} {n : Nat} {m₀ : Str → Option Value} {news : List (Addr × Obj)} (F : Fr h₀ env.locals s.heap m₀) (N : News h₀ env.locals s.heap news)
    (J : (Str → Option Value) → Nat → (Str → Option Value) → List (Addr × Obj) → Prop) (h0 : J m₀ 0 m₀ news) (hkeep : ∀ i m news, J m₀ i m news → (ax, tupO vs n) ∈ news)
    (step : ∀ I i v m₁ news₁ h tk o, vs[i]? = some v → J m₀ i m₁ news₁ → o.cls = .type "tuple_iterator" → Fr h₀ env.locals h m₁ → News h₀ env.locals h ((I, o) :: news₁) → (∀ p ∈ news₁, p.1 ≠ I) →
      wpAny (model prog w) A (assign target env v) (fun _ s₂ => wpAny (model prog w) A (execs body env) (EndJ h₀ env.locals { s with heap := h, toks := tk } I o (J m₀ (i + 1)) Q) E s₂) E { s with heap := h, toks := tk })
    (done : ∀ m news h tk, J m₀ vs.length m news → Fr h₀ env.locals h m → News h₀ env.locals h news → Q .next { s with heap := h, toks := tk }) (hh : A.handled = none) :
    wpAny (model prog w) A (pyIter (.ref ax)) (fun it s₂ => TurnsAt prog w A h₀ env target body Q E it s₂) E s :=
  iter_tupJ F N (J m₀) h0 hkeep step done hh
theorem letGo_rangeJ {target : Expr} {I : Addr} {x l c : Int} {v : Value} {Q' : Unit → Shared → Prop} {s' : Shared} (hit : IsRangeIter s'.heap I x l c) (h : Q' () s') :
    wpAny (model prog w) A (letOwnedTupleGo target (.ref I) v) Q' E s' := by
  have ho : s'.heap.get? I = some _ := hit
  unfold letOwnedTupleGo
  cases target <;> first
    | exact wpAny_pure h
    | (cases v <;> first
        | exact wpAny_pure h
        | (refine wpAny_bind (wpAny_load ho ?_)
           exact wpAny_pure h))
theorem iter_rangeM {r : Addr} {a b c : Int} {t₀ u₀ v₀ : Tok} {m₀ : Str → Option Value} {news : List (Addr × Obj)} (n : Nat) (hr : IsRange s.heap r a b c t₀ u₀ v₀) (hsmall : Builtin.Range.small a b c = true) (hn : Builtin.Range.rangeSize a b c = (n : Int)) (F : Fr h₀ env.locals s.heap m₀) (N : News h₀ env.locals s.heap news)
    (J : (Str → Option Value) → Nat → (Str → Option Value) → List (Addr × Obj) → Prop) (h0 : J m₀ 0 m₀ news)
    (step : ∀ I i t m₁ news₁ h tk o, i < n → J m₀ i m₁ news₁ → o.cls = .type "range_iterator" → Fr h₀ env.locals h m₁ → News h₀ env.locals h ((I, o) :: news₁) → (∀ p ∈ news₁, p.1 ≠ I) →
      wpAny (model prog w) A (assign target env (.int (a + (i : Int) * c) t)) (fun _ s₂ => wpAny (model prog w) A (execs body env) (EndJ h₀ env.locals { s with heap := h, toks := tk } I o (J m₀ (i + 1)) Q) E s₂) E { s with heap := h, toks := tk })
    (done : ∀ m news h tk, J m₀ n m news → Fr h₀ env.locals h m → News h₀ env.locals h news → Q .next { s with heap := h, toks := tk }) (hh : A.handled = none) :
    wpAny (model prog w) A (pyIter (.ref r)) (fun it s₂ => TurnsAt prog w A h₀ env target body Q E it s₂) E s := by
  refine wpAny_pyIter_range hr hsmall ?_
  have hnew : h₀.get? s.heap.objs.size = none := ktu_new F (Nat.le_refl _)
  have J0 := items_J (prog := prog) (w := w) (A := A) (E := E) (s := s) (env := env) (h₀ := h₀) (target := target) (body := body) (Q := Q) (I := s.heap.objs.size) (C := "range_iterator") (keep := []) (xs := (List.range n).map fun (i : Nat) => Itm.tok fun t => .int (a + (i : Int) * c) t) (J m₀)
    (fun i m news hJ => trivial)
    (fun i x v m₁ news₁ h tk o ha hv hJ hc F N hn => by
      rw [List.getElem?_map] at ha
      obtain ⟨u, hu, rfl⟩ := Option.map_eq_some_iff.mp ha
      obtain ⟨hlt, e⟩ := List.getElem?_eq_some_iff.mp hu
      rw [List.getElem_range] at e
      subst e
      obtain ⟨t, rfl⟩ := hv
      exact step _ i t m₁ news₁ h tk o (by simpa using hlt) hJ hc F N hn)
    (fun m news h tk hJ F N => done m news h tk (by simpa using hJ) F N) _ 0 m₀ news (Nat.zero_add _) h0 (fun p hp => Nat.ne_of_lt (Heap.lt_size (N p hp).1))
  rw [List.drop_zero] at J0
  refine ktu_core (tk0 := s.toks) (keep := []) (KTurns.ofWalks ((Walks.range hh s.heap.objs.size a c n).bound) fun i v s Q E st q => letGo_rangeJ st q) (by simp) (fun i v h hp => ?_) (fun i h st => ?_) (fun b hb => ?_) (fun b hb => by simpa using hb) (fun b hb => ?_) ?_ (fun p hp hI => ?_) ?_ (F.push _) (fun p hp => ⟨Heap.get?_push_of_some _ (N p hp).1, (N p hp).2⟩) trivial J0
  · obtain ⟨hlt, t, rfl⟩ := hp
    exact ⟨Itm.tok fun t => .int (a + (i : Int) * c) t, by rw [List.getElem?_map, List.getElem?_range hlt]; rfl, (⟨t, rfl⟩ : ∃ t', Value.int (a + (i : Int) * c) t = Value.int (a + (i : Int) * c) t')⟩
  · exact ⟨[(s.heap.objs.size, _)], ⟨⟨rfl, rfl⟩, trivial⟩, fun p hp => by rw [List.mem_singleton.mp hp]; exact st⟩
  · have hb' : b = s.heap.objs.size := by simpa using hb
    rw [hb']
    exact ⟨List.mem_cons_self .., hnew⟩
  · have hb' : b = s.heap.objs.size := by simpa using hb
    exact .inl (by simp [hb'])
  · intro hI
    exact absurd F.ns.lt ((List.mem_singleton.mp hI) ▸ Nat.lt_irrefl _)
  · exact absurd (Heap.lt_size (N p hp).1) ((List.mem_singleton.mp hI) ▸ Nat.lt_irrefl _)
  · show IsRangeIter _ _ _ _ _
    rw [hn]
    simpa using Heap.get?_push_size _ rfl
end
end
section
def Ints (vs : List Value) (is : List Int) : Prop := vs.length = is.length ∧ ∀ (n : Nat) (i : Int), is[n]? = some i → ∃ t, vs[n]? = some (Value.int i t)
theorem Ints.item {vs : List Value} {is : List Int} (h : Ints vs is) {n : Nat} {v : Value} (hv : vs[n]? = some v) : ∃ i t, is[n]? = some i ∧ v = Value.int i t := by
  have hlt : n < is.length := by rw [← h.1]; exact (List.getElem?_eq_some_iff.mp hv).1
  obtain ⟨t, ht⟩ := h.2 n _ (List.getElem?_eq_getElem hlt)
  exact ⟨_, t, List.getElem?_eq_getElem hlt, Option.some.inj (hv.symm.trans ht)⟩
theorem m_two {m m₀ : Str → Option Value} (a b : Str) (h : ∀ y, y ≠ a → y ≠ b → m y = m₀ y) : m = fun y => if y = a then m a else if y = b then m b else m₀ y := by
  funext y
  by_cases ha : y = a
  · rw [ha, if_pos rfl]
  · rw [if_neg ha]
    by_cases hb : y = b
    · rw [hb, if_pos rfl]
    · rw [if_neg hb, h y ha hb]
theorem m_three {m m₀ : Str → Option Value} (a b c : Str) (h : ∀ y, y ≠ a → y ≠ b → y ≠ c → m y = m₀ y) : m = fun y => if y = a then m a else if y = b then m b else if y = c then m c else m₀ y := by
  funext y
  by_cases ha : y = a
  · rw [ha, if_pos rfl]
  · rw [if_neg ha]
    by_cases hb : y = b
    · rw [hb, if_pos rfl]
    · rw [if_neg hb]
      by_cases hc : y = c
      · rw [hc, if_pos rfl]
      · rw [if_neg hc, h y ha hb hc]
theorem m_one {m m₀ : Str → Option Value} (a : Str) (h : ∀ y, y ≠ a → m y = m₀ y) : m = fun y => if y = a then m a else m₀ y := by
  funext y
  by_cases ha : y = a
  · rw [ha, if_pos rfl]
  · rw [if_neg ha, h y ha]
theorem at_take {q : PV} {is : List Int} {i : Int} : ∀ {n : Nat} {pv : PV}, pv.at (is.take n) = some q → is[n]? = some i → pv.at (is.take (n + 1)) = q.inner i := by
  induction is with
  | nil => intro n pv h hi; cases hi
  | cons j r ih =>
    intro n pv h hi
    cases n with
    | zero =>
      cases hi
      cases h
      show (q.inner i).bind (PV.at · []) = q.inner i
      cases q.inner i <;> rfl
    | succ n =>
      have h' : (pv.inner j).bind (PV.at · (r.take n)) = some q := h
      show (pv.inner j).bind (PV.at · (r.take (n + 1))) = q.inner i
      cases e : pv.inner j with
      | none => rw [e] at h'; cases h'
      | some p => rw [e] at h'; exact ih h' hi
theorem at_none {is : List Int} : ∀ (n : Nat) {pv : PV}, pv.at (is.take n) = none → pv.at is = none := by
  induction is with
  | nil => intro n pv h; cases n <;> exact h
  | cons j r ih =>
    intro n pv h
    cases n with
    | zero => cases h
    | succ n =>
      have h' : (pv.inner j).bind (PV.at · (r.take n)) = none := h
      show (pv.inner j).bind (PV.at · r) = none
      cases e : pv.inner j with
      | none => rfl
      | some p => rw [e] at h'; exact ih n h'
theorem at_append {is js : List Int} : ∀ {pv : PV}, pv.at (is ++ js) = (pv.at is).bind (PV.at · js) := by
  induction is with
  | nil => intro pv; rfl
  | cons j r ih =>
    intro pv
    show (pv.inner j).bind (PV.at · (r ++ js)) = ((pv.inner j).bind (PV.at · r)).bind (PV.at · js)
    cases pv.inner j with
    | none => rfl
    | some p => exact ih
theorem at_prefix {is : List Int} {pv old : PV} (h : pv.at is = some old) (k : Nat) : ∃ q, pv.at (is.take k) = some q := by
  cases e : pv.at (is.take k) with
  | none => rw [at_none k e] at h; cases h
  | some q => exact ⟨q, rfl⟩
theorem rep_skip {ex news : List (Addr × Obj)} {al : Addr} {lo : Obj} {pv : PV} {v : Value} (R : Rep (ex ++ (al, lo) :: news) pv v) (hc : lo.cls ≠ .type "tuple") : Rep (ex ++ news) pv v := R.mono fun a o h ho => by
  rcases List.mem_append.mp h with h | h
  · exact List.mem_append_left _ h
  · rcases List.mem_cons.mp h with q | h
    · cases q; exact absurd ho hc
    · exact List.mem_append_right _ h
theorem news_skip {h₀ h : Heap} {L : Addr} {ex news : List (Addr × Obj)} {x : Addr × Obj} (N : News h₀ L h (ex ++ x :: news)) : News h₀ L h (ex ++ news) := News.perm N fun p hp => by
  rcases List.mem_append.mp hp with h | h
  · exact List.mem_append_left _ h
  · exact List.mem_append_right _ (.tail _ h)
theorem rep_set {N : List (Addr × Obj)} {b : Bool} {ps : List PV} {x r : Addr} {t : Tok} {n n' i : Nat} {cs : List Value} {q : PV} {fv : Value} (hx : (x, tupO [.str (tagOf b) t, .ref r] n) ∈ N) (hr : (r, tupO ((cs.take i ++ [fv]) ++ cs.drop (i + 1)) n') ∈ N)
    (hl : cs.length = ps.length) (hz : ps.length ≤ 900) (hall : ∀ (i : Nat) v q, cs[i]? = some v → ps[i]? = some q → Rep N q v) (hf : Rep N q fv) (hi : i < cs.length) : Rep N (.agg b (ps.set i q)) (.ref x) := by
  have e : (cs.take i ++ [fv]) ++ cs.drop (i + 1) = cs.set i fv := by
    rw [List.set_eq_take_append_cons_drop, if_pos hi, List.append_assoc]; rfl
  rw [e] at hr
  refine .agg hx hr (by rw [List.length_set, List.length_set, hl]) (by rw [List.length_set]; exact hz) fun j v p hv hp => ?_
  by_cases hj : j = i
  · subst hj
    rw [List.getElem?_set_self hi] at hv
    rw [List.getElem?_set_self (hl ▸ hi)] at hp
    cases hv; cases hp
    exact hf
  · rw [List.getElem?_set_ne (Ne.symm hj)] at hv hp
    exact hall j v p hv hp
end
section
section
variable {prog : Program} {w : World} {A : Around} {E : Value → Shared → Prop} {s : Shared} {h₀ : Heap} {L : Addr} {m : Str → Option Value} {news : List (Addr × Obj)}
theorem adj_to (a n : Nat) (ha : a ≤ n) : Builtin.Slice.sliceAdjust none (some (a : Int)) 1 (n : Int) = (0, (a : Int)) := by
  unfold Builtin.Slice.sliceAdjust
  have h1 : ¬ ((1 : Int) < 0) := by omega
  have h2 : ¬ ((a : Int) < 0) := by omega
  simp only [h1, h2, if_false]
  congr 1
  omega
theorem plc_to (a : Nat) : Builtin.Slice.slicePlaces 0 (a : Int) 1 = a := by
  unfold Builtin.Slice.slicePlaces
  have h1 : (1 : Int) > 0 := by omega
  simp only [h1, if_true, Int.ediv_one]
  split <;> omega
theorem app_to {sl : Addr} {a n : Nat} {u : Tok} {Q : Int × Int × Nat → Shared → Prop} (hs : s.heap.IsSliceOf sl .none (.int a u) .none) (ha : a ≤ n) (h : Q (0, 1, a) s) :
    wpAny (model prog w) A (Builtin.Slice.sliceApplied (.ref sl) (pure (n : Int))) Q E s := by
  obtain ⟨os, hos, hcs, hds⟩ := id hs
  unfold Builtin.Slice.sliceApplied Builtin.Slice.sliceFields
  refine wpAny_bind (wpAny_bind (wpAny_field hos hds (x := .none) rfl (wpAny_bind (wpAny_field hos hds (x := .int a u) rfl (wpAny_bind (wpAny_field hos hds (x := .none) rfl (wpAny_pure ?_)))))))
  refine wpAny_bind (slicePart_none ?_)
  show wpAny _ _ (if ((1 : Int) == 0) = true then _ else _) _ _ s
  rw [if_neg (by decide)]
  refine wpAny_bind (slicePart_none (wpAny_bind (slicePart_int (wpAny_bind (wpAny_pure ?_)))))
  show wpAny _ _ (match Builtin.Slice.sliceAdjust none (some (a : Int)) 1 (n : Int) with | (lo, hi) => pure (lo, (1 : Int), Builtin.Slice.slicePlaces lo hi 1)) _ _ s
  rw [adj_to a n ha]
  show wpAny _ _ (pure ((0 : Int), (1 : Int), Builtin.Slice.slicePlaces 0 (a : Int) 1)) _ _ s
  rw [plc_to a]
  exact wpAny_pure h
theorem pick_to (xs : Array Value) (a : Nat) : ((List.range a).filterMap fun (k : Nat) => xs[((0 : Int) + (k : Int) * 1).toNat]?).toArray = (xs.toList.take a).toArray := by
  have e : (fun (k : Nat) => xs[((0 : Int) + (k : Int) * 1).toNat]?) = fun k => xs[0 + k]? := by
    funext k
    have : ((0 : Int) + (k : Int) * 1).toNat = 0 + k := by omega
    rw [this]
  rw [e]
  have := pick_run xs 0 a
  rw [List.filterMap_map] at this
  have e2 : ((fun x => xs[x]?) ∘ fun x => 0 + x) = fun k => xs[0 + k]? := rfl
  rw [e2] at this
  rw [this, List.drop_zero]
theorem item_to {t sl : Addr} {items : Array Value} {a : Nat} {u : Tok} {Q : Value → Shared → Prop} (ht : IsTup s.heap t items) (hs : s.heap.IsSliceOf sl .none (.int a u) .none) (ha : a < items.size)
    (h : Q (.ref s.heap.objs.size) { s with heap := s.heap.push { cls := .type "tuple", data := .seq (items.toList.take a).toArray } })
    (hsz : items.size ≤ sizeLine := by size_fits) : wpAny (model prog w) A (getItem (.ref t) (.ref sl)) Q E s := by
  have hdrop : sizeOk (.seq (items.toList.take a).toArray) := by
    show (items.toList.take a).toArray.size ≤ sizeLine
    rw [List.size_toArray, List.length_take, Array.length_toList]
    omega
  obtain ⟨os, hos, hcs, hds⟩ := id hs
  have hTs : s.TypeIs (.ref sl) "slice" := ⟨os, hos, hcs⟩
  unfold getItem
  try with_reducible refine wpAny_holding ?_
  first | refine wpAny_bind (wpAny_pure ?_) | skip
  refine wpAny_bind (wpAny_sequenceKey ht.typeIs (by decide) ?_)
  refine wpAny_bind (wpAny_callSpecial?_slot (name := Str.ofString "__getitem__") ht.typeIs slot_tuple_getitem
    (wpAny_call_entry slot_tuple_getitem ht.typeIs entry_tuple_getitem ?_ (args_tuple_getitem _ _)))
  show wpAny _ _ (Builtin.Tuple.tupleItemsOf (.ref t) >>= _) _ _ s
  refine wpAny_bind (tupleItemsOf_ ht ?_)
  refine wpAny_bind (wpAny_typeOf hTs ?_)
  rw [if_pos (by decide)]
  refine wpAny_bind (app_to hs (Nat.le_of_lt ha) ?_)
  have hno : ¬ (((0 : Int) == 0 && (1 : Int) == 1 && a == items.size) = true) := by
    have : (a == items.size) = false := by rw [beq_eq_false_iff_ne]; omega
    rw [this]; simp
  show wpAny _ _ (if ((0 : Int) == 0 && (1 : Int) == 1 && a == items.size) = true then _ else _) _ _ s
  rw [if_neg hno, pick_to items a]
  first
    | exact wpAny_bind (m := Builtin.Tuple.tupleExact _) (wpAny_newObj_type (wpAny_pure ⟨_, rfl, wpAny_pure h⟩) hdrop)
    | exact wpAny_bind (m := Builtin.Tuple.tupleExact _) (wpAny_newObj_type (wpAny_bind (wpAny_pure (wpAny_pure ⟨_, rfl, wpAny_pure h⟩))) hdrop)
    | exact wpAny_bind (wpAny_bind (m := Builtin.Tuple.tupleExact _) (wpAny_newObj_type (wpAny_pure (wpAny_pure ⟨_, rfl, wpAny_pure h⟩)) hdrop))
theorem cut_to {value slice : Expr} {t : Addr} {vs : List Value} {a : Int} {u : Tok} {n : Nat} {Q : Value → Shared → Prop}
    (F : Fr h₀ L s.heap m) (N : News h₀ L s.heap news) (hm : (t, tupO vs n) ∈ news) (h0 : 0 ≤ a) (ha : a < vs.length) (hz : vs.length ≤ 1000)
    (h : ∀ r h', Fr h₀ L h' m → News h₀ L h' ((r, tupO (vs.take a.toNat) 0) :: news) → Q (.ref r) { s with heap := h' })
    (hs : subscripted slice false (.ref t) (.ref s.heap.objs.size) = operate [.ref s.heap.objs.size, .ref t] (getItem (.ref t) (.ref s.heap.objs.size)))
    (hg : ∀ r, letTemporaryGo value (.ref t) r = pure ()) :
    wpAny (model prog w) A (subscriptTail value slice (.ref t) (.ref s.heap.objs.size)) Q E { s with heap := s.heap.push { cls := .type "slice", data := .fields #[.none, .int a u, .none] } } := by
  obtain ⟨k, rfl⟩ : ∃ k : Nat, a = k := ⟨a.toNat, by omega⟩
  have ht : IsTup s.heap t vs.toArray := N.isTup hm
  have ht' : IsTup (s.heap.push { cls := .type "slice", data := .fields #[.none, .int k u, .none] }) t vs.toArray := ht.keeps fun _ _ e => Heap.get?_push_of_some _ e
  refine subscriptTail_ops (s := { s with heap := s.heap.push { cls := .type "slice", data := .fields #[.none, .int k u, .none] } }) ht'.typeIs slot_tuple_getitem.lookup
    (item_to ht' (Heap.IsSliceOf.new ..) (by rw [List.size_toArray]; omega) ?_ (by rw [List.size_toArray, sizeLine_eq]; omega)) hs hg
  have N1 := News.push (F.push { cls := .type "slice", data := .fields #[.none, .int k u, .none] }) (N.grown fun _ _ e => Heap.get?_push_of_some _ e) (tupO (vs.take k) 0)
  exact h _ _ ((F.push _).push _) N1
theorem cut_from {value slice : Expr} {t : Addr} {vs : List Value} {a : Int} {u : Tok} {n : Nat} {Q : Value → Shared → Prop}
    (F : Fr h₀ L s.heap m) (N : News h₀ L s.heap news) (hm : (t, tupO vs n) ∈ news) (h0 : 1 ≤ a) (ha : a ≤ vs.length) (hz : vs.length ≤ 1000)
    (h : ∀ r h', Fr h₀ L h' m → News h₀ L h' ((r, tupO (vs.drop a.toNat) 0) :: news) → Q (.ref r) { s with heap := h' })
    (hs : subscripted slice false (.ref t) (.ref s.heap.objs.size) = operate [.ref s.heap.objs.size, .ref t] (getItem (.ref t) (.ref s.heap.objs.size)))
    (hg : ∀ r, letTemporaryGo value (.ref t) r = pure ()) :
    wpAny (model prog w) A (subscriptTail value slice (.ref t) (.ref s.heap.objs.size)) Q E { s with heap := s.heap.push { cls := .type "slice", data := .fields #[.int a u, .none, .none] } } := by
  obtain ⟨k, rfl⟩ : ∃ k : Nat, a = k := ⟨a.toNat, by omega⟩
  exact slice_tuple_from F N (N.isTup hm) (by omega) (by rw [List.size_toArray]; omega) (fun h' F' N' => h _ h' F' N') hs hg (by rw [List.size_toArray, sizeLine_eq]; omega)
theorem add_T {t b : Addr} {vs ws : List Value} {n1 n2 : Nat} {Q : Value → Shared → Prop} (F : Fr h₀ L s.heap m) (N : News h₀ L s.heap news) (ht : (t, tupO vs n1) ∈ news) (hb : (b, tupO ws n2) ∈ news) (hz : vs.length + ws.length ≤ 1000)
    (h : ∀ r n h', Fr h₀ L h' m → News h₀ L h' ((r, tupO (vs ++ ws) n) :: news) → Q (.ref r) { s with heap := h' }) :
    wpAny (model prog w) A (binaryOp .Add (.ref t) (.ref b)) Q E s := by
  refine add_tuples F N (N.isTup ht) (N.isTup hb) (fun e => ?_) (fun _ e => ?_) (fun _ _ h' F' N' => h _ 0 h' F' N') (by rw [sizeLine_eq]; omega)
  · subst e
    exact h b n2 s.heap F (News.dup N hb)
  · subst e
    exact h t n1 s.heap F (News.dup N (by rw [List.append_nil]; exact ht))
end
theorem EndJ.two {h₀ : Heap} {L : Addr} {s₁ : Shared} {I D r : Addr} {o oD oR : Obj} {x3 x4 x5 x6 : Addr × Obj} {rest : List (Addr × Obj)} {J : (Str → Option Value) → List (Addr × Obj) → Prop} {Q : Flow → Shared → Prop} {h' : Heap} {tk : Nat} {m' : Str → Option Value}
    (F : Fr h₀ L h' m') (N : News h₀ L h' ((D, oD) :: (r, oR) :: x3 :: x4 :: x5 :: x6 :: (I, o) :: rest)) (hn : ∀ p ∈ rest, p.1 ≠ I) (c1 : oD.cls ≠ o.cls) (c2 : oR.cls ≠ o.cls) (hj : J m' ((D, oD) :: (r, oR) :: rest)) : EndJ h₀ L s₁ I o J Q .next { s₁ with heap := h', toks := tk } := by
  have mI : (I, o) ∈ (D, oD) :: (r, oR) :: x3 :: x4 :: x5 :: x6 :: (I, o) :: rest := by simp
  refine EndJ.next F N _ mI (fun p hp => ?_) (fun p hp => ?_) hj
  · rcases List.mem_cons.mp hp with rfl | hp
    · exact .head _
    rcases List.mem_cons.mp hp with rfl | hp
    · exact .tail _ (.head _)
    · exact .tail _ (.tail _ (.tail _ (.tail _ (.tail _ (.tail _ (.tail _ hp))))))
  · rcases List.mem_cons.mp hp with rfl | hp
    · exact News.ne_of_cls N (.head _) mI c1
    rcases List.mem_cons.mp hp with rfl | hp
    · exact News.ne_of_cls N (.tail _ (.head _)) mI c2
    · exact hn p hp
theorem small_down (n : Nat) (h : n ≤ 1000) : Builtin.Range.small ((n : Int) - 1) (-1) (-1) = true := by
  have e : Builtin.Range.rangeSize ((n : Int) - 1) (-1) (-1) = n := by
    unfold Builtin.Range.rangeSize
    rw [if_neg (by decide)]
    split
    · rw [show -(-1 : Int) = 1 from rfl, Int.ediv_one]; omega
    · omega
  unfold Builtin.Range.small
  rw [e]
  simp [Builtin.Range.rangeFitsLong]
  omega
theorem size_down (n : Nat) : Builtin.Range.rangeSize ((n : Int) - 1) (-1) (-1) = n := by
    unfold Builtin.Range.rangeSize
    rw [if_neg (by decide)]
    split
    · rw [show -(-1 : Int) = 1 from rfl, Int.ediv_one]; omega
    · omega
end
section
section
variable {prog : Program} {w : World} {A : Around} {E : Value → Shared → Prop} {s : Shared}
theorem eqB_si {a : Str} {t : Tok} {b : Int} {u : Tok} {Q : Bool → Shared → Prop} (h : Q false s) : wpAny (model prog w) A (eqBool (.str a t) (.int b u)) Q E s := by
  unfold eqBool
  have e : (Value.str a t == Value.int b u) = false := by simp
  simp only [e]
  exact wpAny_bind (EqMixed.eq_str_int (wpAny_truthy_bool h))
theorem eqB_is {a : Int} {t : Tok} {b : Str} {u : Tok} {Q : Bool → Shared → Prop} (h : Q false s) : wpAny (model prog w) A (eqBool (.int a t) (.str b u)) Q E s := by
  unfold eqBool
  have e : (Value.int a t == Value.str b u) = false := by simp
  simp only [e]
  exact wpAny_bind (EqMixed.eq_int_str (wpAny_truthy_bool h))
end
abbrev Ky := Int ⊕ Str
def isKy : Ky → Value → Bool
  | .inl i, v => Value.isInt i v
  | .inr x, v => Value.isStrOf x v
def mixKind (prog : Program) (w : World) : KeyKind prog w Ky where
  is := isKy
  hash := fun k => match k with | .inl i => hashInt i | .inr x => hashStr w x
  inj := fun v a b ha hb => by
    rcases a with a | a <;> rcases b with b | b
    · exact congrArg _ (Value.isInt_inj v a b ha hb)
    · obtain ⟨t, rfl⟩ := Value.isInt_shape (k := a) ha; cases hb
    · obtain ⟨t, rfl⟩ := Value.isInt_shape (k := b) hb; cases ha
    · exact congrArg _ (Value.isStrOf_inj v a b ha hb)
  byValue := fun k v h => by
    rcases k with k | k
    · obtain ⟨t, rfl⟩ := Value.isInt_shape (k := k) h; rfl
    · obtain ⟨t, rfl⟩ := Value.isStrOf_shape (x := k) h; rfl
  pyHash := fun {A E s k v Q} hv h => by
    rcases k with k | k
    · obtain ⟨t, rfl⟩ := Value.isInt_shape (k := k) hv; exact wpAny_pyHash_int h
    · obtain ⟨t, rfl⟩ := Value.isStrOf_shape (x := k) hv; exact wpAny_pyHash_str h
  eqBool := fun {A E s a b u v Q} hu hv h => by
    rcases a with a | a <;> rcases b with b | b
    · obtain ⟨t, rfl⟩ := Value.isInt_shape (k := a) hu
      obtain ⟨t', rfl⟩ := Value.isInt_shape (k := b) hv
      have e : decide ((Sum.inl a : Ky) = .inl b) = decide (a = b) := by simp
      rw [e] at h
      exact wpAny_eqBool_int h
    · obtain ⟨t, rfl⟩ := Value.isInt_shape (k := a) hu
      obtain ⟨t', rfl⟩ := Value.isStrOf_shape (x := b) hv
      have e : decide ((Sum.inl a : Ky) = .inr b) = false := by simp
      rw [e] at h
      exact eqB_is h
    · obtain ⟨t, rfl⟩ := Value.isStrOf_shape (x := a) hu
      obtain ⟨t', rfl⟩ := Value.isInt_shape (k := b) hv
      have e : decide ((Sum.inr a : Ky) = .inl b) = false := by simp
      rw [e] at h
      exact eqB_si h
    · obtain ⟨t, rfl⟩ := Value.isStrOf_shape (x := a) hu
      obtain ⟨t', rfl⟩ := Value.isStrOf_shape (x := b) hv
      have e : decide ((Sum.inr a : Ky) = .inr b) = decide (a = b) := by simp
      rw [e] at h
      exact wpAny_eqBool_str h
  «strs» := fun k x t v h => by
    rcases k with k | k
    · cases h
    · obtain ⟨u, hu⟩ := Value.isStrOf_shape (x := k) (v := .str x t) h
      injection hu with hx
      subst hx
      cases v <;> rfl
theorem mix_int (prog : Program) (w : World) (i : Int) (t : Tok) : (mixKind prog w).is (.inl i) (.int i t) = true := by show Value.isInt i (.int i t) = true; simp [Value.isInt]
theorem mix_str (prog : Program) (w : World) (x : Str) (t : Tok) : (mixKind prog w).is (.inr x) (.str x t) = true := by show Value.isStrOf x (.str x t) = true; simp [Value.isStrOf]
theorem mix_nil {prog : Program} {w : World} {o : Obj} (h : o.IsDictOf (intKind prog w) []) : o.IsDictOf (mixKind prog w) [] := by
  obtain ⟨es, ep, h1, h2, h3, h4, h5⟩ := h
  have e : es.toList = [] := by
    cases q : es.toList with
    | nil => rfl
    | cons x r => rw [q] at h4; exact absurd h4 (by intro z; cases z)
  have e2 : es = #[] := by rw [← Array.toArray_toList (xs := es), e]
  subst e2
  exact ⟨#[], ep, h1, h2, fun e he => by simp at he, by first | trivial | constructor | exact .nil, .nil⟩
end
section
abbrev ent (h : Int) (name : String) (t : Tok) (v : Value) : DictEntry := ⟨h, .str (Str.ofString name) t, v⟩
/-- the dict of a Heap -/
abbrev hpO (h1 h2 h3 h4 h5 : Int) (t1 t2 t3 t4 t5 : Tok) (kd : Addr) (g : Int) (tg t0 : Tok) (n : Nat) : Obj :=
  dictOf [ent h1 "kept" t1 (.ref kd), ent h2 "given" t2 (.int g tg), ent h3 "here" t3 (.int 0 t0), ent h4 "watch" t4 .none, ent h5 "collector" t5 .none] n
abbrev kpO (h1 h2 h3 : Int) (t1 t2 t3 : Tok) (kind : Str) (tk : Tok) (c : Value) (wh : Value) (n : Nat) : Obj :=
  dictOf [ent h1 "kind" t1 (.str kind tk), ent h2 "content" t2 c, ent h3 "where" t3 wh] n
structure HeapAt (w : World) (news : List (Addr × Obj)) (hp kd : Addr) (g : Int) (kvs : List (Ky × Value)) : Prop where
  lo : (kd == sysModules) = false
  len : kvs.length ≤ 1000
  of : ∃ hx h1 h2 h3 h4 h5 t1 t2 t3 t4 t5 tg t0 n ko, (hp, instObj 244 hx) ∈ news ∧ (hx, hpO h1 h2 h3 h4 h5 t1 t2 t3 t4 t5 kd g tg t0 n) ∈ news ∧ (kd, ko) ∈ news ∧ ko.IsDictOf (mixKind Prg w) kvs
def KeptAt (news : List (Addr × Obj)) (k dk : Addr) (kind : Str) (c : Value) : Prop :=
  ∃ h1 h2 h3 t1 t2 t3 tk wh n, (k, instObj 106 dk) ∈ news ∧ (dk, kpO h1 h2 h3 t1 t2 t3 kind tk c wh n) ∈ news
inductive KObj | row (cells : List PV) | var (v : PV) | chan
structure RowRep (news : List (Addr × Obj)) (vs : List Value) (cells : List PV) : Prop where
  len : vs.length = cells.length
  item : ∀ {i : Nat} {v : Value}, vs[i]? = some v → Rep news (cells.getD i (.int 0)) v
theorem RowRep.up {news news' : List (Addr × Obj)} {vs : List Value} {cells : List PV} (H : RowRep news vs cells) (hs : ∀ p ∈ news, p ∈ news') : RowRep news' vs cells := ⟨H.len, fun e => (H.item e).up hs⟩
theorem RowRep.mono {news news' : List (Addr × Obj)} {vs : List Value} {cells : List PV} (H : RowRep news vs cells) (hs : ∀ a o, (a, o) ∈ news → o.cls = .type "tuple" → (a, o) ∈ news') : RowRep news' vs cells := ⟨H.len, fun e => (H.item e).mono hs⟩
theorem RowRep.set {news : List (Addr × Obj)} {vs : List Value} {cells : List PV} (H : RowRep news vs cells) {k : Nat} {v : Value} {q : PV} (hq : Rep news q v) (hk : k < cells.length) : RowRep news (vs.set k v) (cells.set k q) := by
  refine ⟨by rw [List.length_set, List.length_set, H.len], fun {i u} e => ?_⟩
  by_cases h : i = k
  · subst h
    rw [List.getElem?_set_self (by rw [H.len]; exact hk)] at e
    cases e
    rw [List.getD_eq_getElem?_getD, List.getElem?_set_self hk]
    exact hq
  · rw [List.getElem?_set_ne (Ne.symm h)] at e
    rw [List.getD_eq_getElem?_getD, List.getElem?_set_ne (Ne.symm h), ← List.getD_eq_getElem?_getD]
    exact H.item e
inductive KeptRep (news : List (Addr × Obj)) : Value → KObj → Prop
  | row {k dk lr : Addr} {vs : List Value} {n : Nat} {cells : List PV} : KeptAt news k dk (Str.ofString "row") (.ref lr) → (lr, listOf vs.toArray n) ∈ news → RowRep news vs cells → cells.length ≤ 900 → KeptRep news (.ref k) (.row cells)
  | var {k dk : Addr} {v : Value} {pv : PV} : KeptAt news k dk (Str.ofString "var") v → Rep news pv v → KeptRep news (.ref k) (.var pv)
  | chan {k dk : Addr} {c : Value} : KeptAt news k dk (Str.ofString "chan") c → KeptRep news (.ref k) .chan
def lookS (S : List (Ky × KObj)) (k : Ky) : Option KObj := (S.find? (fun p => p.1 == k)).map (·.2)
def FlatLoc (news : List (Addr × Obj)) (v : Value) (key : Ky) (path : List Int) : Prop :=
  ∃ l p n n' num vs, v = .ref l ∧ (l, tupO [num, .ref p] n) ∈ news ∧ isKy key num = true ∧ (p, tupO vs n') ∈ news ∧ Ints vs path ∧ path.length ≤ 800
theorem Ints.le {vs : List Value} {is : List Int} (h : Ints vs is) (hz : is.length ≤ 800) : vs.length ≤ 800 := by rw [h.1]; exact hz
theorem Ints.nil {vs : List Value} (h : Ints vs []) : vs = [] := List.eq_nil_of_length_eq_zero h.1
theorem Ints.cons {vs : List Value} {i : Int} {r : List Int} (h : Ints vs (i :: r)) : ∃ t us, vs = .int i t :: us ∧ Ints us r := by
  cases vs with
  | nil => cases h.1
  | cons v us =>
    obtain ⟨t, ht⟩ := h.2 0 i rfl
    cases ht
    exact ⟨t, us, rfl, by have := h.1; simpa using this, fun n j hn => h.2 (n + 1) j hn⟩
theorem seq0 (v : Value) (us : List Value) : seqIndex? 0 (v :: us).length = some 0 := by
  simp only [seqIndex?, show ¬ ((0 : Int) < 0) by decide, if_false]
  rw [if_pos (by simp)]; rfl
inductive LocRep (news : List (Addr × Obj)) : Value → Ky → List Int → Prop
  | flat {v : Value} {key : Ky} {path : List Int} : FlatLoc news v key path → LocRep news v key path
  | nest {l nl p : Addr} {n n' : Nat} {vs : List Value} {key : Ky} {pre path : List Int} : (l, tupO [.ref nl, .ref p] n) ∈ news → FlatLoc news (.ref nl) key pre → (p, tupO vs n') ∈ news → Ints vs path → (pre ++ path).length ≤ 800 → LocRep news (.ref l) key (pre ++ path)
theorem FlatLoc.up {news news' : List (Addr × Obj)} {v : Value} {key : Ky} {path : List Int} (R : FlatLoc news v key path) (hs : ∀ p ∈ news, p ∈ news') : FlatLoc news' v key path := by
  obtain ⟨l, p, n, n', num, vs, h1, h2, h3, h4, h5, h6⟩ := R
  exact ⟨l, p, n, n', num, vs, h1, hs _ h2, h3, hs _ h4, h5, h6⟩
theorem Ints.app {vs us : List Value} {is js : List Int} (h : Ints vs is) (h' : Ints us js) : Ints (vs ++ us) (is ++ js) := by
  refine ⟨by rw [List.length_append, List.length_append, h.1, h'.1], fun n i hn => ?_⟩
  by_cases q : n < is.length
  · rw [List.getElem?_append_left q] at hn
    rw [List.getElem?_append_left (by rw [h.1]; exact q)]
    exact h.2 n i hn
  · rw [List.getElem?_append_right (by omega)] at hn
    rw [List.getElem?_append_right (by rw [h.1]; omega), h.1]
    exact h'.2 _ i hn
theorem Ints.drop {vs : List Value} {is : List Int} (h : Ints vs is) (k : Nat) : Ints (vs.drop k) (is.drop k) := by
  refine ⟨by rw [List.length_drop, List.length_drop, h.1], fun n i hn => ?_⟩
  rw [List.getElem?_drop] at hn ⊢
  exact h.2 _ i hn
theorem HeapAt.up {w : World} {news news' : List (Addr × Obj)} {hp kd : Addr} {g : Int} {kvs : List (Ky × Value)} (H : HeapAt w news hp kd g kvs) (hs : ∀ p ∈ news, p ∈ news') : HeapAt w news' hp kd g kvs := by
  obtain ⟨lo, hlen, hx, h1, h2, h3, h4, h5, t1, t2, t3, t4, t5, tg, t0, n, ko, m1, m2, m3, hd⟩ := H
  exact ⟨lo, hlen, hx, h1, h2, h3, h4, h5, t1, t2, t3, t4, t5, tg, t0, n, ko, hs _ m1, hs _ m2, hs _ m3, hd⟩
theorem KeptAt.up {news news' : List (Addr × Obj)} {k dk : Addr} {kind : Str} {c : Value} (H : KeptAt news k dk kind c) (hs : ∀ p ∈ news, p ∈ news') : KeptAt news' k dk kind c := by
  obtain ⟨h1, h2, h3, t1, t2, t3, tk, wh, n, m1, m2⟩ := H
  exact ⟨h1, h2, h3, t1, t2, t3, tk, wh, n, hs _ m1, hs _ m2⟩
theorem KeptRep.up {news news' : List (Addr × Obj)} {v : Value} {o : KObj} (H : KeptRep news v o) (hs : ∀ p ∈ news, p ∈ news') : KeptRep news' v o := by
  cases H with
  | row h1 h2 h3 h4 => exact .row (h1.up hs) (hs _ h2) (h3.up hs) h4
  | var h1 h2 => exact .var (h1.up hs) (h2.up hs)
  | chan h1 => exact .chan (h1.up hs)
theorem LocRep.up {news news' : List (Addr × Obj)} {v : Value} {key : Ky} {path : List Int} (H : LocRep news v key path) (hs : ∀ p ∈ news, p ∈ news') : LocRep news' v key path := by
  cases H with
  | flat h => exact .flat (h.up hs)
  | nest h1 h2 h3 h4 h5 => exact .nest (hs _ h1) (h2.up hs) (hs _ h3) h4 h5
def KObjAt (news : List (Addr × Obj)) (kvs : List (Ky × Value)) (key : Ky) (ko : Option KObj) : Prop :=
  match ko with
  | none => valueAt kvs key = none
  | some o => ∃ kv, valueAt kvs key = some kv ∧ KeptRep news kv o
theorem KObjAt.up {news news' : List (Addr × Obj)} {kvs : List (Ky × Value)} {key : Ky} {ko : Option KObj} (H : KObjAt news kvs key ko) (hs : ∀ p ∈ news, p ∈ news') : KObjAt news' kvs key ko := by
  cases ko with
  | none => exact H
  | some o => obtain ⟨kv, h1, h2⟩ := H; exact ⟨kv, h1, h2.up hs⟩
def peekP : Option KObj → List Int → Except Str PV
  | none, _ => .error (Str.ofString "escaped")
  | some (.row _), [] => .error (Str.ofString "place")
  | some (.row cells), i :: r => if 0 ≤ i ∧ i < cells.length then (match (cells[i.toNat]?).bind (PV.at · r) with | some q => .ok q | none => .error (Str.ofString "place")) else .error (Str.ofString "place")
  | some (.var v), path => match v.at path with | some q => .ok q | none => .error (Str.ofString "place")
  | some .chan, _ => .error (Str.ofString "place")
theorem peek_cellno {cells : List PV} {vs : List Value} {news : List (Addr × Obj)} {path : List Int} (hR : RowRep news vs cells) (h : ∀ i r, path = i :: r → i < 0 ∨ (vs.length : Int) ≤ i) : peekP (some (.row cells)) path = .error (Str.ofString "place") := by
  cases path with
  | nil => rfl
  | cons i r =>
    have := h i r rfl
    rw [hR.len] at this
    show (if 0 ≤ i ∧ i < cells.length then _ else _) = _
    rw [if_neg (by omega)]
theorem peek_rowat {cells : List PV} {vs : List Value} {news : List (Addr × Obj)} {path r : List Int} {i : Int} (hR : RowRep news vs cells) (e : path = i :: r) (h0 : 0 ≤ i) (h1 : i < vs.length) :
    peekP (some (.row cells)) path = (match (cells.getD i.toNat (.int 0)).at (path.drop (Int.toNat 1)) with | some q => .ok q | none => .error (Str.ofString "place")) := by
  subst e
  rw [hR.len] at h1
  show (if 0 ≤ i ∧ i < cells.length then _ else _) = _
  rw [if_pos ⟨h0, h1⟩, List.getElem?_eq_getElem (by omega), List.getD_eq_getElem?_getD, List.getElem?_eq_getElem (by omega)]
  rfl
theorem peek_rowno {cells : List PV} {vs : List Value} {news : List (Addr × Obj)} {path r : List Int} {i : Int} (hR : RowRep news vs cells) (e : path = i :: r) (h0 : 0 ≤ i) (h1 : i < vs.length) (h : (cells.getD i.toNat (.int 0)).at (path.drop (Int.toNat 1)) = none) : peekP (some (.row cells)) path = .error (Str.ofString "place") := by
  rw [peek_rowat hR e h0 h1, h]
theorem peek_rowok {cells : List PV} {vs : List Value} {news : List (Addr × Obj)} {path r : List Int} {i : Int} {q : PV} (hR : RowRep news vs cells) (e : path = i :: r) (h0 : 0 ≤ i) (h1 : i < vs.length) (h : (cells.getD i.toNat (.int 0)).at (path.drop (Int.toNat 1)) = some q) : peekP (some (.row cells)) path = .ok q := by
  rw [peek_rowat hR e h0 h1, h]
theorem peek_row_some {cells : List PV} {vs : List Value} {news : List (Addr × Obj)} {path r : List Int} {i : Int} {old : PV} (hR : RowRep news vs cells) (e : path = i :: r) (h0 : 0 ≤ i) (h1 : i < vs.length) (hok : peekP (some (.row cells)) path = .ok old) : ∃ q, (cells.getD i.toNat (.int 0)).at (path.drop (Int.toNat 1)) = some q := by
  rw [peek_rowat hR e h0 h1] at hok
  cases q : (cells.getD i.toNat (.int 0)).at (path.drop (Int.toNat 1)) with
  | none => rw [q] at hok; cases hok
  | some x => exact ⟨x, rfl⟩
theorem peek_varno {v : PV} {path : List Int} (h : v.at path = none) : peekP (some (.var v)) path = .error (Str.ofString "place") := by
  show (match v.at path with | some q => Except.ok q | none => Except.error (Str.ofString "place")) = _
  rw [h]
theorem peek_varok {v q : PV} {path : List Int} (h : v.at path = some q) : peekP (some (.var v)) path = .ok q := by
  show (match v.at path with | some q => Except.ok q | none => Except.error (Str.ofString "place")) = _
  rw [h]
theorem tup_cons {x : Addr × Obj} {ex : List (Addr × Obj)} (hx : x.2.cls = .type "tuple") (h : ∀ p ∈ ex, p.2.cls = .type "tuple") : ∀ p ∈ x :: ex, p.2.cls = .type "tuple" := fun p hp => by
  rcases List.mem_cons.mp hp with rfl | hp
  · exact hx
  · exact h p hp
theorem led_assoc (ex' ex1 ex2 z : List (Addr × Obj)) (x y : Addr × Obj) : ex' ++ x :: y :: (ex1 ++ (ex2 ++ z)) = (ex' ++ x :: y :: (ex1 ++ ex2)) ++ z := by simp
theorem tup_all {ex' ex1 ex2 : List (Addr × Obj)} {x y : Addr × Obj} (h1 : ∀ p ∈ ex', p.2.cls = .type "tuple") (hx : x.2.cls = .type "tuple") (hy : y.2.cls = .type "tuple") (h2 : ∀ p ∈ ex1, p.2.cls = .type "tuple") (h3 : ∀ p ∈ ex2, p.2.cls = .type "tuple") : ∀ p ∈ ex' ++ x :: y :: (ex1 ++ ex2), p.2.cls = .type "tuple" := fun p hp => by
  rcases List.mem_append.mp hp with h | h
  · exact h1 p h
  rcases List.mem_cons.mp h with rfl | h
  · exact hx
  rcases List.mem_cons.mp h with rfl | h
  · exact hy
  rcases List.mem_append.mp h with h | h
  · exact h2 p h
  · exact h3 p h
theorem tup_led {h₀ h : Heap} {L : Addr} {ex' ex1 ex2 z : List (Addr × Obj)} {x y : Addr × Obj} (_N : News h₀ L h ((ex' ++ x :: y :: (ex1 ++ ex2)) ++ z)) (h1 : ∀ p ∈ ex', p.2.cls = .type "tuple") (hx : x.2.cls = .type "tuple") (hy : y.2.cls = .type "tuple") (h2 : ∀ p ∈ ex1, p.2.cls = .type "tuple") (h3 : ∀ p ∈ ex2, p.2.cls = .type "tuple") : ∀ p ∈ ex' ++ x :: y :: (ex1 ++ ex2), p.2.cls = .type "tuple" := tup_all h1 hx hy h2 h3
theorem put_content (a1 a2 a3 h : Int) (b1 b2 b3 tv : Tok) (kind : Str) (vv wh u key : Value) (n : Nat) :
    dictOf (putL (Str.ofString "content") h key u [ent a1 "kind" b1 (.str kind tv), ent a2 "content" b2 vv, ent a3 "where" b3 wh]) (putN (Str.ofString "content") [ent a1 "kind" b1 (.str kind tv), ent a2 "content" b2 vv, ent a3 "where" b3 wh] n) =
      kpO a1 a2 a3 b1 b2 b3 kind tv u wh (putN (Str.ofString "content") [ent a1 "kind" b1 (.str kind tv), ent a2 "content" b2 vv, ent a3 "where" b3 wh] n) := rfl
theorem led_assoc1 (ex' ex1 ex2 z : List (Addr × Obj)) (x : Addr × Obj) : ex' ++ x :: (ex1 ++ (ex2 ++ z)) = (ex' ++ x :: (ex1 ++ ex2)) ++ z := by simp
theorem tup_led1 {h₀ h : Heap} {L : Addr} {ex' ex1 ex2 z : List (Addr × Obj)} {x : Addr × Obj} (_N : News h₀ L h ((ex' ++ x :: (ex1 ++ ex2)) ++ z)) (h1 : ∀ p ∈ ex', p.2.cls = .type "tuple") (hx : x.2.cls = .type "tuple") (h2 : ∀ p ∈ ex1, p.2.cls = .type "tuple") (h3 : ∀ p ∈ ex2, p.2.cls = .type "tuple") : ∀ p ∈ ex' ++ x :: (ex1 ++ ex2), p.2.cls = .type "tuple" := fun p hp => by
  rcases List.mem_append.mp hp with h | h
  · exact h1 p h
  rcases List.mem_cons.mp h with rfl | h
  · exact hx
  rcases List.mem_append.mp h with h | h
  · exact h2 p h
  · exact h3 p h
theorem News.front {h₀ h : Heap} {L : Addr} {pre news : List (Addr × Obj)} {x : Addr × Obj} (N : News h₀ L h (pre ++ x :: news)) : News h₀ L h (x :: (pre ++ news)) := News.perm N fun p hp => by
  rcases List.mem_cons.mp hp with rfl | hp
  · exact List.mem_append_right _ (.head _)
  rcases List.mem_append.mp hp with h | h
  · exact List.mem_append_left _ h
  · exact List.mem_append_right _ (.tail _ h)
theorem led_apart {h₀ h : Heap} {L : Addr} {pre news : List (Addr × Obj)} {lr : Addr} {lo : Obj} (N : News h₀ L h (pre ++ (lr, lo) :: news)) (ht : ∀ p ∈ pre, p.2.cls = .type "tuple") (hc : lo.cls ≠ .type "tuple") (hap : ∀ p ∈ news, p.1 ≠ lr) : ∀ p ∈ pre ++ news, p.1 ≠ lr := fun p hp => by
  rcases List.mem_append.mp hp with h | h
  · exact News.ne_of_cls N (List.mem_append_left _ h) (List.mem_append_right _ (.head _)) (by rw [ht p h]; exact fun q => hc q.symm)
  · exact hap p h
def KeyVal (key : Ky) (num : Value) : Prop := isKy key num = true
theorem isKy_shape {key : Ky} {num : Value} (h : isKy key num = true) : (∃ i t, key = .inl i ∧ num = .int i t) ∨ (∃ x t, key = .inr x ∧ num = .str x t) := by
  rcases key with i | x
  · obtain ⟨t, rfl⟩ := Value.isInt_shape (k := i) h
    exact .inl ⟨i, t, rfl, rfl⟩
  · obtain ⟨t, rfl⟩ := Value.isStrOf_shape (x := x) h
    exact .inr ⟨x, t, rfl, rfl⟩
section
variable {prog : Program} {w : World} {A : Around} {E : Value → Shared → Prop} {s : Shared} {h₀ : Heap} {L : Addr} {m : Str → Option Value} {news : List (Addr × Obj)}
theorem eq_nil {l b : Addr} {vs : List Value} {n n2 : Nat} {Q : Value → Shared → Prop} (N : News h₀ L s.heap news) (hl : (l, tupO vs n) ∈ news) (hb : (b, tupO [] n2) ∈ news) (hu : A.units < cLine) (h : Q (.bool vs.isEmpty) s) :
    wpAny (model prog w) A (compareOp .Eq (.ref l) (.ref b)) Q E s := by
  have h1 : s.heap.IsTuple l vs.toArray := ⟨_, N.get hl, rfl, _, rfl⟩
  have h2 : s.heap.IsTuple b #[] := ⟨_, N.get hb, rfl, _, rfl⟩
  refine SeqAt.eq_tupleAt (e := fun _ => true) h1 h2 hu (fun j a b => absurd b (Nat.not_lt_zero _)) ?_
  have e : ((List.range (min vs.toArray.size (#[] : Array Value).size)).all (fun _ => true) && vs.toArray.size == (#[] : Array Value).size) = vs.isEmpty := by
    cases vs <;> simp
  rw [e]
  exact h
theorem mix_out {d : Addr} {o : Obj} {kvs : List (Ky × Value)} {k : Ky} {key : Value} {Q : Value → Shared → Prop} (N : News h₀ L s.heap news) (hp : (d, o) ∈ news) (hd : o.IsDictOf (mixKind prog w) kvs) (lo : (d == sysModules) = false) (hkey : isKy k key = true) (hl : valueAt kvs k = none) (h : Q (.bool true) { s with toks := s.toks + 1 }) :
    wpAny (model prog w) A (compareOp .NotIn key (.ref d)) Q E s := kdg_notin N hp hd lo (show (mixKind prog w).is k key = true from hkey) false (by rw [hl]; rfl) h
theorem mix_in {d : Addr} {o : Obj} {kvs : List (Ky × Value)} {k : Ky} {key v : Value} {Q : Value → Shared → Prop} (N : News h₀ L s.heap news) (hp : (d, o) ∈ news) (hd : o.IsDictOf (mixKind prog w) kvs) (lo : (d == sysModules) = false) (hkey : isKy k key = true) (hl : valueAt kvs k = some v) (h : Q (.bool false) { s with toks := s.toks + 1 }) :
    wpAny (model prog w) A (compareOp .NotIn key (.ref d)) Q E s := kdg_notin N hp hd lo (show (mixKind prog w).is k key = true from hkey) true (by rw [hl]; rfl) h
theorem mix_item {value slice : Expr} {d : Addr} {o : Obj} {kvs : List (Ky × Value)} {k : Ky} {key v : Value} {Q : Value → Shared → Prop} (N : News h₀ L s.heap news) (hp : (d, o) ∈ news) (hd : o.IsDictOf (mixKind prog w) kvs) (hkey : isKy k key = true) (hl : valueAt kvs k = some v) (h : Q v { s with toks := s.toks + 1 })
    (hs : subscripted slice false (.ref d) key = operate [.ref d, key] (getItem (.ref d) key)) (hg : ∀ r, letTemporaryGo value (.ref d) r = pure ()) :
    wpAny (model prog w) A (subscriptTail value slice (.ref d) key) Q E s := kda_item N hp hd (show (mixKind prog w).is k key = true from hkey) hl h hs hg
theorem set_at {lr : Addr} {vs : List Value} {n : Nat} {k : Int} {t : Tok} {x : Value} {all rest : List (Addr × Obj)} {Q : Unit → Shared → Prop} (F : Fr h₀ L s.heap m) (N : News h₀ L s.heap all) (hm : (lr, listOf vs.toArray n) ∈ all) (h0 : 0 ≤ k) (h1 : k < vs.length) (hz : vs.length ≤ 900)
    (hs : ∀ p ∈ rest, p ∈ all) (hn : ∀ p ∈ rest, p.1 ≠ lr) (h : ∀ h', Fr h₀ L h' m → News h₀ L h' ((lr, listOf (vs.set k.toNat x).toArray n) :: rest) → Q () { s with heap := h' }) :
    wpAny (model prog w) A (setItem (.ref lr) (.int k t) x) Q E s := by
  have z := N _ hm
  refine ki_setAt z.1 h0 (by omega) (by rw [List.size_toArray]; exact h1) (h _ (F.change (Heap.SameBut.update ..) z.2.1 z.2.2) fun p hp => ?_)
  rcases List.mem_cons.mp hp with rfl | hp
  · refine ⟨?_, z.2⟩
    have q := PySem.IsL.update z.1 (fun a => a.setIfInBounds k.toNat x)
    have e : vs.toArray.setIfInBounds k.toNat x = (vs.set k.toNat x).toArray := List.setIfInBounds_toArray ..
    dsimp only at q
    rw [e, if_pos (by simp)] at q
    exact q
  · exact ⟨(Heap.get?_update_other _ _ (Ne.symm (hn p hp))).trans (N p (hs p hp)).1, (N p (hs p hp)).2⟩
theorem len_L {l : Addr} {vs : List Value} {n : Nat} {Q : Value → Shared → Prop} (N : News h₀ L s.heap news) (hl : (l, listOf vs.toArray n) ∈ news) (hz : vs.length ≤ 1000) (h : Q (.int vs.length (s.toks + 1)) { s with toks := s.toks + 1 + 1 }) :
    wpAny (model prog w) A (call (.builtin "len") [.ref l]) Q E s := kun_lenL (N.isList hl) (by simp) (by omega) h
end
end
section
/-- the end of a function in which something may have been caught: the ground below may have turned -/
def LeaveT (A₀ : Around) (base : Heap) (env : Env) (outer : List Env) (h₀ : Heap) (L : Addr) (m : Str → Option Value) (g : Heap) (R : Result → Shared → Prop) (v : Value) (s' : Shared) : Prop :=
  ∃ g' L' m' news', KtsTurn ((env :: outer).filterMap (·.frame)) g g' ∧ Fr g' L' s'.heap m' ∧ News g' L' s'.heap news' ∧
    ∀ h₀', KtsTurn (outer.filterMap (·.frame)) h₀ h₀' → Fr h₀' L s'.heap m → News h₀' L s'.heap news' → Below A₀ base outer h₀' → KtsDicts (outer.filterMap (·.frame)) h₀' → R (.ok (.ret v)) s'
theorem LeaveT.intro {A₀ : Around} {base : Heap} {env : Env} {outer : List Env} {h₀ : Heap} {L : Addr} {m : Str → Option Value} {g : Heap} {R : Result → Shared → Prop} {v : Value} {s' : Shared} {g' : Heap} {L' : Addr} {m' : Str → Option Value} {news' : List (Addr × Obj)}
    (T : KtsTurn ((env :: outer).filterMap (·.frame)) g g') (F : Fr g' L' s'.heap m') (N : News g' L' s'.heap news')
    (k : ∀ h₀', KtsTurn (outer.filterMap (·.frame)) h₀ h₀' → Fr h₀' L s'.heap m → News h₀' L s'.heap news' → Below A₀ base outer h₀' → KtsDicts (outer.filterMap (·.frame)) h₀' → R (.ok (.ret v)) s') : LeaveT A₀ base env outer h₀ L m g R v s' := ⟨g', L', m', news', T, F, N, k⟩
section
variable {prog : Program} {w : World} {A₀ A : Around} {s : Shared} {base h₀ : Heap} {env : Env} {outer : List Env} {L a : Addr} {m : Str → Option Value} {news : List (Addr × Obj)} {R : Result → Shared → Prop}
theorem mem_frames {b : Addr} (hf : env.frame = some L) (hm : b ∈ (env :: outer).filterMap (·.frame)) : b = L ∨ b ∈ outer.filterMap (·.frame) := by
  rw [List.filterMap_cons, hf] at hm
  exact List.mem_cons.mp hm
theorem turn_back {h : Heap} {g' : Heap} {L' : Addr} {m' : Str → Option Value} {news' : List (Addr × Obj)} (B : Below A₀ base outer h₀) (D : KtsDicts (outer.filterMap (·.frame)) h₀) (F : Fr h₀ L s.heap m) (N : News h₀ L s.heap news) (hf : env.frame = some L)
    (T' : KtsTurn ((env :: outer).filterMap (·.frame)) (hideAll s.heap (news.map (·.1))) g') (F' : Fr g' L' h m') (N' : News g' L' h news') :
    ∃ h₀', KtsTurn (outer.filterMap (·.frame)) h₀ h₀' ∧ Fr h₀' L h m ∧ News h₀' L h news' ∧ Below A₀ base outer h₀' ∧ KtsDicts (outer.filterMap (·.frame)) h₀' := by
  have nm : ∀ b o, h₀.get? b = some o → b ∉ news.map (·.1) := fun b o e q => by
    obtain ⟨p, hp, rfl⟩ := List.mem_map.mp q
    rw [(N p hp).2.2] at e; cases e
  have st : h₀.StaysIn (hideAll s.heap (news.map (·.1))) := fun b o e => hideAll_get _ (F.keep b o e) (nm b o e)
  obtain ⟨oL, es, ep, hL, hLd, hLk, hLf⟩ := F.ns
  have nL : L ∉ news.map (·.1) := fun q => by
    obtain ⟨p, hp, e⟩ := List.mem_map.mp q
    exact (N p hp).2.1 e
  have hLg := hideAll_get (news.map (·.1)) hL nL
  obtain ⟨sl, hs⟩ := T'.up hLg
  obtain ⟨T₁, S₁⟩ := kts_turn_at (h := h) (fs := outer.filterMap (·.frame)) (g := h₀)
    (fun b hb => by
      obtain ⟨_, o, ho', _⟩ := B.frames.mem hb
      exact ⟨o, ho'⟩)
    (fun b o e nmem => F'.keep b o (T'.other b o (st b o e) (fun q => by
      rcases mem_frames hf q with z | z
      · rw [z, kts_self F] at e; cases e
      · exact nmem z)))
    (fun b o e hm => by
      obtain ⟨sl', hs'⟩ := T'.up (st b o e)
      exact ⟨sl', F'.keep _ _ hs'⟩)
  refine ⟨_, T₁, ⟨⟨_, es, ep, F'.keep _ _ hs, hLd, hLk, hLf⟩, S₁, by rw [T₁.size]; exact F.above⟩, fun p hp => ⟨(N' p hp).1, fun q => ?_, ?_⟩, ⟨B.stack, fun b o e => T₁.other b o (B.stays b o e) (fun hm => by
    rw [(B.frames.mem hm).1] at e; cases e), B.frames.of_keeps fun b o e _ => by
    obtain ⟨sl', hs'⟩ := T₁.up e
    exact ⟨_, hs', rfl⟩⟩, D.turn T₁⟩
  · have := (N' p hp).2.2; rw [q, hs] at this; cases this
  · refine T₁.none_ _ ?_
    cases q : h₀.get? p.1 with
    | none => rfl
    | some o =>
      obtain ⟨sl', hs'⟩ := T'.up (st _ _ q)
      have := (N' p hp).2.2
      rw [hs'] at this
      cases this
theorem groundT (B : Below A₀ base outer h₀) (D : KtsDicts (outer.filterMap (·.frame)) h₀) (F : Fr h₀ L s.heap m) (N : News h₀ L s.heap news) (hA : A.frames = some (env :: outer)) (hf : env.frame = some L) (hke : env.scope.kind = .function) :
    Fr h₀ L (hideAll s.heap (news.map (·.1))) m ∧ Below A base (env :: outer) (hideAll s.heap (news.map (·.1))) ∧ h₀.StaysIn (hideAll s.heap (news.map (·.1))) ∧ KtsDicts ((env :: outer).filterMap (·.frame)) (hideAll s.heap (news.map (·.1))) ∧
      ∀ v s', LeaveT A₀ base env outer h₀ L m (hideAll s.heap (news.map (·.1))) R v s' → R (.ok (.ret v)) s' := by
  obtain ⟨FG, BG, st, _⟩ := groundX (R := R) B F N hA hf hke
  refine ⟨FG, BG, st, fun b hb => ?_, fun v s' hl => ?_⟩
  · rcases mem_frames hf hb with rfl | hb
    · obtain ⟨oL, es, ep, hL, hLd, _⟩ := FG.ns
      exact ⟨oL, es, ep, hL, hLd⟩
    · obtain ⟨o, es, n, ho, hd⟩ := D b hb
      exact ⟨o, es, n, st b o ho, hd⟩
  · obtain ⟨g', L', m', news', T', F', N', k⟩ := hl
    obtain ⟨h₀', a1, a2, a3, a4, a5⟩ := turn_back B D F N hf T' F' N'
    exact k h₀' a1 a2 a3 a4 a5
end
section
variable {prog : Program} {w : World} {A₀ A : Around} {s : Shared} {base h₀ : Heap} {env : Env} {outer : List Env} {L : Addr} {m : Str → Option Value} {news : List (Addr × Obj)} {K : Frag} {p : Program} {loose : List Str} {mean : ExcName → Option Value} {mg mb : Str → Option Value}
    {R : Result → Shared → Prop} {name qual : Str} {params : Arguments} {body : List Stmt} {scope : Scope} {dV kV doc pm cdv ct oc : Value} {an od : Option Addr} {osl : Array (Option Value)} {f : Addr} {args : Args} {binds : List (Str × Value)}
theorem code_T (B : Below A₀ base outer h₀) (F : Fr h₀ L s.heap m) (X₀ : K.In h₀) (N : News h₀ L s.heap news) (T : Top p loose mean mg mb h₀) (D : KtsDicts (outer.filterMap (·.frame)) h₀) (hA : A.frames = some (env :: outer)) (hf : env.frame = some L) (hke : env.scope.kind = .function)
    (ho : K.lookup f = some ⟨oc, od, .func (fnOf name qual params body scope dV kV doc pm an cdv ct), osl⟩) (hcd : codeIn K cdv qual = true) (hroom : A.depth < recursionLimit)
    (hbind : BindsTo s (fnOf name qual params body scope dV kV doc pm an cdv ct) args binds) (hloc : ∀ y ∈ binds, scope.names.lookup y.1 = some .local)
    (h : ∀ g L' h₁, Fr h₀ L g m → Fr g L' h₁ (fun y => binds.reverse.lookup y) → News g L' h₁ news → Below A base (env :: outer) g → K.In g → Top p loose mean mg mb g → KtsDicts ((env :: outer).filterMap (·.frame)) g →
      wpAny (model prog w) (A.deeper (envOf qual scope L' f cdv)) (execs body (envOf qual scope L' f cdv))
        (fun fl s' => LeaveT A₀ base env outer h₀ L m g R (match fl with | .ret v => v | _ => .none) s')
        (fun e s' => wpAny (model prog w) (A.deeper (envOf qual scope L' f cdv)) (leaving (envOf qual scope L' f cdv) e) (fun _ s'' => R (.error e) s'') (fun e' s'' => R (.error e') s'') s')
        { s with heap := h₁, toks := s.toks + binds.length })
    (hco : scope.isCoroutine = false) (hgen : scope.isGenerator = false) (hk : scope.kind = .function)
    (hcell : ∀ x ∈ scope.names, x.2 ≠ .cell) : codeAny (model prog w) A (.call (.ref f) args) R s := by
  have X := X₀.keeps F.keep
  obtain ⟨FG, BG, st, DG, lv⟩ := groundT (R := R) B D F N hA hf hke
  refine codeAny_call_def (fd := fnOf name qual params body scope dV kV doc pm an cdv ct) (body := body) (binds := binds) hroom (X _ _ ho) rfl (T.nolimit.keeps F.keep) (codeRec_of X hcd) rfl hbind hcell hloc (fun h₁ hns hk₁ => ?_) hco hgen hk
  exact wpAny_mono (h _ s.heap.objs.size h₁ FG ⟨hns, fun b o e => hk₁ b o (of_hideAll _ e), Nat.le_of_eq (hideAll_size _ _)⟩
    (fun p hp => ⟨hk₁ _ _ (N p hp).1, Nat.ne_of_lt (Heap.lt_size (N p hp).1), hideAll_none _ (List.mem_map_of_mem hp)⟩) BG (X₀.keeps st) (T.keeps st) DG) (fun fl s' hl => lv _ _ hl) fun _ _ y => y
theorem code_TC (B : Below A₀ base outer h₀) (F : Fr h₀ L s.heap m) (X₀ : K.In h₀) (N : News h₀ L s.heap news) (T : Top p loose mean mg mb h₀) (D : KtsDicts (outer.filterMap (·.frame)) h₀) (hA : A.frames = some (env :: outer)) (hf : env.frame = some L) (hke : env.scope.kind = .function)
    (ho : K.lookup f = some ⟨oc, od, .func (fnOf name qual params body scope dV kV doc pm an cdv ct), osl⟩) (hcd : codeIn K cdv qual = true) (hroom : A.depth < recursionLimit)
    (hbind : BindsTo s (fnOf name qual params body scope dV kV doc pm an cdv ct) args binds) (hkind : (binds.all fun y => scope.names.lookup y.1 == some .local || scope.names.lookup y.1 == some .cell) = true)
    (hnd : ((cellsFrom 0 scope.names []).map (·.1)).Nodup)
    (h : ∀ g L' h₁ tk cells, Fr h₀ L g m → Fr g L' h₁ (bindL (envOfC qual scope L' f cdv).kindOf binds fun _ => none) → News g L' h₁ (cells ++ news) →
      CellsAre (bindC (envOfC qual scope L' f cdv).kindOf binds fun _ => none) (cellsFrom (L' + 1) scope.names []) cells → Below A base (env :: outer) g → K.In g → Top p loose mean mg mb g → (∀ p ∈ news, p.1 < L') → KtsDicts ((env :: outer).filterMap (·.frame)) g →
      wpAny (model prog w) (A.deeper (envOfC qual scope L' f cdv)) (execs body (envOfC qual scope L' f cdv))
        (fun fl s' => LeaveT A₀ base env outer h₀ L m g R (match fl with | .ret v => v | _ => .none) s')
        (fun e s' => wpAny (model prog w) (A.deeper (envOfC qual scope L' f cdv)) (leaving (envOfC qual scope L' f cdv) e) (fun _ s'' => R (.error e) s'') (fun e' s'' => R (.error e') s'') s')
        { s with heap := h₁, toks := tk })
    (hco : scope.isCoroutine = false) (hgen : scope.isGenerator = false) (hk : scope.kind = .function) : codeAny (model prog w) A (.call (.ref f) args) R s := by
  have X := X₀.keeps F.keep
  obtain ⟨FG, BG, st, DG, lv⟩ := groundT (R := R) B D F N hA hf hke
  refine codeAny_call_function hroom (X _ _ ho) rfl hco hgen rfl (codeRec_of X hcd) (hbind _ _ _ _ ?_)
  refine wpAny_newFunctionEnv_cells hk (kindsX hkind _) fun env' he s' x => ?_
  subst he
  refine ⟨(T.nolimit.keeps F.keep).keeps x.toInCall.keep, codeAny_func ?_⟩
  obtain ⟨h₁, tk, rfl, _⟩ := x.done
  have hk₁ := x.toInCall.keep
  obtain ⟨cells, NC, Y⟩ := Cl.news (h₀ := s.heap) (Nat.le_refl _) fun n c hm => ⟨x.cell n c (lookup_of_mem_nodup (cellsFrom_names scope.names 0 (s.heap.objs.size + 1) [] [] rfl ▸ hnd) hm), x.above n c hm⟩
  refine wpAny_mono (h _ s.heap.objs.size h₁ tk cells FG ⟨x.toInCall.ns, fun b o e => hk₁ b o (of_hideAll _ e), Nat.le_of_eq (hideAll_size _ _)⟩ (fun p hp => ?_) Y BG (X₀.keeps st) (T.keeps st) (fun p hp => Heap.lt_size (N p hp).1) DG) (fun fl s' hl => lv _ _ hl) fun _ _ y => y
  rcases List.mem_append.mp hp with hp | hp
  · obtain ⟨q1, q2, q3⟩ := NC p hp
    refine ⟨q1, q2, Option.eq_none_iff_forall_ne_some.mpr fun o q => ?_⟩
    rw [of_hideAll _ q] at q3
    cases q3
  · exact ⟨hk₁ _ _ (N p hp).1, Nat.ne_of_lt (Heap.lt_size (N p hp).1), hideAll_none _ (List.mem_map_of_mem hp)⟩
end
end
section
/-- what a call of `ask` without arguments does -/
def AskSpec (w : World) (mean : ExcName → Option Value) (mg mb : Str → Option Value) (base : Heap) (ask : Addr) (news : List (Addr × Obj)) (P : Value → List (Addr × Obj) → Prop) (PE : Str → Prop) : Prop :=
  ∀ {dp un : Nat} {gd : Option (List Code)} {cn : Str} {cs : Scope} {a : Addr} {ccd : Value} {cl : List (Str × Addr)} {outer : List Env} {A₀ : Around} {h₀ : Heap} {L : Addr} {m : Str → Option Value} {s : Shared} {Q E : Value → Shared → Prop},
    Below A₀ base outer h₀ → Fr h₀ L s.heap m → (hd.heap_39 w.params).In h₀ → News h₀ L s.heap news → Top PP LL mean mg mb h₀ → cs.kind = .function → dp + 300 < recursionLimit → un + 3500 < cLine →
    (∀ v h' tk' news', P v news' → Fr h₀ L h' m → News h₀ L h' news' → Q v { s with heap := h', toks := tk' }) → (∀ k, PE k → FailP base h₀ L m (envX cn cs L a ccd cl :: outer) news s k E) →
    wpAny (model Prg w) (ktrTop dp un gd cn cs L a ccd cl outer) (call (.ref ask) []) Q E s
theorem AskSpec.use {w : World} {mean : ExcName → Option Value} {mg mb : Str → Option Value} {base : Heap} {ask : Addr} {news : List (Addr × Obj)} {P : Value → List (Addr × Obj) → Prop} {PE : Str → Prop} (S : AskSpec w mean mg mb base ask news P PE)
    {dp un : Nat} {gd : Option (List Code)} {cn : Str} {cs : Scope} {a : Addr} {ccd : Value} {cl : List (Str × Addr)} {outer : List Env} {A₀ : Around} {h₀ : Heap} {L : Addr} {m : Str → Option Value} {s : Shared} {Q E : Value → Shared → Prop}
    (B : Below A₀ base outer h₀) (F : Fr h₀ L s.heap m) (X : (hd.heap_39 w.params).In h₀) (N : News h₀ L s.heap news) (T : Top PP LL mean mg mb h₀) (hk : cs.kind = .function) (hdp : dp + 300 < recursionLimit) (hun : un + 3500 < cLine)
    (hret : ∀ v h' tk' news', P v news' → Fr h₀ L h' m → News h₀ L h' news' → Q v { s with heap := h', toks := tk' }) (hE : ∀ k, PE k → FailP base h₀ L m (envX cn cs L a ccd cl :: outer) news s k E) :
    wpAny (model Prg w) (ktrTop dp un gd cn cs L a ccd cl outer) (call (.ref ask) []) Q E s := S B F X N T hk hdp hun hret hE
theorem get_kind {w : World} {A : Around} {s : Shared} {h₀ : Heap} {L e de : Addr} {m : Str → Option Value} {news : List (Addr × Obj)} {oe : Obj} {es : List DictEntry} {n : Nat} {k : Str} {t : Tok} {expr : Bool} {Q E : Value → Shared → Prop}
    (F : Fr h₀ L s.heap m) (X : (hd.heap_39 w.params).In h₀) (N : News h₀ L s.heap news) (he : (e, oe) ∈ news) (hde : (de, dictOf es n) ∈ news) (hc : oe.cls = .ref 59) (hx : oe.dict = some de) (hv : ∃ vs, oe.data = .fields vs) (hk : getL (Str.ofString "kind") es = some (some (.str k t)))
    (h : Q (.str k t) { s with toks := s.toks + 1 }) : wpAny (model Prg w) A (getAttr (.ref e) (Str.ofString "kind") expr) Q E s := by
  have hfill : (hd.heap_39 = hd.heap_39 ∧ PySem.Challenge.rw_pf0075_01 = PySem.Challenge.rw_pf0075_01) → True := by
    k_fill
    intro _; trivial
  clear hfill
  obtain ⟨vs, hvs⟩ := hv
  have I : InstAt s.heap e oe 59 (some (dictOf es n)) := ⟨N.get he, hc, by unfold notCls; rw [hvs], by rw [hx]; exact N.get hde⟩
  have X1 := X.keeps F.keep
  have hf : findObj (hd.heap_39 w.params) 59 (some (dictOf es n)) (Str.ofString "kind") = some (.value (.str k t)) := findObj_own (by k_is) (by k_is) (by k_is) hk
  obtain ⟨hh, g, d, tk, os⟩ := s
  have L0 := I.type (M := model Prg w)
  have L1 : Looks (model Prg w) hh (typeLookup (.ref 59) "__getattribute__") (some (.builtin "BaseException.__getattribute__")) := looks_findIn X1 (by k_is)
  have LF := looks_find (M := model Prg w) X1 I hf
  have L2 : Looks (model Prg w) hh (typeLookup (.ref 59) "__getattr__") none := looks_findIn X1 (by k_is)
  have L3 : Looks (model Prg w) hh (isSubtype (.ref 59) (.type "BaseException")) true := looks_subIn X1 (by kernel_rfl)
  have L4 : Looks (model Prg w) hh (isInstance (.ref e) (.type "BaseException")) true := L0.andThen L3
  unfold getAttr getAttrBy
  refine wpAny_bind (wpAny_mkText (wpAny_holding (wpAny_bind (L0.at (wpAny_bind (L1.at ?_))))))
  have q0 : (onTheHeap (.ref 59) && Value.builtin "BaseException.__getattribute__" == .builtin "object.__getattribute__") = false := by decide +kernel
  simp only [q0]
  unfold getAttrByItsOwn callGetattribute
  repeat lk
  refine wpAny_attempt (wpAny_holding ?_)
  rw [if_neg (by cases expr <;> decide)]
  unfold boundAndCalled
  refine wpAny_bind (wpAny_of_eq (PySem.F.attrBase_Exception.ga.bind (.ref e)) ?_)
  refine wpAny_call ?_
  have hbk : builtinKind "BaseException.__getattribute__" = some .slot := by decide +kernel
  have hsp : splitId "BaseException.__getattribute__" = some ("BaseException", "__getattribute__") := by decide +kernel
  refine codeAny_call_builtin PySem.F.attrBase_Exception.ga.plain PySem.F.entry_bexc_ga (@check_slot (model Prg w) _ _ { heap := hh, gens := g, drawn := d, toks := tk + 1, os := os } "BaseException.__getattribute__" "BaseException" "__getattribute__" (.ref e) [.str (Str.ofString "kind") tk] [] _ hbk hsp L4 (PySem.F.args_bexc_ga (.ref e) (.str (Str.ofString "kind") tk)) ?_)
  unfold Builtin.«object.__getattribute__»
  refine wpAny_bind (wpAny_pure (wpAny_bind (wpAny_pure (wpAny_bind (L0.at (wpAny_bind (LF.at ?_)))))))
  refine wpAny_pure ?_
  show wpAny _ _ (handedOut (.str k t)) _ _ _
  rw [handedOut_of rfl]
  exact wpAny_pure h
end
section
inductive WKey (news : List (Addr × Obj)) (Fp : List Addr) : Value → KObj → Addr → Prop
  | row {k dk X : Addr} {vs : List Value} {n : Nat} {cells : List PV} : KeptAt news k dk (Str.ofString "row") (.ref X) → k ∉ Fp → dk ∉ Fp → X ∈ Fp → (X, listOf vs.toArray n) ∈ news → RowRep news vs cells → cells.length ≤ 900 → WKey news Fp (.ref k) (.row cells) X
  | var {k X : Addr} {v wh : Value} {pv : PV} {a1 a2 a3 : Int} {b1 b2 b3 tv : Tok} {n : Nat} : (k, instObj 106 X) ∈ news → k ∉ Fp → X ∈ Fp → (X, kpO a1 a2 a3 b1 b2 b3 (Str.ofString "var") tv v wh n) ∈ news → Rep news pv v → WKey news Fp (.ref k) (.var pv) X
  | chan {k dk X : Addr} {c : Value} : KeptAt news k dk (Str.ofString "chan") c → k ∉ Fp → dk ∉ Fp → WKey news Fp (.ref k) .chan X
def KObj.mut : KObj → Bool
  | .chan => false
  | _ => true
structure Wd (w : World) (hp kd hx : Addr) (g : Int) (kvs : List (Ky × Value)) (Fp : List Addr) (Xs : Ky → Addr) (S : Ky → Option KObj) (news : List (Addr × Obj)) : Prop where
  lo : (kd == sysModules) = false
  len : kvs.length ≤ 1000
  heap : ∃ h1 h2 h3 h4 h5 t1 t2 t3 t4 t5 tg t0 n ko, (hp, instObj 244 hx) ∈ news ∧ (hx, hpO h1 h2 h3 h4 h5 t1 t2 t3 t4 t5 kd g tg t0 n) ∈ news ∧ (kd, ko) ∈ news ∧ ko.IsDictOf (mixKind Prg w) kvs
  apart : hp ∉ Fp ∧ hx ∉ Fp ∧ kd ∉ Fp
  none_ : ∀ key, S key = none → valueAt kvs key = none
  some_ : ∀ key o, S key = some o → ∃ kv, valueAt kvs key = some kv ∧ WKey news Fp kv o (Xs key)
  inj : ∀ k1 k2 o1 o2, S k1 = some o1 → S k2 = some o2 → o1.mut = true → o2.mut = true → Xs k1 = Xs k2 → k1 = k2
  fp : ∀ a ∈ Fp, ∃ o, (a, o) ∈ news ∧ o.cls ≠ .type "tuple" ∧ o.cls ≠ .none
def Keeps (Fp : List Addr) (news news' : List (Addr × Obj)) : Prop := ∀ a o, (a, o) ∈ news → a ∉ Fp → (a, o) ∈ news'
theorem Keeps.trans {Fp : List Addr} {n1 n2 n3 : List (Addr × Obj)} (x : Keeps Fp n1 n2) (y : Keeps Fp n2 n3) : Keeps Fp n1 n3 := fun a o h hn => y a o (x a o h hn) hn
def putS (S : Ky → Option KObj) (key : Ky) (o : KObj) : Ky → Option KObj := fun k => if k = key then some o else S k
def storeO : KObj → List Int → PV → KObj
  | .row cells, i :: r, fr => .row (cells.set i.toNat ((cells.getD i.toNat (.int 0)).with r fr))
  | .var v, path, fr => .var (v.with path fr)
  | o, _, _ => o
theorem News.obj_eq {h₀ h : Heap} {L : Addr} {news : List (Addr × Obj)} (N : News h₀ L h news) {a : Addr} {o o' : Obj} (h1 : (a, o) ∈ news) (h2 : (a, o') ∈ news) : o = o' := Option.some.inj ((N _ h1).1.symm.trans (N _ h2).1)
/-- the tuples lie outside the footprint -/
theorem Wd.tup {w : World} {hp kd hx : Addr} {g : Int} {kvs : List (Ky × Value)} {Fp : List Addr} {Xs : Ky → Addr} {S : Ky → Option KObj} {news : List (Addr × Obj)} (W : Wd w hp kd hx g kvs Fp Xs S news) {h₀ h : Heap} {L : Addr} (N : News h₀ L h news)
    {a : Addr} {o : Obj} (h1 : (a, o) ∈ news) (hc : o.cls = .type "tuple") : a ∉ Fp := fun hm => by
  obtain ⟨o', h2, hc', _⟩ := W.fp a hm
  exact hc' (News.obj_eq N h1 h2 ▸ hc)
theorem Wd.heapAt {w : World} {hp kd hx : Addr} {g : Int} {kvs : List (Ky × Value)} {Fp : List Addr} {Xs : Ky → Addr} {S : Ky → Option KObj} {news news' : List (Addr × Obj)} (W : Wd w hp kd hx g kvs Fp Xs S news) (K : Keeps Fp news news') : HeapAt w news' hp kd g kvs := by
  obtain ⟨h1, h2, h3, h4, h5, t1, t2, t3, t4, t5, tg, t0, n, ko, m1, m2, m3, hd⟩ := W.heap
  exact ⟨W.lo, W.len, hx, h1, h2, h3, h4, h5, t1, t2, t3, t4, t5, tg, t0, n, ko, K _ _ m1 W.apart.1, K _ _ m2 W.apart.2.1, K _ _ m3 W.apart.2.2, hd⟩
theorem KeptAt.keeps {Fp : List Addr} {news news' : List (Addr × Obj)} {k dk : Addr} {kind : Str} {c : Value} (H : KeptAt news k dk kind c) (K : Keeps Fp news news') (h1 : k ∉ Fp) (h2 : dk ∉ Fp) : KeptAt news' k dk kind c := by
  obtain ⟨a1, a2, a3, t1, t2, t3, tk, wh, n, m1, m2⟩ := H
  exact ⟨a1, a2, a3, t1, t2, t3, tk, wh, n, K _ _ m1 h1, K _ _ m2 h2⟩
theorem FlatLoc.mono {news news' : List (Addr × Obj)} (hs : ∀ a o, (a, o) ∈ news → o.cls = .type "tuple" → (a, o) ∈ news') {v : Value} {key : Ky} {path : List Int} (R : FlatLoc news v key path) : FlatLoc news' v key path := by
  obtain ⟨l, p, n, n', num, vs, h1, h2, h3, h4, h5, h6⟩ := R
  exact ⟨l, p, n, n', num, vs, h1, hs _ _ h2 rfl, h3, hs _ _ h4 rfl, h5, h6⟩
theorem LocRep.mono {news news' : List (Addr × Obj)} (hs : ∀ a o, (a, o) ∈ news → o.cls = .type "tuple" → (a, o) ∈ news') {v : Value} {key : Ky} {path : List Int} (R : LocRep news v key path) : LocRep news' v key path := by
  cases R with
  | flat h => exact .flat (h.mono hs)
  | nest h1 h2 h3 h4 h5 => exact .nest (hs _ _ h1 rfl) (h2.mono hs) (hs _ _ h3 rfl) h4 h5
/-- an object at another key, after a write at `X` -/
theorem WKey.other {news news' : List (Addr × Obj)} {Fp : List Addr} {kv : Value} {o : KObj} {Y X : Addr} (H : WKey news Fp kv o Y) (hs : ∀ a o, (a, o) ∈ news → a ≠ X → (a, o) ∈ news') (hX : X ∈ Fp) (ht : ∀ a o, (a, o) ∈ news → o.cls = .type "tuple" → a ∉ Fp) (hY : o.mut = true → Y ≠ X) : WKey news' Fp kv o Y := by
  have K : Keeps Fp news news' := fun a o h hn => hs a o h fun q => hn (q ▸ hX)
  have tm : ∀ a o, (a, o) ∈ news → o.cls = .type "tuple" → (a, o) ∈ news' := fun a o h hc => K a o h (ht a o h hc)
  cases H with
  | row h1 h2 h3 h4 h5 h6 h7 => exact .row (h1.keeps K h2 h3) h2 h3 h4 (hs _ _ h5 (hY rfl)) (h6.mono tm) h7
  | var h1 h2 h3 h4 h5 => exact .var (K _ _ h1 h2) h2 h3 (hs _ _ h4 (hY rfl)) (h5.mono tm)
  | chan h1 h2 h3 => exact .chan (h1.keeps K h2 h3) h2 h3
/-- the world after a write at the object of `key` -/
theorem Wd.put {w : World} {hp kd hx : Addr} {g : Int} {kvs : List (Ky × Value)} {Fp : List Addr} {Xs : Ky → Addr} {S : Ky → Option KObj} {news news' : List (Addr × Obj)} (W : Wd w hp kd hx g kvs Fp Xs S news) {h₀ h : Heap} {L : Addr} (N : News h₀ L h news)
    {key : Ky} {o o' : KObj} {X : Addr} {kv : Value} {oX : Obj} (hS : S key = some o) (hm : o.mut = true) (hXs : Xs key = X) (hX : X ∈ Fp) (hs : ∀ a o, (a, o) ∈ news → a ≠ X → (a, o) ∈ news') (hoX : (X, oX) ∈ news') (hcX : oX.cls ≠ .type "tuple") (hcN : oX.cls ≠ .none) (hkv : valueAt kvs key = some kv) (hW : WKey news' Fp kv o' X) : Wd w hp kd hx g kvs Fp Xs (putS S key o') news' ∧ Keeps Fp news news' := by
  have K : Keeps Fp news news' := fun a o h hn => hs a o h fun q => hn (q ▸ hX)
  have ht : ∀ a o, (a, o) ∈ news → o.cls = .type "tuple" → a ∉ Fp := fun a o h hc => W.tup N h hc
  refine ⟨⟨W.lo, W.len, ?_, W.apart, fun k e => ?_, fun k ok e => ?_, fun k1 k2 o1 o2 e1 e2 m1 m2 q => ?_, fun a ha => ?_⟩, K⟩
  · obtain ⟨h1, h2, h3, h4, h5, t1, t2, t3, t4, t5, tg, t0, n, ko, m1, m2, m3, hd⟩ := W.heap
    exact ⟨h1, h2, h3, h4, h5, t1, t2, t3, t4, t5, tg, t0, n, ko, K _ _ m1 W.apart.1, K _ _ m2 W.apart.2.1, K _ _ m3 W.apart.2.2, hd⟩
  · unfold putS at e
    split at e
    · cases e
    · exact W.none_ k e
  · unfold putS at e
    split at e
    · rename_i q
      cases e
      rw [q, hXs]
      exact ⟨kv, hkv, hW⟩
    · rename_i q
      obtain ⟨kv', a, b⟩ := W.some_ k ok e
      exact ⟨kv', a, b.other hs hX ht fun hmk z => q (W.inj k key ok o e hS hmk hm (z.trans hXs.symm))⟩
  · have back : ∀ k ok, putS S key o' k = some ok → ok.mut = true → ∃ ok', S k = some ok' ∧ ok'.mut = true := fun k ok e m => by
      unfold putS at e
      split at e
      · rename_i q; rw [q]; exact ⟨o, hS, hm⟩
      · exact ⟨ok, e, m⟩
    obtain ⟨x1, y1, z1⟩ := back k1 o1 e1 m1
    obtain ⟨x2, y2, z2⟩ := back k2 o2 e2 m2
    exact W.inj k1 k2 x1 x2 y1 y2 z1 z2 q
  · by_cases q : a = X
    · subst q; exact ⟨oX, hoX, hcX, hcN⟩
    · obtain ⟨oa, h1, h2⟩ := W.fp a ha
      exact ⟨oa, hs a oa h1 q, h2⟩
end
section
theorem rest_mem' {news : List (Addr × Obj)} {X a : Addr} {o : Obj} (h : (a, o) ∈ news) (hn : a ≠ X) : (a, o) ∈ news.filter (fun p => decide (p.1 ≠ X)) := List.mem_filter.mpr ⟨h, by simpa using hn⟩
theorem rest_sub' {news : List (Addr × Obj)} {X : Addr} : ∀ p ∈ news.filter (fun p => decide (p.1 ≠ X)), p ∈ news := fun p h => (List.mem_filter.mp h).1
theorem rest_ne' {news : List (Addr × Obj)} {X : Addr} : ∀ p ∈ news.filter (fun p => decide (p.1 ≠ X)), p.1 ≠ X := fun p h => by simpa using (List.mem_filter.mp h).2
theorem rest_news' {h₀ h : Heap} {L : Addr} {news : List (Addr × Obj)} (N : News h₀ L h news) {X : Addr} {o : Obj} (hm : (X, o) ∈ news) : News h₀ L h ((X, o) :: news.filter (fun p => decide (p.1 ≠ X))) := News.perm N fun p hp => by
  rcases List.mem_cons.mp hp with rfl | hp
  · exact hm
  · exact rest_sub' p hp
/-- the table of a def's inner code records: what it names lies in the ledger -/
structure TabInv (Fp : List Addr) (P : Addr) (qual : Str) (ps : Array Value) (news : List (Addr × Obj)) : Prop where
  tri : TriplesOk ps.toList
  at_ : ∀ pos cv, codeAmong pos ps.toList = some cv → ∃ c' oc vs t, cv = .ref c' ∧ (c', oc) ∈ news ∧ oc.data = .fields vs ∧ vs[1]? = some (Value.str qual t) ∧ c' ∉ Fp ∧ c' ≠ P
theorem tri_app {a b : Int} {c : Value} : ∀ l : List Value, TriplesOk l → TriplesOk (l ++ [rawInt a, rawInt b, c])
  | [], _ => trivial
  | .int _ _ :: .int _ _ :: _ :: rest, h => tri_app rest h
theorem among_app {pos : Pos} {a b : Int} {c : Value} : ∀ l : List Value, TriplesOk l → ∀ x, codeAmong pos (l ++ [rawInt a, rawInt b, c]) = some x → codeAmong pos l = some x ∨ x = c
  | [], _, x, h => by
    have h' : (if a == pos.line && b == pos.col then some c else codeAmong pos []) = some x := h
    split at h'
    · exact .inr (Option.some.inj h').symm
    · cases h'
  | .int l1 t1 :: .int l2 t2 :: y :: rest, ht, x, h => by
    have h' : (if l1 == pos.line && l2 == pos.col then some y else codeAmong pos (rest ++ [rawInt a, rawInt b, c])) = some x := h
    show (if l1 == pos.line && l2 == pos.col then some y else codeAmong pos rest) = some x ∨ x = c
    split at h'
    · rename_i q; rw [if_pos q]; exact .inl h'
    · rename_i q; rw [if_neg q]; exact among_app rest ht x h'
theorem TabInv.mono {Fp : List Addr} {P : Addr} {qual : Str} {ps : Array Value} {news news' : List (Addr × Obj)} (H : TabInv Fp P qual ps news) (hs : ∀ a o, (a, o) ∈ news → a ∉ Fp → a ≠ P → (a, o) ∈ news') : TabInv Fp P qual ps news' :=
  ⟨H.tri, fun pos cv e => by
    refine hide fun GG9 hG9 => ?_
    obtain ⟨c', oc, vs, t, h1, h2, h3, h4, h5, h6⟩ := H.at_ pos cv e
    refine hG9 ?_
    clear hG9 GG9
    exact ⟨c', oc, vs, t, h1, hs _ _ h2 h5 h6, h3, h4, h5, h6⟩⟩
section
variable {M : Model} {A : Around} {E : Value → Shared → Prop} {s : Shared} {h₀ : Heap} {L a c P : Addr} {m mg mb : Str → Option Value} {cn : Str} {cs : Scope} {ccd : Value} {cl : List (Str × Addr)} {all : List (Addr × Obj)}
  {p : Program} {loose : List Str} {mean : ExcName → Option Value} {name qual : Str} {params : Arguments} {body : Expr} {scope : Scope} {ps : Array Value} {pos : Pos} {firstLine : Nat} {clos : List (Str × Addr)} {Fp : List Addr}
theorem lam_any {Q : Value → Shared → Prop} (F : Fr h₀ L s.heap m) (N : News h₀ L s.heap all) (T : Top p loose mean mg mb h₀) (C : CodeHd h₀ c P) (hcd : ccd = .ref c) (hP : (P, tabObj ps) ∈ all) (TI : TabInv Fp P qual ps all) (hFp : ∀ a ∈ Fp, ∃ o, (a, o) ∈ all)
    (hcl : closureFor scope (envX cn cs L a ccd cl) = pure clos)
    (h : ∀ f c' ctv oc vs t ps' h' tk, Fr h₀ L h' m →
      News h₀ L h' ((f, kla_obj name qual params body scope clos ((mg "__name__").getD .none) c' ctv) :: (c', oc) :: (P, tabObj ps') :: all.filter (fun p => decide (p.1 ≠ P))) →
      oc.data = .fields vs → vs[1]? = some (.str qual t) → TabInv Fp P qual ps' ((c', oc) :: all.filter (fun p => decide (p.1 ≠ P))) → (∀ q ∈ all, q.1 < f) → c' ∉ Fp → c' ≠ P → Q (.ref f) { s with heap := h', toks := tk }) :
    wpAny M A (makeFunction name qual params (.expr body) scope (envX cn cs L a ccd cl) [] [] [] pos firstLine) Q E s := by
  have N2 := rest_news' N hP
  have TI2 : TabInv Fp P qual ps (all.filter (fun p => decide (p.1 ≠ P))) := TI.mono fun a o h _ hn => rest_mem' h hn
  have lt_all : ∀ {d : Nat}, (∀ q ∈ (P, tabObj ps) :: all.filter (fun p => decide (p.1 ≠ P)), q.1 < d) → ∀ q ∈ all, q.1 < d := fun l q hq => by
    by_cases e : q.1 = P
    · have := l _ (.head _)
      rw [e]; exact this
    · exact l q (.tail _ (rest_mem' (a := q.1) (o := q.2) hq e))
  cases e : codeAmong pos ps.toList with
  | none =>
    refine kla_nest F N2 T C hcd (UpdF.head rest_ne') TI.tri e hcl fun f c' oc vs t ctv h' tk F' N' d1 d2 l1 l2 => ?_
    have lc := lt_all l1
    have nF : c' ∉ Fp := fun q => by
      obtain ⟨o, ho⟩ := hFp _ q
      exact absurd (lc _ ho) (Nat.lt_irrefl _)
    have nP : c' ≠ P := fun q => absurd (lc _ hP) (by rw [q]; exact Nat.lt_irrefl _)
    refine h f c' ctv oc vs t _ h' tk F' N' d1 d2 ⟨?_, fun pos' cv e' => ?_⟩ (fun q hq => Nat.lt_trans (lc q hq) l2) nF nP
    · rw [Array.toList_append]; exact tri_app _ TI.tri
    · rw [Array.toList_append] at e'
      rcases among_app _ TI.tri _ e' with q | q
      · refine hide fun GG9 hG9 => ?_
        obtain ⟨c2, o2, vs2, t2, h1, h2, h3⟩ := TI2.at_ pos' cv q
        refine hG9 ?_
        clear hG9 GG9
        exact ⟨c2, o2, vs2, t2, h1, .tail _ h2, h3⟩
      · exact ⟨c', oc, vs, t, q, .head _, d1, d2, nF, nP⟩
  | some cv =>
    refine hide fun GG9 hG9 => ?_
    obtain ⟨c', oc, vs, t, rfl, h2, h3, h4, h5, h6⟩ := TI2.at_ pos cv e
    refine hG9 ?_
    clear hG9 GG9
    refine kla_hit F N2 T C hcd (.head _) TI.tri e hcl fun f ctv h' tk F' N' l1 => ?_
    refine h f c' ctv oc vs t ps h' tk F' (News.perm N' fun p hp => ?_) h3 h4 (TI2.mono fun a o h _ _ => .tail _ h) (lt_all l1) h5 h6
    rcases List.mem_cons.mp hp with rfl | hp
    · exact .head _
    rcases List.mem_cons.mp hp with rfl | hp
    · exact .tail _ (.tail _ h2)
    · exact .tail _ hp
theorem lam_led {Q : Value → Shared → Prop} (F : Fr h₀ L s.heap m) (N : News h₀ L s.heap all) (T : Top p loose mean mg mb h₀) (C : CodeHd h₀ c P) (hcd : ccd = .ref c) (hP : (P, tabObj ps) ∈ all) (TI : TabInv Fp P qual ps all) (hFp : ∀ a ∈ Fp, ∃ o, (a, o) ∈ all)
    (hcl : closureFor scope (envX cn cs L a ccd cl) = pure clos)
    (h : ∀ f c' ctv oc vs t ps' h' tk all', Fr h₀ L h' m → News h₀ L h' all' → (∀ a o, (a, o) ∈ all → a ≠ P → (a, o) ∈ all') → (f, kla_obj name qual params body scope clos ((mg "__name__").getD .none) c' ctv) ∈ all' → (c', oc) ∈ all' → (P, tabObj ps') ∈ all' →
      oc.data = .fields vs → vs[1]? = some (.str qual t) → TabInv Fp P qual ps' all' → (∀ q ∈ all, q.1 < f) → Q (.ref f) { s with heap := h', toks := tk }) :
    wpAny M A (makeFunction name qual params (.expr body) scope (envX cn cs L a ccd cl) [] [] [] pos firstLine) Q E s :=
  lam_any F N T C hcd hP TI hFp hcl fun f c' ctv oc vs t ps' h' tk F' N' d1 d2 I' l1 _ _ => h f c' ctv oc vs t ps' h' tk _ F' N' (fun a o h hn => .tail _ (.tail _ (.tail _ (rest_mem' h hn)))) (.head _) (.tail _ (.head _)) (.tail _ (.tail _ (.head _))) d1 d2
    (I'.mono fun a o h _ _ => by
      rcases List.mem_cons.mp h with q | h
      · rw [q]; exact .tail _ (.head _)
      · exact .tail _ (.tail _ (.tail _ h))) l1
end
theorem name_free' {M : Model} {A : Around} {E : Value → Shared → Prop} {s : Shared} {h₀ : Heap} {L L₁ a c : Addr} {cn : Str} {cs : Scope} {ccd : Value} {cl : List (Str × Addr)} {x : Str} {pos : Pos} {v : Value} {oc : Obj} {Q : Value → Shared → Prop} {all : List (Addr × Obj)} (N : News h₀ L₁ s.heap all)
    (hc : cl.lookup x = some c) (hm : (c, oc) ∈ all) (hd : oc.data = .cell (some v)) (h : Q v s) (hk : cs.kind = .function) (hx : (envX cn cs L a ccd cl).kindOf x = some .free) (hb : (x == ("__debug__" : Str)) = false := by decide) (hn : (x == ("__classdict__" : Str)) = false := by decide) :
    wpAny M A (eval (.Name x pos) (envX cn cs L a ccd cl)) Q E s := wpAny_Name (wpAny_loadName_free hk hx hc ⟨_, (N _ hm).1, hd⟩ h hn) hb
theorem leaveD_onX {M : Model} {A : Around} {E : Value → Shared → Prop} {s' : Shared} {base g g₂ : Heap} {env : Env} {outer : List Env} {L e : Addr} {m : Str → Option Value} {Q : Unit → Shared → Prop} {news : List (Addr × Obj)} {c : Value} {dx : Option Addr} (hf : env.frame = some L)
    (K : Below A base outer g) (F : Fr g L g₂ m) (R : RaisedD base g₂ (env :: outer) e c dx news s'.heap) (hQ : ∀ h', RaisedD base g outer e c dx news h' → Q () { s' with heap := h' }) :
    wpAny M (A.deeper env) (leaving env (.ref e)) Q E s' := by
  refine hide fun GG9 hG9 => ?_
  obtain ⟨B, hB, hBG, hl, hfl, hsm⟩ := R
  refine hG9 ?_
  clear hG9 GG9
  exact leave_nextD (Around.frames_deeper K.stack) hf hfl fun h' Y U => hQ h' ⟨B, hB, fun b o q nm => hBG b o (F.keep b o q) (fun hm => by
      rcases mem_frames hf hm with z | z
      · rw [z, kts_self F] at q; cases q
      · exact nm z), fun q hq => ⟨(hl q hq).1, kts_none F.keep (hl q hq).2.1, (hl q hq).2.2⟩, Y, ((Heap.UpToSlots.of_keeps F.keep).trans hsm).trans U⟩
/-- the world does not lean on the table -/
theorem Wd.off {w : World} {hp kd hx : Addr} {g : Int} {kvs : List (Ky × Value)} {Fp : List Addr} {Xs : Ky → Addr} {S : Ky → Option KObj} {news news' : List (Addr × Obj)} (W : Wd w hp kd hx g kvs Fp Xs S news) (hs : ∀ a o, (a, o) ∈ news → o.cls ≠ .none → (a, o) ∈ news') : Wd w hp kd hx g kvs Fp Xs S news' := by
  have tm : ∀ a o, (a, o) ∈ news → o.cls = .type "tuple" → (a, o) ∈ news' := fun a o h hc => hs a o h (by rw [hc]; decide)
  have kk : ∀ {k dk : Addr} {kind : Str} {c : Value}, KeptAt news k dk kind c → KeptAt news' k dk kind c := fun H => by
    refine hide fun GG9 hG9 => ?_
    obtain ⟨a1, a2, a3, t1, t2, t3, tk, wh, n, m1, m2⟩ := H
    refine hG9 ?_
    clear hG9 GG9
    exact ⟨a1, a2, a3, t1, t2, t3, tk, wh, n, hs _ _ m1 (by simp), hs _ _ m2 (by show Value.type "dict" ≠ _; simp)⟩
  refine ⟨W.lo, W.len, ?_, W.apart, W.none_, fun k ok e => ?_, W.inj, fun a ha => ?_⟩
  · refine hide fun GG9 hG9 => ?_
    obtain ⟨h1, h2, h3, h4, h5, t1, t2, t3, t4, t5, tg, t0, n, ko, m1, m2, m3, hd⟩ := W.heap
    refine hG9 ?_
    clear hG9 GG9
    refine ⟨h1, h2, h3, h4, h5, t1, t2, t3, t4, t5, tg, t0, n, ko, hs _ _ m1 (by simp), hs _ _ m2 (by show Value.type "dict" ≠ _; simp), hs _ _ m3 ?_, hd⟩
    obtain ⟨_, _, ex, _⟩ := hd
    rw [ex.1]; simp
  · obtain ⟨kv, h1, h2⟩ := W.some_ k ok e
    refine ⟨kv, h1, ?_⟩
    cases h2 with
    | row x1 x2 x3 x4 x5 x6 x7 => exact .row (kk x1) x2 x3 x4 (hs _ _ x5 (by show Value.type "list" ≠ _; simp)) (x6.mono tm) x7
    | var x1 x2 x3 x4 x5 => exact .var (hs _ _ x1 (by simp)) x2 x3 (hs _ _ x4 (by show Value.type "dict" ≠ _; simp)) (x5.mono tm)
    | chan x1 x2 x3 => exact .chan (kk x1) x2 x3
  · obtain ⟨o, h1, h2, h3⟩ := W.fp a ha
    exact ⟨o, hs _ _ h1 h3, h2, h3⟩
end
theorem kw_M6 : True := by
  k_with "exec For Name Call cons nil" => (k_here; (rename Fr _ _ _ _ => lF'); (with_unfolding_all refine' For_turns lF' ?_); k_whole)
  k_with "exec For Name Name cons nil" => (k_here; (rename Fr _ _ _ _ => lF'); (with_unfolding_all refine' For_turns lF' ?_); k_whole)
  trivial
section
theorem part_all {w : World} {mean : ExcName → Option Value} {mg mb : Str → Option Value} {dp un : Nat} {gd : Option (List Code)} {cn : Str} {cs : Scope} {a : Addr} {ccd : Value} {cl : List (Str × Addr)} {outer : List Env} {A₀ : Around} {base h₀ : Heap} {L : Addr} {m : Str → Option Value} {news : List (Addr × Obj)} {s : Shared} {Q E : Value → Shared → Prop}
    (B : Below A₀ base outer h₀) (F : Fr h₀ L s.heap m) (X : (hd.heap_39 w.params).In h₀) (N : News h₀ L s.heap news) (T : Top PP LL mean mg mb h₀) (hk : cs.kind = .function) (hdp : dp + 120 < recursionLimit) (hun : un + 1000 < cLine)
    {pv : PV} {v : Value} {is : List Int} {vs : List Value} {n : Nat} {st : Addr} (hv : Rep news pv v) (hs : (st, tupO vs n) ∈ news) (hi : Ints vs is)
    (hret : ∀ q v' h' tk', pv.at is = some q → Rep news q v' → Fr h₀ L h' m → News h₀ L h' news → Q v' { s with heap := h', toks := tk' })
    (hE : pv.at is = none → FailP base h₀ L m (envX cn cs L a ccd cl :: outer) news s (Str.ofString "place") E) :
    wpAny (model Prg w) (ktrTop dp un gd cn cs L a ccd cl outer) (call (.ref 75) [v, .ref st]) Q E s := by
  have hfill : (hd.heap_39 = hd.heap_39 ∧ PySem.Challenge.rw_pf0075_01 = PySem.Challenge.rw_pf0075_01) → True := by
    k_fill
    intro _; trivial
  clear hfill
  refine wpAny_call ?_
  k_dflt cell_enter
  k_steps
  rename News _ _ _ _ => lN
  rename Fr _ _ _ (fun y => _) => lF
  refine iter_tupM (vs := vs) (n := n) lF lN (fun m₀ k m' news' => news' = news ∧ ∃ pk vk, pv.at (is.take k) = some pk ∧ Rep news pk vk ∧ m' (Str.ofString "V") = some vk ∧ ∀ y, y ≠ Str.ofString "V" → y ≠ Str.ofString "step" → m' y = m₀ y) ⟨rfl, pv, v, rfl, hv, rfl, fun _ _ _ => rfl⟩ (fun i m news hJ => by rw [hJ.1]; exact hs) ?_ ?_ rfl
  · intro I i vx m₁ news₁ h tk o hx hJ hc F N hn
    obtain ⟨rfl, pk, vk, h1, h2, h3, h4⟩ := hJ
    obtain ⟨j, t, hj, rfl⟩ := hi.item hx
    have hm := m_two _ _ h4
    rw [h3] at hm
    rw [hm] at F
    clear lF lN hm h4 h3
    k_steps
    · rename RaisedD _ _ _ _ _ _ _ _ => R
      rename getL _ _ = _ => q1
      rename Fr h₀ L _ m => FG
      rename PV.inner _ _ = _ => e0
      exact hE (at_none (i + 1) ((at_take h1 hj).trans e0)) _ _ _ _ _ _ _ _ FG (R.sub fun p hp => by rcases List.mem_cons.mp hp with rfl | hp <;> k_mem) q1
    · rename PV.inner _ _ = _ => e0
      rename Rep ((I, o) :: _) _ _ => r0
      rename Fr _ _ _ _ => lF
      rename News _ _ _ _ => lN
      exact EndJ.next lF lN news₁ (by k_mem) (fun p hp => by k_mem) hn ⟨rfl, _, _, (at_take h1 hj).trans e0, r0.drop1 hc, rfl, fun y a b => by simp only [if_neg a, if_neg b]⟩
  · intro m₁ news₁ h tk hJ F N
    obtain ⟨rfl, pk, vk, h1, h2, h3, h4⟩ := hJ
    have hm := m_two _ _ h4
    rw [h3] at hm
    rw [hm] at F
    clear lF lN hm h4 h3
    k_steps
    rename Fr h₀ L _ m => kF
    rename News h₀ L _ _ => kN
    rw [hi.1, List.take_length] at h1
    exact hret _ _ _ _ h1 h2 kF kN
end
theorem kw_M7 : True := by
  k_with_none
  k_with "exec Raise some none" => (k_here; refine Raise_any rfl ?_)
  k_with "mine fault_made" => (k_here; k_dflt (refine fault_made (by k_asm) (by k_asm) (by k_asm) (by k_asm) (by k_asm) (by rfl) (by ktr_room) (by ktr_units) ?_; k_whole; intros))
  k_with "call ref" => walk_at "mine fault_made"
  k_with "MadeThen" => (refine madeThen_intro (by k_asm) (by k_asm) (by k_asm) ?_)
  k_with "call builtin:len" => (k_here; (with_reducible show wpAny _ _ (call (Value.builtin "len") [Value.ref _]) _ _ _); k_dflt (refine len_T (by exact News.isTup (by k_asm) (by k_mem)) (by first | assumption | decide) ?_; k_whole))
  k_with "subscriptTail" => (k_here; (with_reducible show wpAny _ _ (subscriptTail _ _ (Value.ref _) (Value.int _ _)) _ _ _); k_dflt (refine item_tupleT (by exact News.isTup (by k_asm) (by k_mem)) (by first | decide | omega) (by first | decide | omega) (by first | rfl | assumption | exact seq0 _ _) (by first | rfl | assumption) ?_; k_whole))
  k_with "mine fail" => (intros; unfold FailP; intros; (try dsimp only))
  k_with "mine rep" => first | assumption | exact Rep.up (by assumption) (fun _ hq => by k_mem) | exact Rep.up (RowRep.item (by assumption) (by assumption)) (fun _ hq => by k_mem)
  k_with "mine inner_all" => (k_here; k_dflt (refine inner_all (by k_asm) (by k_asm) (by k_asm) (by k_asm) (by k_asm) (by rfl) (by ktr_room) (by ktr_units) (by walk_at "mine rep") ?_ ?_; intros; (try dsimp only); rotate_left 1; walk_at "mine fail"))
  k_with "call ref" => walk_at "mine inner_all"
  k_with "subscriptTail" => (k_here; (with_reducible show wpAny _ _ (subscriptTail _ _ (Value.ref _) (Value.int _ _)) _ _ _); k_dflt (refine item_litK (by exact News.isList (by k_asm) (by k_mem)) (by first | decide | omega) (by first | decide | omega) (by first | rfl | assumption) ?_ (by with_unfolding_all rfl); k_whole))
  k_with "mine cut" => first | (refine cut_to (by k_asm) (by k_asm) (by k_mem) (by first | assumption | omega) (by first | assumption | omega) (by first | assumption | omega) ?_ (by with_unfolding_all rfl) (by (intro _; with_unfolding_all rfl)); k_whole; intros; (try dsimp only)) | (refine cut_from (by k_asm) (by k_asm) (by k_mem) (by first | assumption | omega) (by first | assumption | omega) (by first | assumption | omega) ?_ (by with_unfolding_all rfl) (by (intro _; with_unfolding_all rfl)); k_whole; intros; (try dsimp only))
  k_with "subscriptTail Name Slice ref ref" => (k_here; k_dflt (walk_at "mine cut"))
  k_with "subscriptTail Subscript" => (k_here; (with_reducible show wpAny _ _ (subscriptTail _ _ (Value.ref _) (Value.ref _)) _ _ _); k_dflt (walk_at "mine cut"))
  k_with "binaryOp Add ref ref" => (k_here; k_dflt (refine add_T (by k_asm) (by k_asm) (by k_mem) (by k_mem) (by first | omega | (simp; done) | (simp; omega) | (simp only [List.length_append, List.length_take, List.length_drop, List.length_cons, List.length_nil]; omega)) ?_; k_whole); intros; (try dsimp only))
  k_with "mine notin" => (k_here; k_dflt (first | (refine mix_out (by k_asm) (by k_mem) (by assumption) (by assumption) (by assumption) (by assumption) ?_; k_whole) | (refine mix_in (by k_asm) (by k_mem) (by assumption) (by assumption) (by assumption) (by assumption) ?_; k_whole)))
  k_with "compareOp NotIn int ref" => walk_at "mine notin"
  k_with "compareOp NotIn str ref" => walk_at "mine notin"
  k_with "mine item" => (k_here; k_dflt (refine mix_item (by k_asm) (by k_mem) (by assumption) (by assumption) (by assumption) ?_ (by with_unfolding_all rfl) (by (intro _; with_unfolding_all rfl)); k_whole))
  k_with "subscriptTail" => walk_at "mine item"
  k_with "subscriptTail Attribute" => walk_at "mine item"
  k_with "compareOp Eq ref ref" => (k_here; k_dflt (refine eq_nil (by k_asm) (by k_mem) (by k_mem) (by ktr_units) ?_; k_whole); (try dsimp only [List.isEmpty]))
  k_with "call builtin:len" => (k_here; (with_reducible show wpAny _ _ (call (Value.builtin "len") [Value.ref _]) _ _ _); k_dflt (refine len_L (by k_asm) (by k_mem) (by first | assumption | decide) ?_; k_whole))
  k_with "mine fail0" => (unfold FailP; intros; (try dsimp only))
  k_with "mine setattr" => (k_here; k_dflt (refine set_dict (by k_asm) (by k_asm) (by k_asm) (by k_inst) (by exact rfl) (by k_is) (by k_is) (by k_is) (by k_is) (by k_get) (by exact rfl) (by k_upd) (by exact Nat.le_of_ble_eq_true rfl) ?_; k_whole; intros; (try k_sweep)))
  k_with "setAttr ref" => walk_at "mine setattr"
  k_with "exec For Name Call cons nil" => (k_here; (rename Fr _ _ _ _ => lF'); (with_unfolding_all refine' For_turns lF' ?_); k_whole)
  k_with "exec For Name Name cons nil" => (k_here; (rename Fr _ _ _ _ => lF'); (with_unfolding_all refine' For_turns lF' ?_); k_whole)
  trivial
section
theorem with_all {w : World} {mean : ExcName → Option Value} {mg mb : Str → Option Value} {dp un : Nat} {gd : Option (List Code)} {cn : Str} {cs : Scope} {a : Addr} {ccd : Value} {cl : List (Str × Addr)} {outer : List Env} {A₀ : Around} {base h₀ : Heap} {L : Addr} {m : Str → Option Value} {news : List (Addr × Obj)} {s : Shared} {Q E : Value → Shared → Prop}
    (B : Below A₀ base outer h₀) (F : Fr h₀ L s.heap m) (X : (hd.heap_39 w.params).In h₀) (N : News h₀ L s.heap news) (T : Top PP LL mean mg mb h₀) (hk : cs.kind = .function) (hdp : dp + 120 < recursionLimit) (hun : un + 1000 < cLine)
    {pv q : PV} {v part : Value} {is : List Int} {vs : List Value} {n : Nat} {st : Addr} (hv : Rep news pv v) (hs : (st, tupO vs n) ∈ news) (hi : Ints vs is) (hz : is.length ≤ 900) (hq : Rep news q part) (hok : ∃ old, pv.at is = some old)
    (hret : ∀ v' h' tk' ex, Rep (ex ++ news) (pv.with is q) v' → (∀ p ∈ ex, p.2.cls = .type "tuple") → Fr h₀ L h' m → News h₀ L h' (ex ++ news) → Q v' { s with heap := h', toks := tk' }) :
    wpAny (model Prg w) (ktrTop dp un gd cn cs L a ccd cl outer) (call (.ref 82) [v, .ref st, part]) Q E s := by
  have hfill : (hd.heap_39 = hd.heap_39 ∧ PySem.Challenge.rw_pf0075_01 = PySem.Challenge.rw_pf0075_01) → True := by
    k_fill
    intro _; trivial
  clear hfill
  refine wpAny_call ?_
  k_dflt cell_enter
  k_steps
  rename News _ _ _ _ => lN
  rename Fr _ _ _ (fun y => _) => lF
  rename ∀ p : Addr × Obj, p ∈ news → p.1 < _ => l1
  refine iter_tupM (vs := vs) (n := n) lF lN (fun m₀ k m' news' => ∃ al ws nn vk, news' = (al, listOf ws.toArray nn) :: news ∧ (∀ p ∈ news, p.1 ≠ al) ∧ ws.length = k ∧ (∀ j < k, ∃ pj vj, pv.at (is.take j) = some pj ∧ ws[j]? = some vj ∧ Rep news pj vj) ∧ (∃ pk, pv.at (is.take k) = some pk ∧ Rep news pk vk) ∧
    m' (Str.ofString "above") = some (.ref al) ∧ m' (Str.ofString "V") = some vk ∧ ∀ y, y ≠ Str.ofString "above" → y ≠ Str.ofString "V" → y ≠ Str.ofString "step" → m' y = m₀ y)
    ⟨_, [], 0, v, rfl, fun p hp => Nat.ne_of_lt (l1 p hp), rfl, fun j hj => absurd hj (Nat.not_lt_zero _), ⟨pv, rfl, hv⟩, rfl, rfl, fun _ _ _ _ => rfl⟩ (fun i m news hJ => by obtain ⟨al, ws, nn, vk, rfl, _⟩ := hJ; exact .tail _ hs) ?_ ?_ rfl
  · intro I i vx m₁ news₁ h tk o hx hJ hc F N hn
    refine hide fun GG9 hG9 => ?_
    obtain ⟨al, ws, nn, vk, rfl, h1, h2, h3, ⟨pk, h4, h5⟩, h6, h7, h8⟩ := hJ
    refine hG9 ?_
    clear hG9 GG9
    obtain ⟨j, t, hj, rfl⟩ := hi.item hx
    obtain ⟨pn, e1⟩ := at_prefix hok.choose_spec (i + 1)
    rw [at_take h4 hj] at e1
    have hm := m_three _ _ _ h8
    rw [h6, h7] at hm
    rw [hm] at F
    have wz : ws.toArray.size ≤ sizeLine := by
      have := (List.getElem?_eq_some_iff.mp hj).1
      rw [List.size_toArray, sizeLine_eq]; omega
    have hal : ∀ p ∈ (I, o) :: news, p.1 ≠ al := fun p hp => by
      rcases List.mem_cons.mp hp with rfl | hp
      · exact fun q => hn _ (.head _) q.symm
      · exact h1 p hp
    replace N : News _ _ h ((al, listOf ws.toArray nn) :: (I, o) :: news) := News.perm N fun p hp => by
      rcases List.mem_cons.mp hp with rfl | hp
      · exact .tail _ (.head _)
      rcases List.mem_cons.mp hp with rfl | hp
      · exact .head _
      · exact .tail _ (.tail _ hp)
    clear lF lN hm h6 h7 h8 l1
    iterate 2 (first | (k_unfold; (try dsimp only)) | walk1)
    (try k_fold)
    k_steps
    · rename PV.inner _ _ = _ => e0
      cases e0.symm.trans e1
    · rename PV.inner _ _ = some _ => e0
      rename Rep (_ :: (I, o) :: _) _ _ => r0
      rename Fr _ _ _ _ => lF
      rename News _ _ _ _ => lN
      rw [List.push_toArray] at lN
      have r1 := (r0.drop1 (C := "list") rfl).drop1 hc
      refine EndJ.next lF lN ((al, listOf (ws ++ [vk]).toArray (nn + 1)) :: news) (by k_mem) (fun p hp => by rcases List.mem_cons.mp hp with rfl | hp <;> k_mem) (fun p hp => ?_) ⟨al, _, _, _, rfl, h1, by rw [List.length_append, h2]; rfl, fun jj hjj => ?_, ⟨_, (at_take h4 hj).trans e0, r1⟩, rfl, rfl, fun y a b c => by simp only [if_neg a, if_neg b, if_neg c]⟩
      · rcases List.mem_cons.mp hp with rfl | hp
        · exact fun q => hal _ (.head _) q.symm
        · exact hn _ (.tail _ hp)
      · by_cases q : jj < i
        · refine hide fun GG9 hG9 => ?_
          obtain ⟨pj, vj, a1, a2, a3⟩ := h3 jj q
          refine hG9 ?_
          clear hG9 GG9
          exact ⟨pj, vj, a1, by rw [List.getElem?_append_left (by rw [h2]; exact q)]; exact a2, a3⟩
        · obtain rfl : jj = i := by omega
          exact ⟨pk, vk, h4, by rw [← h2, List.getElem?_append_right (Nat.le_refl _), Nat.sub_self]; rfl, h5⟩
  · intro m₁ news₁ h tk hJ F N
    refine hide fun GG9 hG9 => ?_
    obtain ⟨al, ws, nn, vk, rfl, h1, h2, h3, ⟨pk, h4, h5⟩, h6, h7, h8⟩ := hJ
    refine hG9 ?_
    clear hG9 GG9
    have hm := m_three _ _ _ h8
    rw [h6, h7] at hm
    rw [hm] at F
    clear lF lN hm h6 h7 h8 l1
    have hvz : vs.length ≤ 1000 := by rw [hi.1]; omega
    iterate 2 (first | (k_unfold; (try dsimp only)) | walk1)
    (try k_fold)
    k_steps
    rename IsRange _ _ _ _ _ _ _ _ => hr
    rename News _ _ _ ((al, _) :: news) => lN
    rename Fr _ _ _ (fun y => _) => lF
    have hlen : vs.length = is.length := hi.1
    obtain ⟨old, hold⟩ := hok
    refine iter_rangeM vs.length hr ?_ ?_ lF lN (fun m₀ k m' news' => ∃ ex fk, news' = ex ++ (al, listOf ws.toArray nn) :: news ∧ (∀ p ∈ ex, p.2.cls = .type "tuple") ∧ (∃ pk, pv.at (is.take (is.length - k)) = some pk ∧ Rep news' (pk.with (is.drop (is.length - k)) q) fk) ∧ m' (Str.ofString "found") = some fk ∧
      ∀ y, y ≠ Str.ofString "found" → y ≠ Str.ofString "at" → y ≠ Str.ofString "here" → m' y = m₀ y) ?_ ?_ ?_ rfl
    · exact small_down vs.length hvz
    · exact size_down vs.length
    · refine ⟨[], part, rfl, ?_, ⟨old, ?_, ?_⟩, rfl, fun _ _ _ _ => rfl⟩
      · intro p hp; cases hp
      · rw [Nat.sub_zero, List.take_length]; exact hold
      · rw [Nat.sub_zero, List.drop_length]; exact hq.cons
    · intro I i t m₁ news₁ h tk o hlt hJ hc F N hn
      refine hide fun GG9 hG9 => ?_
      obtain ⟨ex, fk, rfl, g1, ⟨pk1, g2, g3⟩, g4, g5⟩ := hJ
      refine hG9 ?_
      clear hG9 GG9
      have hm := m_three _ _ _ g5
      rw [g4] at hm
      rw [hm] at F
      obtain ⟨jn, hjn⟩ : ∃ jn, jn = vs.length - 1 - i := ⟨_, rfl⟩
      have hat : ((vs.length : Int) - 1) + (i : Int) * (-1) = (jn : Int) := by omega
      rw [hat]
      refine hide fun GG9 hG9 => ?_
      obtain ⟨pj, vj, a1, a2, a3⟩ := h3 jn (by omega)
      refine hG9 ?_
      clear hG9 GG9
      have hjl : jn < is.length := by omega
      have b1 := at_take a1 (List.getElem?_eq_getElem hjl)
      have ejn : is.length - i = jn + 1 := by omega
      rw [ejn] at g2 g3
      rw [g2] at b1
      obtain ⟨tj, c1⟩ := hi.2 jn _ (List.getElem?_eq_getElem hjl)
      generalize hij : is[jn] = ij at b1 c1
      cases a3 with
      | int => cases b1
      | @agg arr ps x p t n1 n2 us k1 k2 k3 k4 k5 =>
        have b2 : (if 0 ≤ ij then ps[ij.toNat]? else none) = some pk1 := b1.symm
        have h0 : 0 ≤ ij := by
          by_cases z : 0 ≤ ij
          · exact z
          · rw [if_neg z] at b2; cases b2
        rw [if_pos h0] at b2
        have b3 := (List.getElem?_eq_some_iff.mp b2).1
        have b4 : ij < us.length := by omega
        have b5 : us.length ≤ 900 := by omega
        have b6 : us.length ≤ 1000 := by omega
        have hw : ws[((jn : Nat) : Int).toNat]? = some (.ref x) := a2
        have hsq : seqIndex? (jn : Int) vs.length = some jn := by
          have n0 : ¬ (jn : Int) < 0 := by omega
          simp only [seqIndex?, n0, if_false]
          rw [if_pos (by simp; omega)]; rfl
        have h7 : (jn : Int) < 1000 := by omega
        have b7 : 1 ≤ ij + 1 := by omega
        have b8 : ij + 1 ≤ us.length := by omega
        have m1 : (x, tupO [.str (tagOf arr) t, .ref p] n1) ∈ ex ++ (al, listOf ws.toArray nn) :: news := List.mem_append_right _ (.tail _ k1)
        have m2 : (p, tupO us n2) ∈ ex ++ (al, listOf ws.toArray nn) :: news := List.mem_append_right _ (.tail _ k2)
        have m3 : (st, tupO vs n) ∈ ex ++ (al, listOf ws.toArray nn) :: news := List.mem_append_right _ (.tail _ hs)
        have m4 : (al, listOf ws.toArray nn) ∈ ex ++ (al, listOf ws.toArray nn) :: news := List.mem_append_right _ (.head _)
        clear lF lN hm g4 g5 hr hat
        iterate 2 (first | (k_unfold; (try dsimp only)) | walk1)
        (try k_fold)
        k_steps
        rename News _ _ _ ((_, _) :: _ :: _) => lN
        rename Fr _ _ _ (fun y => _) => lF
        have et : (ij + 1).toNat = ij.toNat + 1 := by omega
        rw [et] at lN
        refine EndJ.two lF lN hn (by rw [hc]; show Value.type "tuple" ≠ Value.type "range_iterator"; decide) (by rw [hc]; show Value.type "tuple" ≠ Value.type "range_iterator"; decide) ⟨_ :: _ :: ex, _, rfl, ?_, ⟨.agg arr ps, ?_, ?_⟩, rfl, fun y a b c => by simp only [if_neg a, if_neg b, if_neg c]⟩
        · intro p hp
          rcases List.mem_cons.mp hp with rfl | hp
          · rfl
          rcases List.mem_cons.mp hp with rfl | hp
          · rfl
          · exact g1 p hp
        · rw [show is.length - (i + 1) = jn by omega]; exact a1
        · rw [show is.length - (i + 1) = jn by omega, List.drop_eq_getElem_cons hjl, hij]
          show Rep _ (.agg arr (ps.set ij.toNat (((ps[ij.toNat]?).getD (.int 0)).with (is.drop (jn + 1)) q))) _
          rw [b2]
          exact rep_set (n := 0) (.head _) (.tail _ (.head _)) k3 k4 (fun i v q hv hp => (k5 i v q hv hp).up fun p hp => .tail _ (.tail _ (List.mem_append_right _ (.tail _ hp)))) (g3.up fun p hp => .tail _ (.tail _ hp)) (by omega)
    · intro m₁ news₁ h tk hJ F N
      refine hide fun GG9 hG9 => ?_
      obtain ⟨ex, fk, rfl, g1, ⟨pk1, g2, g3⟩, g4, g5⟩ := hJ
      refine hG9 ?_
      clear hG9 GG9
      have hm := m_three _ _ _ g5
      rw [g4] at hm
      rw [hm] at F
      clear lF lN hm g4 g5 hr
      k_steps
      rename Fr h₀ L _ m => kF
      rename News h₀ L _ _ => kN
      rw [hlen, Nat.sub_self, List.take_zero] at g2
      rw [hlen, Nat.sub_self, List.drop_zero] at g3
      cases g2
      exact hret _ _ _ ex (rep_skip g3 (by show Value.type "list" ≠ Value.type "tuple"; decide)) g1 kF (news_skip kN)
end
theorem kw_M8 : True := by
  k_with_none
  k_with "exec Raise some none" => (k_here; refine Raise_any rfl ?_)
  k_with "mine fault_made" => (k_here; k_dflt (refine fault_made (by k_asm) (by k_asm) (by k_asm) (by k_asm) (by k_asm) (by rfl) (by ktr_room) (by ktr_units) ?_; k_whole; intros))
  k_with "call ref" => walk_at "mine fault_made"
  k_with "MadeThen" => (refine madeThen_intro (by k_asm) (by k_asm) (by k_asm) ?_)
  k_with "call builtin:len" => (k_here; (with_reducible show wpAny _ _ (call (Value.builtin "len") [Value.ref _]) _ _ _); k_dflt (refine len_T (by exact News.isTup (by k_asm) (by k_mem)) (by first | assumption | decide) ?_; k_whole))
  k_with "subscriptTail" => (k_here; (with_reducible show wpAny _ _ (subscriptTail _ _ (Value.ref _) (Value.int _ _)) _ _ _); k_dflt (refine item_tupleT (by exact News.isTup (by k_asm) (by k_mem)) (by first | decide | omega) (by first | decide | omega) (by first | rfl | assumption | exact seq0 _ _) (by first | rfl | assumption) ?_; k_whole))
  k_with "mine fail" => (intros; unfold FailP; intros; (try dsimp only))
  k_with "mine rep" => first | assumption | exact Rep.up (by assumption) (fun _ hq => by k_mem) | exact Rep.up (RowRep.item (by assumption) (by assumption)) (fun _ hq => by k_mem)
  k_with "mine inner_all" => (k_here; k_dflt (refine inner_all (by k_asm) (by k_asm) (by k_asm) (by k_asm) (by k_asm) (by rfl) (by ktr_room) (by ktr_units) (by walk_at "mine rep") ?_ ?_; intros; (try dsimp only); rotate_left 1; walk_at "mine fail"))
  k_with "call ref" => walk_at "mine inner_all"
  k_with "subscriptTail" => (k_here; (with_reducible show wpAny _ _ (subscriptTail _ _ (Value.ref _) (Value.int _ _)) _ _ _); k_dflt (refine item_litK (by exact News.isList (by k_asm) (by k_mem)) (by first | decide | omega) (by first | decide | omega) (by first | rfl | assumption) ?_ (by with_unfolding_all rfl); k_whole))
  k_with "mine cut" => first | (refine cut_to (by k_asm) (by k_asm) (by k_mem) (by first | assumption | omega) (by first | assumption | omega) (by first | assumption | omega) ?_ (by with_unfolding_all rfl) (by (intro _; with_unfolding_all rfl)); k_whole; intros; (try dsimp only)) | (refine cut_from (by k_asm) (by k_asm) (by k_mem) (by first | assumption | omega) (by first | assumption | omega) (by first | assumption | omega) ?_ (by with_unfolding_all rfl) (by (intro _; with_unfolding_all rfl)); k_whole; intros; (try dsimp only))
  k_with "subscriptTail Name Slice ref ref" => (k_here; k_dflt (walk_at "mine cut"))
  k_with "subscriptTail Subscript" => (k_here; (with_reducible show wpAny _ _ (subscriptTail _ _ (Value.ref _) (Value.ref _)) _ _ _); k_dflt (walk_at "mine cut"))
  k_with "binaryOp Add ref ref" => (k_here; k_dflt (refine add_T (by k_asm) (by k_asm) (by k_mem) (by k_mem) (by first | omega | (simp; done) | (simp; omega) | (simp only [List.length_append, List.length_take, List.length_drop, List.length_cons, List.length_nil]; omega)) ?_; k_whole); intros; (try dsimp only))
  k_with "mine notin" => (k_here; k_dflt (first | (refine mix_out (by k_asm) (by k_mem) (by assumption) (by assumption) (by assumption) (by assumption) ?_; k_whole) | (refine mix_in (by k_asm) (by k_mem) (by assumption) (by assumption) (by assumption) (by assumption) ?_; k_whole)))
  k_with "compareOp NotIn int ref" => walk_at "mine notin"
  k_with "compareOp NotIn str ref" => walk_at "mine notin"
  k_with "mine item" => (k_here; k_dflt (refine mix_item (by k_asm) (by k_mem) (by assumption) (by assumption) (by assumption) ?_ (by with_unfolding_all rfl) (by (intro _; with_unfolding_all rfl)); k_whole))
  k_with "subscriptTail" => walk_at "mine item"
  k_with "subscriptTail Attribute" => walk_at "mine item"
  k_with "compareOp Eq ref ref" => (k_here; k_dflt (refine eq_nil (by k_asm) (by k_mem) (by k_mem) (by ktr_units) ?_; k_whole); (try dsimp only [List.isEmpty]))
  k_with "call builtin:len" => (k_here; (with_reducible show wpAny _ _ (call (Value.builtin "len") [Value.ref _]) _ _ _); k_dflt (refine len_L (by k_asm) (by k_mem) (by first | assumption | decide) ?_; k_whole))
  k_with "mine fail0" => (unfold FailP; intros; (try dsimp only))
  k_with "mine setattr" => (k_here; k_dflt (refine set_dict (by k_asm) (by k_asm) (by k_asm) (by k_inst) (by exact rfl) (by k_is) (by k_is) (by k_is) (by k_is) (by k_get) (by exact rfl) (by k_upd) (by exact Nat.le_of_ble_eq_true rfl) ?_; k_whole; intros; (try k_sweep)))
  k_with "setAttr ref" => walk_at "mine setattr"
  trivial
section
theorem led_all {w : World} {mean : ExcName → Option Value} {mg mb : Str → Option Value} {dp un : Nat} {gd : Option (List Code)} {cn : Str} {cs : Scope} {a : Addr} {ccd : Value} {cl : List (Str × Addr)} {outer : List Env} {A₀ : Around} {base h₀ : Heap} {L : Addr} {m : Str → Option Value} {news : List (Addr × Obj)} {s : Shared} {Q E : Value → Shared → Prop}
    (B : Below A₀ base outer h₀) (F : Fr h₀ L s.heap m) (X : (hd.heap_39 w.params).In h₀) (N : News h₀ L s.heap news) (T : Top PP LL mean mg mb h₀) (hk : cs.kind = .function) (hdp : dp + 120 < recursionLimit) (hun : un + 1000 < cLine)
    {v : Value} {key : Ky} {path : List Int} (hl : LocRep news v key path)
    (hret : ∀ v' h' tk' ex, FlatLoc (ex ++ news) v' key path → (∀ p ∈ ex, p.2.cls = .type "tuple") → Fr h₀ L h' m → News h₀ L h' (ex ++ news) → Q v' { s with heap := h', toks := tk' }) :
    wpAny (model Prg w) (ktrTop dp un gd cn cs L a ccd cl outer) (call (.ref 89) [v]) Q E s := by
  have hfill : (hd.heap_39 = hd.heap_39 ∧ PySem.Challenge.rw_pf0075_01 = PySem.Challenge.rw_pf0075_01) → True := by
    k_fill
    intro _; trivial
  clear hfill
  cases hl with
  | flat hf =>
    obtain ⟨l, p, n, n', num, vs, rfl, h1, h2, h3, h4, h5⟩ := id hf
    rcases isKy_shape h2 with ⟨i, t, rfl, rfl⟩ | ⟨x, t, rfl, rfl⟩
    all_goals refine wpAny_call ?_
    all_goals k_dflt cell_enter
    all_goals k_steps
    all_goals rename Fr h₀ L _ m => kF
    all_goals rename News h₀ L _ _ => kN
    all_goals exact hret _ _ _ [] hf (fun p hp => nomatch hp) kF kN
  | @nest l nl p n n' vs key pre path' h1 hf h2 h3 h4 =>
    obtain ⟨_, p0, n0, n0', num, vs0, e, g1, g2, g3, g4, g5⟩ := hf
    cases e
    have z : vs0.length + vs.length ≤ 800 := by rw [g4.1, h3.1, ← List.length_append]; exact h4
    refine wpAny_call ?_
    k_dflt cell_enter
    k_steps
    rename Fr h₀ L _ m => kF
    rename News h₀ L _ _ => kN
    refine hret _ _ _ [(_, _), (_, _)] ⟨_, _, 0, _, _, _, rfl, .head _, g2, .tail _ (.head _), g4.app h3, h4⟩ (fun p hp => ?_) kF kN
    rcases List.mem_cons.mp hp with rfl | hp
    · rfl
    · rw [List.mem_singleton.mp hp]
end
section
theorem kept_all {w : World} {mean : ExcName → Option Value} {mg mb : Str → Option Value} {dp un : Nat} {gd : Option (List Code)} {cn : Str} {cs : Scope} {a : Addr} {ccd : Value} {cl : List (Str × Addr)} {outer : List Env} {A₀ : Around} {base h₀ : Heap} {L : Addr} {m : Str → Option Value} {news : List (Addr × Obj)} {s : Shared} {Q E : Value → Shared → Prop}
    (B : Below A₀ base outer h₀) (F : Fr h₀ L s.heap m) (X : (hd.heap_39 w.params).In h₀) (N : News h₀ L s.heap news) (T : Top PP LL mean mg mb h₀) (hk : cs.kind = .function) (hdp : dp + 120 < recursionLimit) (hun : un + 1000 < cLine)
    {hp kd : Addr} {g : Int} {kvs : List (Ky × Value)} {key : Ky} {num : Value} (H : HeapAt w news hp kd g kvs) (hn : isKy key num = true)
    (hret : ∀ v' h' tk', valueAt kvs key = some v' → Fr h₀ L h' m → News h₀ L h' news → Q v' { s with heap := h', toks := tk' })
    (hE : valueAt kvs key = none → FailP base h₀ L m (envX cn cs L a ccd cl :: outer) news s (Str.ofString "escaped") E) :
    wpAny (model Prg w) (ktrTop dp un gd cn cs L a ccd cl outer) (call (.ref 152) [.ref hp, num]) Q E s := by
  have hfill : (hd.heap_39 = hd.heap_39 ∧ PySem.Challenge.rw_pf0075_01 = PySem.Challenge.rw_pf0075_01) → True := by
    k_fill
    intro _; trivial
  clear hfill
  obtain ⟨lo, hlen, hx, h1, h2, h3, h4, h5, t1, t2, t3, t4, t5, tg, t0, n, ko, m1, m2, m3, hd⟩ := H
  rcases isKy_shape hn with ⟨i, t, rfl, rfl⟩ | ⟨x, t, rfl, rfl⟩
  all_goals cases e : valueAt kvs _
  all_goals refine wpAny_call ?_
  all_goals k_dflt cell_enter
  all_goals k_steps
  all_goals first
    | (rename RaisedD _ _ _ _ _ _ _ _ => R; rename getL _ _ = _ => q1; rename Fr h₀ L _ m => FG; exact hE e _ _ _ _ _ _ _ _ FG (R.sub fun p hp => by rcases List.mem_cons.mp hp with rfl | hp <;> k_mem) q1)
    | (rename Fr h₀ L _ m => kF; rename News h₀ L _ _ => kN; exact hret _ _ _ e kF kN)
theorem kept_ok {w : World} {mean : ExcName → Option Value} {mg mb : Str → Option Value} {dp un : Nat} {gd : Option (List Code)} {cn : Str} {cs : Scope} {a : Addr} {ccd : Value} {cl : List (Str × Addr)} {outer : List Env} {A₀ : Around} {base h₀ : Heap} {L : Addr} {m : Str → Option Value} {news : List (Addr × Obj)} {s : Shared} {Q E : Value → Shared → Prop}
    (B : Below A₀ base outer h₀) (F : Fr h₀ L s.heap m) (X : (hd.heap_39 w.params).In h₀) (N : News h₀ L s.heap news) (T : Top PP LL mean mg mb h₀) (hk : cs.kind = .function) (hdp : dp + 120 < recursionLimit) (hun : un + 1000 < cLine)
    {hp kd : Addr} {g : Int} {kvs : List (Ky × Value)} {key : Ky} {num v : Value} (H : HeapAt w news hp kd g kvs) (hn : isKy key num = true) (he : valueAt kvs key = some v)
    (hret : ∀ h' tk', Fr h₀ L h' m → News h₀ L h' news → Q v { s with heap := h', toks := tk' }) :
    wpAny (model Prg w) (ktrTop dp un gd cn cs L a ccd cl outer) (call (.ref 152) [.ref hp, num]) Q E s :=
  kept_all B F X N T hk hdp hun H hn (fun v' h' tk' e F' N' => by rw [he] at e; cases e; exact hret h' tk' F' N') (fun e => by rw [he] at e; cases e)
theorem kept_no {w : World} {mean : ExcName → Option Value} {mg mb : Str → Option Value} {dp un : Nat} {gd : Option (List Code)} {cn : Str} {cs : Scope} {a : Addr} {ccd : Value} {cl : List (Str × Addr)} {outer : List Env} {A₀ : Around} {base h₀ : Heap} {L : Addr} {m : Str → Option Value} {news : List (Addr × Obj)} {s : Shared} {Q E : Value → Shared → Prop}
    (B : Below A₀ base outer h₀) (F : Fr h₀ L s.heap m) (X : (hd.heap_39 w.params).In h₀) (N : News h₀ L s.heap news) (T : Top PP LL mean mg mb h₀) (hk : cs.kind = .function) (hdp : dp + 120 < recursionLimit) (hun : un + 1000 < cLine)
    {hp kd : Addr} {g : Int} {kvs : List (Ky × Value)} {key : Ky} {num : Value} (H : HeapAt w news hp kd g kvs) (hn : isKy key num = true) (he : valueAt kvs key = none)
    (hE : FailP base h₀ L m (envX cn cs L a ccd cl :: outer) news s (Str.ofString "escaped") E) :
    wpAny (model Prg w) (ktrTop dp un gd cn cs L a ccd cl outer) (call (.ref 152) [.ref hp, num]) Q E s :=
  kept_all B F X N T hk hdp hun H hn (fun v' h' tk' e F' N' => by rw [he] at e; cases e) (fun _ => hE)
end
section
theorem cell_all {w : World} {mean : ExcName → Option Value} {mg mb : Str → Option Value} {dp un : Nat} {gd : Option (List Code)} {cn : Str} {cs : Scope} {a : Addr} {ccd : Value} {cl : List (Str × Addr)} {outer : List Env} {A₀ : Around} {base h₀ : Heap} {L : Addr} {m : Str → Option Value} {news : List (Addr × Obj)} {s : Shared} {Q E : Value → Shared → Prop}
    (B : Below A₀ base outer h₀) (F : Fr h₀ L s.heap m) (X : (hd.heap_39 w.params).In h₀) (N : News h₀ L s.heap news) (T : Top PP LL mean mg mb h₀) (hk : cs.kind = .function) (hdp : dp + 120 < recursionLimit) (hun : un + 1000 < cLine)
    {hx lr p : Addr} {vs ps : List Value} {n n' : Nat} {path : List Int} (hl : (lr, listOf vs.toArray n) ∈ news) (hz : vs.length ≤ 900) (hp : (p, tupO ps n') ∈ news) (hi : Ints ps path)
    (hret : ∀ i r t v h' tk', path = i :: r → 0 ≤ i → i < vs.length → vs[i.toNat]? = some v → 1 ≤ ps.length → Fr h₀ L h' m → News h₀ L h' news → Q (.int i t) { s with heap := h', toks := tk' })
    (hE : (∀ i r, path = i :: r → i < 0 ∨ vs.length ≤ i) → FailP base h₀ L m (envX cn cs L a ccd cl :: outer) news s (Str.ofString "place") E) :
    wpAny (model Prg w) (ktrTop dp un gd cn cs L a ccd cl outer) (call (.ref 220) [.ref hx, .ref lr, .ref p]) Q E s := by
  have hfill : (hd.heap_39 = hd.heap_39 ∧ PySem.Challenge.rw_pf0075_01 = PySem.Challenge.rw_pf0075_01) → True := by
    k_fill
    intro _; trivial
  clear hfill
  have hz' : vs.length ≤ 1000 := by omega
  cases path with
  | nil =>
    obtain rfl := hi.nil
    refine wpAny_call ?_
    k_dflt cell_enter
    k_steps
    (rename RaisedD _ _ _ _ _ _ _ _ => R; rename getL _ _ = _ => q1; rename Fr h₀ L _ m => FG; exact hE (fun i r q => nomatch q) _ _ _ _ _ _ _ _ FG (R.sub fun p hp => by rcases List.mem_cons.mp hp with rfl | hp <;> k_mem) q1)
  | cons i r =>
    obtain ⟨t, us, rfl, hi'⟩ := hi.cons
    by_cases h0 : i < 0
    · refine wpAny_call ?_
      k_dflt cell_enter
      k_steps
      (rename RaisedD _ _ _ _ _ _ _ _ => R; rename getL _ _ = _ => q1; rename Fr h₀ L _ m => FG; exact hE (fun i r q => by cases q; exact .inl h0) _ _ _ _ _ _ _ _ FG (R.sub fun p hp => by rcases List.mem_cons.mp hp with rfl | hp <;> k_mem) q1)
    by_cases h1 : (vs.length : Int) ≤ i
    · refine wpAny_call ?_
      k_dflt cell_enter
      k_steps
      (rename RaisedD _ _ _ _ _ _ _ _ => R; rename getL _ _ = _ => q1; rename Fr h₀ L _ m => FG; exact hE (fun i r q => by cases q; exact .inr h1) _ _ _ _ _ _ _ _ FG (R.sub fun p hp => by rcases List.mem_cons.mp hp with rfl | hp <;> k_mem) q1)
    · have h2 : 0 ≤ i := by omega
      have h3 : i < vs.length := by omega
      refine wpAny_call ?_
      k_dflt cell_enter
      k_steps
      rename Fr h₀ L _ m => kF
      rename News h₀ L _ _ => kN
      exact hret _ _ _ _ _ _ rfl h2 h3 (List.getElem?_eq_getElem (by omega)) (by simp) kF (News.perm kN fun p hp => by k_mem)
end
theorem kw_M11 : True := by
  k_with "mine led" => (k_here; k_dflt (refine led_all (by k_asm) (by k_asm) (by k_asm) (by k_asm) (by k_asm) (by rfl) (by ktr_room) (by ktr_units) (by first | assumption | exact LocRep.up (by assumption) (fun _ hq => by k_mem)) ?_; intro zv' zh' ztk' zex' zfl' zxt' zF' zN'; obtain ⟨l', p', n1', n2', num', vs', ev', g1', g2', g3', g4', g5'⟩ := zfl'; subst ev'; (have gz' := Ints.le g4' g5'); (try dsimp only)))
  k_with "call ref" => walk_at "mine led"
  k_with "mine kept_ok" => (k_here; k_dflt (refine kept_ok (by k_asm) (by k_asm) (by k_asm) (by k_asm) (by k_asm) (by rfl) (by ktr_room) (by ktr_units) (by first | assumption | exact HeapAt.up (by assumption) (fun _ hq => by k_mem)) (by assumption) (by assumption) ?_; intros; (try dsimp only)))
  k_with "call ref" => walk_at "mine kept_ok"
  k_with "mine kept_no" => (k_here; k_dflt (refine kept_no (by k_asm) (by k_asm) (by k_asm) (by k_asm) (by k_asm) (by rfl) (by ktr_room) (by ktr_units) (by first | assumption | exact HeapAt.up (by assumption) (fun _ hq => by k_mem)) (by assumption) (by assumption) ?_; walk_at "mine fail0"))
  k_with "call ref" => walk_at "mine kept_no"
  k_with "mine cell_all" => (k_here; k_dflt (refine cell_all (by k_asm) (by k_asm) (by k_asm) (by k_asm) (by k_asm) (by rfl) (by ktr_room) (by ktr_units) (by k_mem) (by assumption) (by k_mem) (by assumption) ?_ ?_; intros; (try dsimp only); rotate_left 1; walk_at "mine fail"))
  k_with "call ref" => walk_at "mine cell_all"
  k_with "mine part_all" => (k_here; k_dflt (refine part_all (by k_asm) (by k_asm) (by k_asm) (by k_asm) (by k_asm) (by rfl) (by ktr_room) (by ktr_units) (by walk_at "mine rep") (by k_mem) (by first | assumption | exact Ints.drop (by assumption) _) ?_ ?_; intros; (try dsimp only); rotate_left 1; walk_at "mine fail"))
  k_with "call ref" => walk_at "mine part_all"
  trivial
section
theorem peek_all {w : World} {mean : ExcName → Option Value} {mg mb : Str → Option Value} {dp un : Nat} {gd : Option (List Code)} {cn : Str} {cs : Scope} {a : Addr} {ccd : Value} {cl : List (Str × Addr)} {outer : List Env} {A₀ : Around} {base h₀ : Heap} {L : Addr} {m : Str → Option Value} {news : List (Addr × Obj)} {s : Shared} {Q E : Value → Shared → Prop}
    (B : Below A₀ base outer h₀) (F : Fr h₀ L s.heap m) (X : (hd.heap_39 w.params).In h₀) (N : News h₀ L s.heap news) (T : Top PP LL mean mg mb h₀) (hk : cs.kind = .function) (hdp : dp + 160 < recursionLimit) (hun : un + 2000 < cLine)
    {hp kd : Addr} {g : Int} {kvs : List (Ky × Value)} {key : Ky} {path : List Int} {v : Value} {ko : Option KObj} (H : HeapAt w news hp kd g kvs) (hl : LocRep news v key path) (hko : KObjAt news kvs key ko)
    (hret : ∀ q v' h' tk' ex, peekP ko path = .ok q → Rep (ex ++ news) q v' → (∀ p ∈ ex, p.2.cls = .type "tuple") → Fr h₀ L h' m → News h₀ L h' (ex ++ news) → Q v' { s with heap := h', toks := tk' })
    (hE : ∀ k, peekP ko path = .error k → FailP base h₀ L m (envX cn cs L a ccd cl :: outer) news s k E) :
    wpAny (model Prg w) (ktrTop dp un gd cn cs L a ccd cl outer) (call (.ref 227) [.ref hp, v]) Q E s := by
  have hfill : (hd.heap_39 = hd.heap_39 ∧ PySem.Challenge.rw_pf0075_01 = PySem.Challenge.rw_pf0075_01) → True := by
    k_fill
    intro _; trivial
  clear hfill
  refine hide fun GG9 hG9 => ?_
  obtain ⟨_, _, hx, d1, d2, d3, d4, d5, e1, e2, e3, e4, e5, tg, t0, np, hko', m1, m2, _, _⟩ := id H
  refine hG9 ?_
  clear hG9 GG9
  cases ko with
  | none =>
    have hv : valueAt kvs key = none := hko
    refine wpAny_call ?_
    k_dflt cell_enter
    k_steps
    (rename RaisedD _ _ _ _ _ _ _ _ => R; rename getL _ _ = _ => q1; rename Fr h₀ L _ m => FG; exact hE _ rfl _ _ _ _ _ _ _ _ FG (R.sub fun p hp => by rcases List.mem_cons.mp hp with rfl | hp <;> k_mem) q1)
  | some o =>
    obtain ⟨kv, hv, hr⟩ := hko
    cases hr with
    | @row k dk lr vs n cells ha h1 h2 h3 =>
      refine hide fun GG9 hG9 => ?_
      obtain ⟨a1, a2, a3, b1, b2, b3, tk, wh, nn, c1, c2⟩ := ha
      refine hG9 ?_
      clear hG9 GG9
      have z1 : vs.length ≤ 900 := by rw [h2.len]; exact h3
      refine wpAny_call ?_
      k_dflt cell_enter
      k_steps
      · rename ∀ (i : Int) (r : List Int), path = i :: r → _ => e0
        (rename RaisedD _ _ _ _ _ _ _ _ => R; rename getL _ _ = _ => q1; rename Fr h₀ L _ m => FG; exact hE _ (peek_cellno h2 e0) _ _ _ _ _ _ _ _ FG (R.sub fun p hp => by rcases List.mem_cons.mp hp with rfl | hp <;> k_mem) q1)
      · rename path = _ :: _ => e0
        rename (0 : Int) ≤ _ => e1
        rename _ < (vs.length : Int) => e2
        rename PV.at _ _ = none => e3
        (rename RaisedD _ _ _ _ _ _ _ _ => R; rename getL _ _ = _ => q1; rename Fr h₀ L _ m => FG; exact hE _ (peek_rowno h2 e0 e1 e2 e3) _ _ _ _ _ _ _ _ FG (R.sub fun p hp => by rcases List.mem_cons.mp hp with rfl | hp <;> k_mem) q1)
      · rename path = _ :: _ => e0
        rename (0 : Int) ≤ _ => e1
        rename _ < (vs.length : Int) => e2
        rename PV.at _ _ = some _ => e3
        rename Rep _ _ _ => r0
        rename ∀ p : Addr × Obj, p ∈ _ → p.2.cls = _ => xt
        rename Fr h₀ L _ m => kF
        rename News h₀ L _ _ => kN
        exact hret _ _ _ _ (_ :: _) (peek_rowok h2 e0 e1 e2 e3) r0 (tup_cons rfl xt) kF kN
    | @var k dk vv pv ha hr =>
      refine hide fun GG9 hG9 => ?_
      obtain ⟨a1, a2, a3, b1, b2, b3, tk, wh, nn, c1, c2⟩ := ha
      refine hG9 ?_
      clear hG9 GG9
      refine wpAny_call ?_
      k_dflt cell_enter
      k_steps
      · rename PV.at _ _ = none => e3
        (rename RaisedD _ _ _ _ _ _ _ _ => R; rename getL _ _ = _ => q1; rename Fr h₀ L _ m => FG; exact hE _ (peek_varno e3) _ _ _ _ _ _ _ _ FG (R.sub fun p hp => by rcases List.mem_cons.mp hp with rfl | hp <;> k_mem) q1)
      · rename PV.at _ _ = some _ => e3
        rename Rep _ _ _ => r0
        rename ∀ p : Addr × Obj, p ∈ _ → p.2.cls = _ => xt
        rename Fr h₀ L _ m => kF
        rename News h₀ L _ _ => kN
        exact hret _ _ _ _ _ (peek_varok e3) r0 xt kF kN
    | @chan k dk c ha =>
      refine hide fun GG9 hG9 => ?_
      obtain ⟨a1, a2, a3, b1, b2, b3, tk, wh, nn, c1, c2⟩ := ha
      refine hG9 ?_
      clear hG9 GG9
      refine wpAny_call ?_
      k_dflt cell_enter
      k_steps
      (rename RaisedD _ _ _ _ _ _ _ _ => R; rename getL _ _ = _ => q1; rename Fr h₀ L _ m => FG; exact hE _ rfl _ _ _ _ _ _ _ _ FG (R.sub fun p hp => by rcases List.mem_cons.mp hp with rfl | hp <;> k_mem) q1)
end
theorem kw_M12 : True := by
  k_with "mine peek_all" => (k_here; k_dflt (refine peek_all (by k_asm) (by k_asm) (by k_asm) (by k_asm) (by k_asm) (by rfl) (by ktr_room) (by ktr_units) (by first | assumption | exact HeapAt.up (by assumption) (fun _ hq => by k_mem)) (by first | assumption | exact LocRep.up (by assumption) (fun _ hq => by k_mem)) (by first | assumption | exact KObjAt.up (by assumption) (fun _ hq => by k_mem)) ?_ ?_; intros; (try dsimp only); rotate_left 1; (intro k0; walk_at "mine fail")))
  k_with "call ref" => walk_at "mine peek_all"
  trivial
section
theorem load_all {w : World} {mean : ExcName → Option Value} {mg mb : Str → Option Value} {dp un : Nat} {gd : Option (List Code)} {cn : Str} {cs : Scope} {a : Addr} {ccd : Value} {cl : List (Str × Addr)} {outer : List Env} {A₀ : Around} {base h₀ : Heap} {L : Addr} {m : Str → Option Value} {news : List (Addr × Obj)} {s : Shared} {Q E : Value → Shared → Prop}
    (B : Below A₀ base outer h₀) (F : Fr h₀ L s.heap m) (X : (hd.heap_39 w.params).In h₀) (N : News h₀ L s.heap news) (T : Top PP LL mean mg mb h₀) (hk : cs.kind = .function) (hdp : dp + 180 < recursionLimit) (hun : un + 2200 < cLine)
    {hp kd : Addr} {g : Int} {kvs : List (Ky × Value)} {key : Ky} {path : List Int} {v : Value} {ko : Option KObj} (H : HeapAt w news hp kd g kvs) (hl : LocRep news v key path) (hko : KObjAt news kvs key ko)
    (hret : ∀ q v' h' tk' ex, peekP ko path = .ok q → Rep (ex ++ news) q v' → (∀ p ∈ ex, p.2.cls = .type "tuple") → Fr h₀ L h' m → News h₀ L h' (ex ++ news) → Q v' { s with heap := h', toks := tk' })
    (hE : ∀ k, peekP ko path = .error k → FailP base h₀ L m (envX cn cs L a ccd cl :: outer) news s k E) :
    wpAny (model Prg w) (ktrTop dp un gd cn cs L a ccd cl outer) (call (.ref 234) [.ref hp, v]) Q E s := by
  have hfill : (hd.heap_39 = hd.heap_39 ∧ PySem.Challenge.rw_pf0075_01 = PySem.Challenge.rw_pf0075_01) → True := by
    k_fill
    intro _; trivial
  clear hfill
  obtain ⟨_, _, hx, d1, d2, d3, d4, d5, e1, e2, e3, e4, e5, tg, t0, np, hko', m1, m2, _, _⟩ := id H
  refine wpAny_call ?_
  k_dflt cell_enter
  k_steps
  · rename peekP _ _ = _ => e0
    (rename RaisedD _ _ _ _ _ _ _ _ => R; rename getL _ _ = _ => q1; rename Fr h₀ L _ m => FG; exact hE _ e0 _ _ _ _ _ _ _ _ FG (R.sub fun p hp => by rcases List.mem_cons.mp hp with rfl | hp <;> k_mem) q1)
  · rename peekP _ _ = _ => e0
    rename Rep _ _ _ => r0
    rename Fr h₀ L _ m => kF
    rename News h₀ L _ _ => kN
    exact hret _ _ _ _ _ e0 r0 (by assumption) kF (News.perm kN fun p hp => List.mem_append_right _ hp)
end
theorem kw_M13 : True := by
  k_with "mine with_all" => (k_here; k_dflt (refine with_all (by k_asm) (by k_asm) (by k_asm) (by k_asm) (by k_asm) (by rfl) (by ktr_room) (by ktr_units) (by walk_at "mine rep") (by k_mem) (by first | assumption | exact Ints.drop (by assumption) _) (by first | assumption | omega | (simp only [List.length_drop]; omega)) (by walk_at "mine rep") (by first | assumption | exact peek_row_some (by assumption) (by assumption) (by assumption) (by assumption) (by assumption)) ?_; intros; (try dsimp only)))
  k_with "call ref" => walk_at "mine with_all"
  trivial
section
theorem store_row {w : World} {mean : ExcName → Option Value} {mg mb : Str → Option Value} {dp un : Nat} {gd : Option (List Code)} {cn : Str} {cs : Scope} {a : Addr} {ccd : Value} {cl : List (Str × Addr)} {outer : List Env} {A₀ : Around} {base h₀ : Heap} {L : Addr} {m : Str → Option Value} {news : List (Addr × Obj)} {s : Shared} {Q E : Value → Shared → Prop}
    (B : Below A₀ base outer h₀) (F : Fr h₀ L s.heap m) (X : (hd.heap_39 w.params).In h₀) (N : News h₀ L s.heap news) (T : Top PP LL mean mg mb h₀) (hk : cs.kind = .function) (hdp : dp + 180 < recursionLimit) (hun : un + 2200 < cLine)
    {hp kd : Addr} {g : Int} {kvs : List (Ky × Value)} {key : Ky} {path : List Int} {v fv : Value} {old fr : PV} {k dk lr : Addr} {vs : List Value} {n : Nat} {cells : List PV}
    (H : HeapAt w news hp kd g kvs) (hl : LocRep news v key path) (hv : valueAt kvs key = some (.ref k)) (ha : KeptAt news k dk (Str.ofString "row") (.ref lr)) (hrow : RowRep news vs cells) (hz : cells.length ≤ 900) (hfr : Rep news fr fv) (hok : peekP (some (.row cells)) path = .ok old)
    (N1 : News h₀ L s.heap ((lr, listOf vs.toArray n) :: news)) (hap : ∀ p ∈ news, p.1 ≠ lr)
    (hret : ∀ h' tk' ex i r u, path = i :: r → 0 ≤ i → i.toNat < cells.length → Rep (ex ++ news) ((cells.getD i.toNat (.int 0)).with r fr) u → (∀ p ∈ ex, p.2.cls = .type "tuple") → Fr h₀ L h' m → News h₀ L h' ((lr, listOf (vs.set i.toNat u).toArray n) :: ex ++ news) → Q .none { s with heap := h', toks := tk' }) :
    wpAny (model Prg w) (ktrTop dp un gd cn cs L a ccd cl outer) (call (.ref 241) [.ref hp, v, fv]) Q E s := by
  have hfill : (hd.heap_39 = hd.heap_39 ∧ PySem.Challenge.rw_pf0075_01 = PySem.Challenge.rw_pf0075_01) → True := by
    k_fill
    intro _; trivial
  clear hfill
  refine hide fun GG9 hG9 => ?_
  obtain ⟨_, _, hx, d1, d2, d3, d4, d5, e1, e2, e3, e4, e5, tg, t0, np, hko', m1, m2, _, _⟩ := id H
  refine hG9 ?_
  clear hG9 GG9
  have hko : KObjAt ((lr, listOf vs.toArray n) :: news) kvs key (some (.row cells)) := ⟨_, hv, .row (ha.up fun _ h => .tail _ h) (.head _) (hrow.up fun _ h => .tail _ h) hz⟩
  refine hide fun GG9 hG9 => ?_
  obtain ⟨a1, a2, a3, b1, b2, b3, tk, wh, nn, c1, c2⟩ := id ha
  refine hG9 ?_
  clear hG9 GG9
  have z1 : vs.length ≤ 900 := by rw [hrow.len]; exact hz
  clear N
  refine wpAny_call ?_
  k_dflt cell_enter
  k_steps
  · rename peekP _ _ = .error _ => e0
    rw [hok] at e0
    cases e0
  · rename ∀ (i : Int) (r : List Int), path = i :: r → _ => e0
    have := peek_cellno hrow e0
    rw [hok] at this
    cases this
  · rename path = _ :: _ => e0
    rename (0 : Int) ≤ _ => e1
    rename _ < (vs.length : Int) => e2
    rename Rep _ (PV.with _ _ _) _ => r0
    rename News _ _ _ _ => lN
    rename Fr _ _ _ (fun y => _) => lF
    rw [led_assoc] at lN r0
    rw [e0] at r0
    have xa := tup_led lN (by assumption) rfl rfl (by assumption) (by assumption)
    have cl : (listOf vs.toArray n).cls ≠ .type "tuple" := by show Value.type "list" ≠ Value.type "tuple"; decide
    refine set_at lF lN (List.mem_append_right _ (.head _)) e1 e2 z1 (fun p hp => ?_) (led_apart lN ?_ cl hap) fun h' F' N' => ?_
    · rcases List.mem_append.mp hp with h | h
      · exact List.mem_append_left _ h
      · exact List.mem_append_right _ (.tail _ h)
    · exact xa
    · k_steps
      rename Fr h₀ L _ m => kF
      rename News h₀ L _ _ => kN
      exact hret _ _ _ _ _ _ e0 e1 (by rw [hrow.len] at e2; omega) (rep_skip r0 cl) xa kF kN
end
section
theorem store_var {w : World} {mean : ExcName → Option Value} {mg mb : Str → Option Value} {dp un : Nat} {gd : Option (List Code)} {cn : Str} {cs : Scope} {a : Addr} {ccd : Value} {cl : List (Str × Addr)} {outer : List Env} {A₀ : Around} {base h₀ : Heap} {L : Addr} {m : Str → Option Value} {news : List (Addr × Obj)} {s : Shared} {Q E : Value → Shared → Prop}
    (B : Below A₀ base outer h₀) (F : Fr h₀ L s.heap m) (X : (hd.heap_39 w.params).In h₀) (N : News h₀ L s.heap news) (T : Top PP LL mean mg mb h₀) (hk : cs.kind = .function) (hdp : dp + 180 < recursionLimit) (hun : un + 2200 < cLine)
    {hp kd : Addr} {g : Int} {kvs : List (Ky × Value)} {key : Ky} {path : List Int} {v fv vv wh : Value} {old fr pv : PV} {k dk : Addr} {n : Nat} {a1 a2 a3 : Int} {b1 b2 b3 tv : Tok}
    (H : HeapAt w news hp kd g kvs) (hl : LocRep news v key path) (hv : valueAt kvs key = some (.ref k)) (c1 : (k, instObj 106 dk) ∈ news) (hR : Rep news pv vv) (hfr : Rep news fr fv) (hok : pv.at path = some old)
    (N1 : News h₀ L s.heap ((dk, kpO a1 a2 a3 b1 b2 b3 (Str.ofString "var") tv vv wh n) :: news)) (hap : ∀ p ∈ news, p.1 ≠ dk)
    (hret : ∀ h' tk' ex u n', Rep (ex ++ news) (pv.with path fr) u → (∀ p ∈ ex, p.2.cls = .type "tuple") → Fr h₀ L h' m → News h₀ L h' ((dk, kpO a1 a2 a3 b1 b2 b3 (Str.ofString "var") tv u wh n') :: ex ++ news) → Q .none { s with heap := h', toks := tk' }) :
    wpAny (model Prg w) (ktrTop dp un gd cn cs L a ccd cl outer) (call (.ref 241) [.ref hp, v, fv]) Q E s := by
  have hfill : (hd.heap_39 = hd.heap_39 ∧ PySem.Challenge.rw_pf0075_01 = PySem.Challenge.rw_pf0075_01) → True := by
    k_fill
    intro _; trivial
  clear hfill
  refine hide fun GG9 hG9 => ?_
  obtain ⟨_, _, hx, d1, d2, d3, d4, d5, e1, e2, e3, e4, e5, tg, t0, np, hko', m1, m2, _, _⟩ := id H
  refine hG9 ?_
  clear hG9 GG9
  have hko : KObjAt ((dk, kpO a1 a2 a3 b1 b2 b3 (Str.ofString "var") tv vv wh n) :: news) kvs key (some (.var pv)) := ⟨_, hv, .var ⟨_, _, _, _, _, _, _, _, _, .tail _ c1, .head _⟩ (hR.up fun _ h => .tail _ h)⟩
  have c2 : (dk, kpO a1 a2 a3 b1 b2 b3 (Str.ofString "var") tv vv wh n) ∈ (dk, kpO a1 a2 a3 b1 b2 b3 (Str.ofString "var") tv vv wh n) :: news := .head _
  have hok' : ∃ q, pv.at path = some q := ⟨_, hok⟩
  have hpk := peek_varok hok
  clear N
  refine wpAny_call ?_
  k_dflt cell_enter
  k_steps
  · rename peekP _ _ = .error _ => e0
    rw [hpk] at e0
    cases e0
  · rename Rep _ (PV.with _ _ _) _ => r0
    rename News _ _ _ _ => lN
    rename Fr _ _ _ (fun y => _) => lF
    rw [led_assoc1] at lN r0
    have xa := tup_led1 lN (by assumption) rfl (by assumption) (by assumption)
    have cl : (kpO a1 a2 a3 b1 b2 b3 (Str.ofString "var") tv vv wh n).cls ≠ .type "tuple" := by show Value.type "dict" ≠ Value.type "tuple"; decide
    have ap := led_apart lN xa cl hap
    have lN2 := News.front lN
    replace r0 := rep_skip r0 cl
    clear lN c2 N1
    k_steps
    rename Fr h₀ L _ m => kF
    rename News h₀ L _ _ => kN
    rw [put_content] at kN
    exact hret _ _ _ _ _ r0 xa kF kN
end
theorem kw_M15 : True := by
  k_with "noteFrame ref" => (k_here; k_dflt (refine caughtD (by assumption) (by assumption) (by assumption) (by assumption) (by assumption) (by assumption) (by exact KtsTurn.refl) (by k_is) (by kts_isx) ?_; k_whole); intros; (try k_fold))
  k_with "mine ask" => (k_here; k_dflt (refine AskSpec.use (by assumption) (by k_asm) (by k_asm) (by k_asm) (by k_asm) (by k_asm) (by rfl) (by ktr_room) (by ktr_units) ?_ ?_; intros; (try dsimp only); rotate_left 1; (intro k0; walk_at "mine fail")))
  k_with "call ref" => walk_at "mine ask"
  k_with "getAttr ref" => (k_here; (with_reducible show wpAny _ _ (getAttr (Value.ref _) (Str.ofString "kind") _) _ _ _); (rename Obj.cls _ = Value.ref 59 => hc59); k_dflt (refine get_kind (by k_asm) (by k_asm) (by k_asm) (by k_mem) (by k_mem) (by assumption) (by assumption) (by assumption) (by assumption) ?_; k_whole))
  k_with "callWith ref" => (k_here; k_dflt (refine callWith_F0 (by exact FnAt.of (by k_asm) (by k_mem)) ?_; k_whole))
  trivial
section
theorem told_all {w : World} {mean : ExcName → Option Value} {mg mb : Str → Option Value} {dp un : Nat} {gd : Option (List Code)} {cn : Str} {cs : Scope} {a : Addr} {ccd : Value} {cl : List (Str × Addr)} {outer : List Env} {A₀ : Around} {base h₀ : Heap} {L : Addr} {m : Str → Option Value} {news : List (Addr × Obj)} {s : Shared} {Q E : Value → Shared → Prop}
    (B : Below A₀ base outer h₀) (F : Fr h₀ L s.heap m) (X : (hd.heap_39 w.params).In h₀) (N : News h₀ L s.heap news) (T : Top PP LL mean mg mb h₀) (hk : cs.kind = .function) (hdp : dp + 320 < recursionLimit) (hun : un + 4000 < cLine) (XB : (hd.heap_39 w.params).In base) (TB : Top PP LL mean mg mb base) (D : KtsDicts (outer.filterMap (·.frame)) h₀)
    {ask : Addr} {oc : Value} {od : Option Addr} {fd : FuncData} {sl : Array (Option Value)} {P : Value → List (Addr × Obj) → Prop} {PE : Str → Prop} (hf : (ask, (⟨oc, od, .func fd, sl⟩ : Obj)) ∈ news) (hS : AskSpec w mean mg mb base ask news P PE)
    (hret : ∀ v h' tk' news' l h₀' n, P v news' → KtsTurn (outer.filterMap (·.frame)) h₀ h₀' → Below A₀ base outer h₀' → KtsDicts (outer.filterMap (·.frame)) h₀' → Fr h₀' L h' m → News h₀' L h' ((l, listOf #[v] n) :: news') → Q (.ref l) { s with heap := h', toks := tk' })
    (hno : ∀ k t h' tk' h₀', PE k → KtsTurn (outer.filterMap (·.frame)) h₀ h₀' → Below A₀ base outer h₀' → KtsDicts (outer.filterMap (·.frame)) h₀' → Fr h₀' L h' m → News h₀' L h' news → Q (.str k t) { s with heap := h', toks := tk' }) :
    wpAny (model Prg w) (ktrTop dp un gd cn cs L a ccd cl outer) (call (.ref 365) [.ref ask]) Q E s := by
  have hfill : (hd.heap_39 = hd.heap_39 ∧ PySem.Challenge.rw_pf0075_01 = PySem.Challenge.rw_pf0075_01) → True := by
    k_fill
    intro _; trivial
  clear hfill
  refine wpAny_call ?_
  k_dflt (refine' code_T ?k1 ?k2 ?k3 ?k4 ?k5 ?kD ?kA ?kF ?kK ?k6 ?k7 ?k8 ?k9 ?kB ?_ ?c2 ?c3 ?c4 ?c5; (case kA => exact rfl); (case kF => exact rfl); (case kK => first | exact rfl | assumption); (case k1 => k_asm); (case k2 => k_asm); (case k3 => k_asm); (case k4 => k_asm); (case k5 => k_asm); (case kD => assumption); (case k6 => k_is); (case k7 => k_is); (case k8 => ktr_room); (case k9 => first | exact BindsTo.of_eq rfl | exact binds_K (by k_in) rfl (by k_is) rfl rfl rfl); (case c5 => decide); (case kB => exact locs rfl); (case c2 => exact rfl); (case c3 => exact rfl); (case c4 => exact rfl); k_whole; intro zg' zL' zh' zFG' zF' zN' zB' zX' zT' zD'; (try dsimp only); (try k_fold))
  k_steps
  · rename KtsTurn _ _ _ => lT
    rename PE _ => e0
    rename Fr _ _ _ _ => lF
    rename News _ _ _ _ => lN
    exact LeaveT.intro lT lF (News.perm lN fun p hp => .tail _ (.tail _ hp)) fun h₀' t f n b d => hno _ _ _ _ _ e0 t b d f n
  · rename P _ _ => p0
    rename Fr _ _ _ _ => lF
    rename News _ _ _ _ => lN
    exact LeaveT.intro KtsTurn.refl lF lN fun h₀' t f n b d => hret _ _ _ _ _ _ _ p0 t b d f n
end
theorem kw_M16 : True := by
  k_with_none
  k_with "exec Raise some none" => (k_here; refine Raise_any rfl ?_)
  k_with "mine fault_made" => (k_here; k_dflt (refine fault_made (by k_asm) (by k_asm) (by k_asm) (by k_asm) (by k_asm) (by rfl) (by ktr_room) (by ktr_units) ?_; k_whole; intros))
  k_with "call ref" => walk_at "mine fault_made"
  k_with "MadeThen" => (refine madeThen_intro (by k_asm) (by k_asm) (by k_asm) ?_)
  k_with "call builtin:len" => (k_here; (with_reducible show wpAny _ _ (call (Value.builtin "len") [Value.ref _]) _ _ _); k_dflt (refine len_T (by exact News.isTup (by k_asm) (by k_mem)) (by first | assumption | decide) ?_; k_whole))
  k_with "subscriptTail" => (k_here; (with_reducible show wpAny _ _ (subscriptTail _ _ (Value.ref _) (Value.int _ _)) _ _ _); k_dflt (refine item_tupleT (by exact News.isTup (by k_asm) (by k_mem)) (by first | decide | omega) (by first | decide | omega) (by first | rfl | assumption | exact seq0 _ _) (by first | rfl | assumption) ?_; k_whole))
  k_with "mine fail" => (intros; unfold FailP; intros; (try dsimp only))
  k_with "mine rep" => first | assumption | exact Rep.up (by assumption) (fun _ hq => by k_mem) | exact Rep.up (RowRep.item (by assumption) (by assumption)) (fun _ hq => by k_mem)
  k_with "mine inner_all" => (k_here; k_dflt (refine inner_all (by k_asm) (by k_asm) (by k_asm) (by k_asm) (by k_asm) (by rfl) (by ktr_room) (by ktr_units) (by walk_at "mine rep") ?_ ?_; intros; (try dsimp only); rotate_left 1; walk_at "mine fail"))
  k_with "call ref" => walk_at "mine inner_all"
  k_with "subscriptTail" => (k_here; (with_reducible show wpAny _ _ (subscriptTail _ _ (Value.ref _) (Value.int _ _)) _ _ _); k_dflt (refine item_litK (by exact News.isList (by k_asm) (by k_mem)) (by first | decide | omega) (by first | decide | omega) (by first | rfl | assumption) ?_ (by with_unfolding_all rfl); k_whole))
  k_with "mine cut" => first | (refine cut_to (by k_asm) (by k_asm) (by k_mem) (by first | assumption | omega) (by first | assumption | omega) (by first | assumption | omega) ?_ (by with_unfolding_all rfl) (by (intro _; with_unfolding_all rfl)); k_whole; intros; (try dsimp only)) | (refine cut_from (by k_asm) (by k_asm) (by k_mem) (by first | assumption | omega) (by first | assumption | omega) (by first | assumption | omega) ?_ (by with_unfolding_all rfl) (by (intro _; with_unfolding_all rfl)); k_whole; intros; (try dsimp only))
  k_with "subscriptTail Name Slice ref ref" => (k_here; k_dflt (walk_at "mine cut"))
  k_with "subscriptTail Subscript" => (k_here; (with_reducible show wpAny _ _ (subscriptTail _ _ (Value.ref _) (Value.ref _)) _ _ _); k_dflt (walk_at "mine cut"))
  k_with "binaryOp Add ref ref" => (k_here; k_dflt (refine add_T (by k_asm) (by k_asm) (by k_mem) (by k_mem) (by first | omega | (simp; done) | (simp; omega) | (simp only [List.length_append, List.length_take, List.length_drop, List.length_cons, List.length_nil]; omega)) ?_; k_whole); intros; (try dsimp only))
  k_with "mine notin" => (k_here; k_dflt (first | (refine mix_out (by k_asm) (by k_mem) (by assumption) (by assumption) (by assumption) (by assumption) ?_; k_whole) | (refine mix_in (by k_asm) (by k_mem) (by assumption) (by assumption) (by assumption) (by assumption) ?_; k_whole)))
  k_with "compareOp NotIn int ref" => walk_at "mine notin"
  k_with "compareOp NotIn str ref" => walk_at "mine notin"
  k_with "mine item" => (k_here; k_dflt (refine mix_item (by k_asm) (by k_mem) (by assumption) (by assumption) (by assumption) ?_ (by with_unfolding_all rfl) (by (intro _; with_unfolding_all rfl)); k_whole))
  k_with "subscriptTail" => walk_at "mine item"
  k_with "subscriptTail Attribute" => walk_at "mine item"
  k_with "compareOp Eq ref ref" => (k_here; k_dflt (refine eq_nil (by k_asm) (by k_mem) (by k_mem) (by ktr_units) ?_; k_whole); (try dsimp only [List.isEmpty]))
  k_with "call builtin:len" => (k_here; (with_reducible show wpAny _ _ (call (Value.builtin "len") [Value.ref _]) _ _ _); k_dflt (refine len_L (by k_asm) (by k_mem) (by first | assumption | decide) ?_; k_whole))
  k_with "mine fail0" => (unfold FailP; intros; (try dsimp only))
  k_with "mine led" => (k_here; k_dflt (refine led_all (by k_asm) (by k_asm) (by k_asm) (by k_asm) (by k_asm) (by rfl) (by ktr_room) (by ktr_units) (by first | assumption | exact LocRep.up (by assumption) (fun _ hq => by k_mem)) ?_; intro zv' zh' ztk' zex' zfl' zxt' zF' zN'; obtain ⟨l', p', n1', n2', num', vs', ev', g1', g2', g3', g4', g5'⟩ := zfl'; subst ev'; (have gz' := Ints.le g4' g5'); (try dsimp only)))
  k_with "call ref" => walk_at "mine led"
  k_with "mine kept_ok" => (k_here; k_dflt (refine kept_ok (by k_asm) (by k_asm) (by k_asm) (by k_asm) (by k_asm) (by rfl) (by ktr_room) (by ktr_units) (by first | assumption | exact HeapAt.up (by assumption) (fun _ hq => by k_mem)) (by assumption) (by assumption) ?_; intros; (try dsimp only)))
  k_with "call ref" => walk_at "mine kept_ok"
  k_with "mine kept_no" => (k_here; k_dflt (refine kept_no (by k_asm) (by k_asm) (by k_asm) (by k_asm) (by k_asm) (by rfl) (by ktr_room) (by ktr_units) (by first | assumption | exact HeapAt.up (by assumption) (fun _ hq => by k_mem)) (by assumption) (by assumption) ?_; walk_at "mine fail0"))
  k_with "call ref" => walk_at "mine kept_no"
  k_with "mine cell_all" => (k_here; k_dflt (refine cell_all (by k_asm) (by k_asm) (by k_asm) (by k_asm) (by k_asm) (by rfl) (by ktr_room) (by ktr_units) (by k_mem) (by assumption) (by k_mem) (by assumption) ?_ ?_; intros; (try dsimp only); rotate_left 1; walk_at "mine fail"))
  k_with "call ref" => walk_at "mine cell_all"
  k_with "mine part_all" => (k_here; k_dflt (refine part_all (by k_asm) (by k_asm) (by k_asm) (by k_asm) (by k_asm) (by rfl) (by ktr_room) (by ktr_units) (by walk_at "mine rep") (by k_mem) (by first | assumption | exact Ints.drop (by assumption) _) ?_ ?_; intros; (try dsimp only); rotate_left 1; walk_at "mine fail"))
  k_with "call ref" => walk_at "mine part_all"
  k_with "mine peek_all" => (k_here; k_dflt (refine peek_all (by k_asm) (by k_asm) (by k_asm) (by k_asm) (by k_asm) (by rfl) (by ktr_room) (by ktr_units) (by first | assumption | exact HeapAt.up (by assumption) (fun _ hq => by k_mem)) (by first | assumption | exact LocRep.up (by assumption) (fun _ hq => by k_mem)) (by first | assumption | exact KObjAt.up (by assumption) (fun _ hq => by k_mem)) ?_ ?_; intros; (try dsimp only); rotate_left 1; (intro k0; walk_at "mine fail")))
  k_with "call ref" => walk_at "mine peek_all"
  k_with "mine with_all" => (k_here; k_dflt (refine with_all (by k_asm) (by k_asm) (by k_asm) (by k_asm) (by k_asm) (by rfl) (by ktr_room) (by ktr_units) (by walk_at "mine rep") (by k_mem) (by first | assumption | exact Ints.drop (by assumption) _) (by first | assumption | omega | (simp only [List.length_drop]; omega)) (by walk_at "mine rep") (by first | assumption | exact peek_row_some (by assumption) (by assumption) (by assumption) (by assumption) (by assumption)) ?_; intros; (try dsimp only)))
  k_with "call ref" => walk_at "mine with_all"
  k_with "mine setattr" => (k_here; k_dflt (refine set_dict (by k_asm) (by k_asm) (by k_asm) (by k_inst) (by exact rfl) (by k_is) (by k_is) (by k_is) (by k_is) (by k_get) (by exact rfl) (by k_upd) (by exact Nat.le_of_ble_eq_true rfl) ?_; k_whole; intros; (try k_sweep)))
  k_with "setAttr ref" => walk_at "mine setattr"
  k_with "noteFrame ref" => (k_here; k_dflt (refine caughtD (by assumption) (by assumption) (by assumption) (by assumption) (by assumption) (by assumption) (by exact KtsTurn.refl) (by k_is) (by kts_isx) ?_; k_whole); intros; (try k_fold))
  k_with "mine ask" => (k_here; k_dflt (refine AskSpec.use (by assumption) (by k_asm) (by k_asm) (by k_asm) (by k_asm) (by k_asm) (by rfl) (by ktr_room) (by ktr_units) ?_ ?_; intros; (try dsimp only); rotate_left 1; (intro k0; walk_at "mine fail")))
  k_with "call ref" => walk_at "mine ask"
  k_with "getAttr ref" => (k_here; (with_reducible show wpAny _ _ (getAttr (Value.ref _) (Str.ofString "kind") _) _ _ _); (rename Obj.cls _ = Value.ref 59 => hc59); k_dflt (refine get_kind (by k_asm) (by k_asm) (by k_asm) (by k_mem) (by k_mem) (by assumption) (by assumption) (by assumption) (by assumption) ?_; k_whole))
  trivial
section
theorem store_no {w : World} {mean : ExcName → Option Value} {mg mb : Str → Option Value} {dp un : Nat} {gd : Option (List Code)} {cn : Str} {cs : Scope} {a : Addr} {ccd : Value} {cl : List (Str × Addr)} {outer : List Env} {A₀ : Around} {base h₀ : Heap} {L : Addr} {m : Str → Option Value} {news : List (Addr × Obj)} {s : Shared} {Q E : Value → Shared → Prop}
    (B : Below A₀ base outer h₀) (F : Fr h₀ L s.heap m) (X : (hd.heap_39 w.params).In h₀) (N : News h₀ L s.heap news) (T : Top PP LL mean mg mb h₀) (hk : cs.kind = .function) (hdp : dp + 200 < recursionLimit) (hun : un + 2400 < cLine)
    {hp kd : Addr} {g : Int} {kvs : List (Ky × Value)} {key : Ky} {path : List Int} {v fv : Value} {ko : Option KObj} {k : Str} (H : HeapAt w news hp kd g kvs) (hl : LocRep news v key path) (hko : KObjAt news kvs key ko)
    (hk' : peekP ko path = .error k) (hE : FailP base h₀ L m (envX cn cs L a ccd cl :: outer) news s k E) :
    wpAny (model Prg w) (ktrTop dp un gd cn cs L a ccd cl outer) (call (.ref 241) [.ref hp, v, fv]) Q E s := by
  have hfill : (hd.heap_39 = hd.heap_39 ∧ PySem.Challenge.rw_pf0075_01 = PySem.Challenge.rw_pf0075_01) → True := by
    k_fill
    intro _; trivial
  clear hfill
  refine hide fun GG9 hG9 => ?_
  obtain ⟨_, _, hx, d1, d2, d3, d4, d5, e1, e2, e3, e4, e5, tg, t0, np, hko', m1, m2, _, _⟩ := id H
  refine hG9 ?_
  clear hG9 GG9
  refine wpAny_call ?_
  k_dflt cell_enter
  iterate 40 (first | (k_unfold; (try dsimp only)) | walk1)
  · rename peekP _ _ = _ => e0
    cases hk'.symm.trans e0
    (rename RaisedD _ _ _ _ _ _ _ _ => R; rename getL _ _ = _ => q1; rename Fr h₀ L _ m => FG; exact hE  _ _ _ _ _ _ _ _ FG (R.sub fun p hp => by rcases List.mem_cons.mp hp with rfl | hp <;> k_mem) q1)
  · rename peekP _ _ = _ => e0
    cases hk'.symm.trans e0
theorem Wd.obj {w : World} {hp kd hx : Addr} {g : Int} {kvs : List (Ky × Value)} {Fp : List Addr} {Xs : Ky → Addr} {S : Ky → Option KObj} {news : List (Addr × Obj)} (W : Wd w hp kd hx g kvs Fp Xs S news) (key : Ky) : KObjAt news kvs key (S key) := by
  cases e : S key with
  | none => exact W.none_ key e
  | some o =>
    obtain ⟨kv, h1, h2⟩ := W.some_ key o e
    refine ⟨kv, h1, ?_⟩
    cases h2 with
    | row x1 x2 x3 x4 x5 x6 x7 => exact .row x1 x5 x6 x7
    | var x1 x2 x3 x4 x5 => exact .var ⟨_, _, _, _, _, _, _, _, _, x1, x4⟩ x5
    | chan x1 x2 x3 => exact .chan x1
theorem Keeps.refl {Fp : List Addr} {news : List (Addr × Obj)} : Keeps Fp news news := fun _ _ h _ => h
theorem rest_mem {news : List (Addr × Obj)} {X a : Addr} {o : Obj} (h : (a, o) ∈ news) (hn : a ≠ X) : (a, o) ∈ news.filter (fun p => decide (p.1 ≠ X)) := List.mem_filter.mpr ⟨h, by simpa using hn⟩
theorem rest_sub {news : List (Addr × Obj)} {X : Addr} : ∀ p ∈ news.filter (fun p => decide (p.1 ≠ X)), p ∈ news := fun p h => (List.mem_filter.mp h).1
theorem rest_ne {news : List (Addr × Obj)} {X : Addr} : ∀ p ∈ news.filter (fun p => decide (p.1 ≠ X)), p.1 ≠ X := fun p h => by simpa using (List.mem_filter.mp h).2
theorem rest_news {h₀ h : Heap} {L : Addr} {news : List (Addr × Obj)} (N : News h₀ L h news) {X : Addr} {o : Obj} (hm : (X, o) ∈ news) : News h₀ L h ((X, o) :: news.filter (fun p => decide (p.1 ≠ X))) := News.perm N fun p hp => by
  rcases List.mem_cons.mp hp with rfl | hp
  · exact hm
  · exact rest_sub p hp
theorem load_W {w : World} {mean : ExcName → Option Value} {mg mb : Str → Option Value} {dp un : Nat} {gd : Option (List Code)} {cn : Str} {cs : Scope} {a : Addr} {ccd : Value} {cl : List (Str × Addr)} {outer : List Env} {A₀ : Around} {base h₀ : Heap} {L : Addr} {m : Str → Option Value} {news : List (Addr × Obj)} {s : Shared} {Q E : Value → Shared → Prop}
    (B : Below A₀ base outer h₀) (F : Fr h₀ L s.heap m) (X : (hd.heap_39 w.params).In h₀) (N : News h₀ L s.heap news) (T : Top PP LL mean mg mb h₀) (hk : cs.kind = .function) (hdp : dp + 200 < recursionLimit) (hun : un + 2400 < cLine)
    {hp kd hx : Addr} {g : Int} {kvs : List (Ky × Value)} {Fp : List Addr} {Xs : Ky → Addr} {S : Ky → Option KObj} {key : Ky} {path : List Int} {v : Value} (W : Wd w hp kd hx g kvs Fp Xs S news) (hl : LocRep news v key path)
    (hret : ∀ q v' h' tk' ex, peekP (S key) path = .ok q → Rep (ex ++ news) q v' → (∀ p ∈ ex, p.2.cls = .type "tuple") → Fr h₀ L h' m → News h₀ L h' (ex ++ news) → Q v' { s with heap := h', toks := tk' })
    (hE : ∀ k, peekP (S key) path = .error k → FailP base h₀ L m (envX cn cs L a ccd cl :: outer) news s k E) :
    wpAny (model Prg w) (ktrTop dp un gd cn cs L a ccd cl outer) (call (.ref 234) [.ref hp, v]) Q E s := load_all B F X N T hk (by omega) (by omega) (W.heapAt Keeps.refl) hl (W.obj key) hret hE
theorem store_W {w : World} {mean : ExcName → Option Value} {mg mb : Str → Option Value} {dp un : Nat} {gd : Option (List Code)} {cn : Str} {cs : Scope} {a : Addr} {ccd : Value} {cl : List (Str × Addr)} {outer : List Env} {A₀ : Around} {base h₀ : Heap} {L : Addr} {m : Str → Option Value} {news : List (Addr × Obj)} {s : Shared} {Q E : Value → Shared → Prop}
    (B : Below A₀ base outer h₀) (F : Fr h₀ L s.heap m) (X : (hd.heap_39 w.params).In h₀) (N : News h₀ L s.heap news) (T : Top PP LL mean mg mb h₀) (hk : cs.kind = .function) (hdp : dp + 200 < recursionLimit) (hun : un + 2400 < cLine)
    {hp kd hx : Addr} {g : Int} {kvs : List (Ky × Value)} {Fp : List Addr} {Xs : Ky → Addr} {S : Ky → Option KObj} {key : Ky} {path : List Int} {v fv : Value} {o : KObj} {old fr : PV} (W : Wd w hp kd hx g kvs Fp Xs S news) (hl : LocRep news v key path) (hfr : Rep news fr fv)
    (ho : S key = some o) (hok : peekP (some o) path = .ok old)
    (hret : ∀ h' tk' news', Wd w hp kd hx g kvs Fp Xs (putS S key (storeO o path fr)) news' → Keeps Fp news news' → Fr h₀ L h' m → News h₀ L h' news' → Q .none { s with heap := h', toks := tk' }) :
    wpAny (model Prg w) (ktrTop dp un gd cn cs L a ccd cl outer) (call (.ref 241) [.ref hp, v, fv]) Q E s := by
  obtain ⟨kv, hkv, hW⟩ := W.some_ key o ho
  generalize hXs : Xs key = Y at hW
  have tm : ∀ a o, (a, o) ∈ news → o.cls = .type "tuple" → Y ∈ Fp → (a, o) ∈ news.filter (fun p => decide (p.1 ≠ Y)) := fun a o h hc hY => rest_mem h fun q => W.tup N h hc (q ▸ hY)
  have KR : Y ∈ Fp → Keeps Fp news (news.filter (fun p => decide (p.1 ≠ Y))) := fun hY a o h hn => rest_mem h fun q => hn (q ▸ hY)
  cases hW with
  | @row k dk _ vs n cells h1 h2 h3 h4 h5 h6 h7 =>
    have tm' := fun a o h hc => tm a o h hc h4
    refine store_row B F X (News.perm N rest_sub) T hk (by omega) (by omega) (W.heapAt (KR h4)) (hl.mono tm') hkv (h1.keeps (KR h4) h2 h3) (h6.mono tm') h7 (hfr.mono tm') hok (rest_news N h5) rest_ne ?_
    intro h' tk' ex i r u e1 e2 e3 e4 e5 F' N'
    subst e1
    have sub : ∀ a o, (a, o) ∈ news → a ≠ Y → (a, o) ∈ (Y, listOf (vs.set i.toNat u).toArray n) :: ex ++ news.filter (fun p => decide (p.1 ≠ Y)) := fun a o h hn => .tail _ (List.mem_append_right _ (rest_mem h hn))
    have tm2 : ∀ a o, (a, o) ∈ news → o.cls = .type "tuple" → (a, o) ∈ (Y, listOf (vs.set i.toNat u).toArray n) :: ex ++ news.filter (fun p => decide (p.1 ≠ Y)) := fun a o h hc => .tail _ (List.mem_append_right _ (tm' a o h hc))
    have K2 : Keeps Fp news ((Y, listOf (vs.set i.toNat u).toArray n) :: ex ++ news.filter (fun p => decide (p.1 ≠ Y))) := fun a o h hn => sub a o h fun q => hn (q ▸ h4)
    obtain ⟨W', K'⟩ := W.put (news' := (Y, listOf (vs.set i.toNat u).toArray n) :: ex ++ news.filter (fun p => decide (p.1 ≠ Y))) N ho rfl hXs h4 sub (.head _) (by show Value.type "list" ≠ Value.type "tuple"; decide) (by show Value.type "list" ≠ Value.none; simp) hkv
      (o' := .row (cells.set i.toNat ((cells.getD i.toNat (.int 0)).with r fr)))
      (.row (h1.keeps K2 h2 h3) h2 h3 h4 (.head _) ((h6.mono tm2).set (e4.up fun p hp => .tail _ hp) e3) (by rw [List.length_set]; exact h7))
    exact hret _ _ _ W' K' F' N'
  | @var k _ vv wh pv a1 a2 a3 b1 b2 b3 tv n h1 h2 h3 h4 h5 =>
    have tm' := fun a o h hc => tm a o h hc h3
    have hok2 : ∃ q, pv.at path = some q := by
      cases e : pv.at path with
      | none => rw [peek_varno e] at hok; cases hok
      | some q => exact ⟨q, rfl⟩
    refine store_var B F X (News.perm N rest_sub) T hk (by omega) (by omega) (W.heapAt (KR h3)) (hl.mono tm') hkv (rest_mem h1 fun q => h2 (q ▸ h3)) (h5.mono tm') (hfr.mono tm') hok2.choose_spec (rest_news N h4) rest_ne ?_
    intro h' tk' ex u n' e4 e5 F' N'
    have sub : ∀ a o, (a, o) ∈ news → a ≠ Y → (a, o) ∈ (Y, kpO a1 a2 a3 b1 b2 b3 (Str.ofString "var") tv u wh n') :: ex ++ news.filter (fun p => decide (p.1 ≠ Y)) := fun a o h hn => .tail _ (List.mem_append_right _ (rest_mem h hn))
    obtain ⟨W', K'⟩ := W.put (news' := (Y, kpO a1 a2 a3 b1 b2 b3 (Str.ofString "var") tv u wh n') :: ex ++ news.filter (fun p => decide (p.1 ≠ Y))) N ho rfl hXs h3 sub (.head _) (by show Value.type "dict" ≠ Value.type "tuple"; decide) (by show Value.type "dict" ≠ Value.none; simp) hkv
      (o' := .var (pv.with path fr))
      (.var (sub _ _ h1 fun q => h2 (q ▸ h3)) h2 h3 (.head _) (e4.up fun p hp => .tail _ hp))
    exact hret _ _ _ W' K' F' N'
  | chan => cases hok
end
section
/-- an iterator's object: its second field is a number -/
def IsIt (C : String) (o : Obj) : Prop := o.cls = .type C ∧ ∃ vs j t, o.data = .fields vs ∧ vs[1]? = some (.int j t)
/-- the end of a turn of a loop in which something may have been caught -/
def EndT (G : Heap → Prop) (L : Addr) (s₁ : Shared) (I : Addr) (o : Obj) (J : (Str → Option Value) → List (Addr × Obj) → Prop) (Q : Flow → Shared → Prop) (f : Flow) (s₂ : Shared) : Prop :=
  match f with
  | .ret v => Q (.ret v) s₂
  | .brk => Q .next s₂
  | _ => ∃ g h' tk m' news', s₂ = { s₁ with heap := h', toks := tk } ∧ G g ∧ Fr g L h' m' ∧ News g L h' ((I, o) :: news') ∧ (∀ p ∈ news', p.1 ≠ I) ∧ J m' news'
theorem EndT.next {G : Heap → Prop} {g : Heap} {L : Addr} {s₁ : Shared} {I : Addr} {o : Obj} {J : (Str → Option Value) → List (Addr × Obj) → Prop} {Q : Flow → Shared → Prop} {h' : Heap} {tk : Nat} {m' : Str → Option Value} {all : List (Addr × Obj)} (hG : G g) (F : Fr g L h' m') (N : News g L h' all) (news' : List (Addr × Obj))
    (hI : (I, o) ∈ all) (hs : ∀ p ∈ news', p ∈ all) (hn : ∀ p ∈ news', p.1 ≠ I) (hj : J m' news') : EndT G L s₁ I o J Q .next { s₁ with heap := h', toks := tk } :=
  ⟨g, h', tk, m', news', rfl, hG, F, News.perm N fun p hp => (by
    rcases List.mem_cons.mp hp with rfl | hp
    · exact hI
    · exact hs p hp), hn, hj⟩
theorem EndT.cont {G : Heap → Prop} {g : Heap} {L : Addr} {s₁ : Shared} {I : Addr} {o : Obj} {J : (Str → Option Value) → List (Addr × Obj) → Prop} {Q : Flow → Shared → Prop} {h' : Heap} {tk : Nat} {m' : Str → Option Value} {all : List (Addr × Obj)} (hG : G g) (F : Fr g L h' m') (N : News g L h' all)
    (hI : (I, o) ∈ all) (hj : J m' (all.filter (fun p => decide (p.1 ≠ I)))) : EndT G L s₁ I o J Q .next { s₁ with heap := h', toks := tk } :=
  EndT.next hG F N _ hI rest_sub' rest_ne' hj
def ForGo (prog : Program) (w : World) (A : Around) (env : Env) (target : Expr) (body : List Stmt) (Q : Flow → Shared → Prop) (E : Value → Shared → Prop) (it : Value) (s₂ : Shared) : Prop :=
  codeAny (model prog w) A (.forLoop target it body [] env) (fun r s' => match r with | .ok f => Q f s' | .error e => cameBackBy (model prog w) A env E e s') s₂
section
variable {prog : Program} {w : World} {A : Around} {E : Value → Shared → Prop} {s : Shared} {env : Env} {h₀ : Heap} {target : Expr} {body : List Stmt} {Q : Flow → Shared → Prop}
theorem For_go {iter : Expr} {pos : Pos} {m : Str → Option Value} (_F : Fr h₀ env.locals s.heap m)
    (h : wpAny (model prog w) A (eval iter env) (fun xv s₁ => wpAny (model prog w) A (pyIter xv) (fun it s₂ => ForGo prog w A env target body Q E it s₂) E s₁) E s)
    (hs : ∀ x, foldedSetIterable iter env x = pure x := by intro _; rfl) :
    wpAny (model prog w) A (exec (.For target iter body [] pos) env) Q E s := wpAny_For h hs
theorem loopT {R : Result → Shared → Prop} {I : Addr} {C : String} {fp : List Addr} {n : Nat} {P Md : Nat → Value → Heap → Prop} {St : Nat → Heap → Prop} {g₀ : Heap} {m : Str → Option Value} {news keep : List (Addr × Obj)} (W : KTurns prog w A target I fp [I] n P Md St)
    (hfp : ∀ b ∈ fp, b = I ∨ ∃ o, (b, o) ∈ keep) (hobj : ∀ i h, St i h → ∃ o, h.get? I = some o ∧ IsIt C o) (G : Heap → Prop) (hG : ∀ g, G g → ∀ b, g₀.get? b = none → g.get? b = none) (hg0 : G g₀) (hIg : g₀.get? I = none) (hL : I ≠ env.locals)
    (hst : St 0 s.heap) (F : Fr g₀ env.locals s.heap m) (N : News g₀ env.locals s.heap news) (hnw : ∀ p ∈ news, p.1 ≠ I)
    (J : Nat → (Str → Option Value) → List (Addr × Obj) → Prop) (hkeep : ∀ i m news, J i m news → ∀ p ∈ keep, p ∈ news) (h0 : J 0 m news)
    (step : ∀ g i v m₁ news₁ h₁ tk₁ o, G g → i < n → P i v h₁ → J i m₁ news₁ → IsIt C o → (∀ p ∈ news₁, p.1 ≠ I) → Fr g env.locals h₁ m₁ → News g env.locals h₁ ((I, o) :: news₁) →
      wpAny (model prog w) A (assign target env v) (fun _ s₂ => wpAny (model prog w) A (execs body env)
        (EndT G env.locals { s with heap := h₁, toks := tk₁ } I o (J (i + 1)) (fun f s' => R (.ok f) s')) (notedBy (model prog w) A env fun e s' => R (.error e) s') s₂) (notedBy (model prog w) A env fun e s' => R (.error e) s') { s with heap := h₁, toks := tk₁ })
    (hR : ∀ g h' tk m' news', G g → Fr g env.locals h' m' → News g env.locals h' news' → J n m' news' → R (.ok .next) { s with heap := h', toks := tk }) :
    codeAny (model prog w) A (.forLoop target (.ref I) body [] env) R s := by
  refine codeAny_forLoop_any
    (fun k s' => ∃ h' tk m' news' i g, s' = { s with heap := h', toks := tk } ∧ St i h' ∧ G g ∧ Fr g env.locals h' m' ∧ News g env.locals h' news' ∧ (∀ p ∈ news', p.1 ≠ I) ∧ J i m' news' ∧ i ≤ n ∧ k = n + 1 - i) ?_ (n + 1)
    ⟨s.heap, s.toks, m, news, 0, g₀, rfl, hst, hg0, F, N, hnw, h0, Nat.zero_le _, rfl⟩
  rintro k s' ⟨h', tk, m', news', i, g, rfl, hst', hGg, F', N', hnw', hJ, hi, rfl⟩
  have nI : g.get? I = none := hG g hGg I hIg
  have next : ∀ h₁ : Heap, (∀ b o, b ∉ [I] → h'.get? b = some o → h₁.get? b = some o) → Fr g env.locals h₁ m' ∧ News g env.locals h₁ news' := fun h₁ hk₁ =>
    ⟨⟨F'.ns.at' fun o e => hk₁ _ o (fun q => hL (List.mem_singleton.mp q).symm) e, fun b o e => hk₁ b o (fun q => by rw [List.mem_singleton.mp q, nI] at e; cases e) (F'.keep b o e), F'.above⟩, fun p hp => ⟨hk₁ _ _ (fun q => hnw' p hp (List.mem_singleton.mp q)) (N' p hp).1, (N' p hp).2⟩⟩
  by_cases hlt : i < n
  · refine W.item i _ _ _ hlt hst' fun v h₁ tk₁ hMd hk₁ => ?_
    refine W.go i v _ _ _ hMd fun h₂ hP hst₂ hk₂ => ?_
    obtain ⟨F₂, N₂⟩ := next h₂ fun b o hb x => hk₂ b o hb (hk₁ b o hb x)
    obtain ⟨o, ho, hoc⟩ := hobj _ _ hst₂
    have NI : News g env.locals h₂ ((I, o) :: news') := fun p hp => by
      rcases List.mem_cons.mp hp with rfl | hp
      · exact ⟨ho, hL, nI⟩
      · exact N₂ p hp
    have fin : ∀ s₃, (∃ g' h₃ tk₃ m₂ news₂, s₃ = { s with heap := h₃, toks := tk₃ } ∧ G g' ∧ Fr g' env.locals h₃ m₂ ∧ News g' env.locals h₃ ((I, o) :: news₂) ∧ (∀ p ∈ news₂, p.1 ≠ I) ∧ J (i + 1) m₂ news₂) →
        ∃ m, m < n + 1 - i ∧ ∃ h' tk m' news' i g, s₃ = { s with heap := h', toks := tk } ∧ St i h' ∧ G g ∧ Fr g env.locals h' m' ∧ News g env.locals h' news' ∧ (∀ p ∈ news', p.1 ≠ I) ∧ J i m' news' ∧ i ≤ n ∧ m = n + 1 - i := by
      rintro s₃ ⟨g', h₃, tk₃, m₂, news₂, rfl, hG', F₃, N₃, hn₃, hJ₃⟩
      refine ⟨n + 1 - (i + 1), by omega, h₃, tk₃, m₂, news₂, i + 1, g', rfl, W.frame _ _ _ hst₂ fun b hb x e => ?_, hG', F₃, fun p hp => N₃ p (.tail _ hp), hn₃, hJ₃, hlt, rfl⟩
      rcases hfp b hb with rfl | ⟨o', ho'⟩
      · rw [ho] at e
        cases e
        exact (N₃ _ (.head _)).1
      · have e2 := (N₂ _ (hkeep _ _ _ hJ _ ho')).1
        have e3 := (N₃ _ (.tail _ (hkeep _ _ _ hJ₃ _ ho'))).1
        dsimp only at e2 e3
        rw [e2] at e
        cases e
        exact e3
    refine wpAny_mono (step g i v m' news' h₂ tk₁ o hGg hlt hP hJ hoc hnw' F₂ NI) (fun _ s₂ h₂' => wpAny_mono h₂' (fun f s₃ h₃ => ?_) fun _ _ e => e) fun _ _ e => e
    cases f with
    | ret v => exact h₃
    | brk => exact h₃
    | cont => exact fin _ h₃
    | next => exact fin _ h₃
  · have hin : i = n := by omega
    subst hin
    refine W.done _ _ _ hst' fun h₁ tk₁ hk₁ => wpAny_execs_nil ?_
    obtain ⟨F₁, N₁⟩ := next h₁ hk₁
    exact hR g h₁ tk₁ m' news' hGg F₁ N₁ hJ
theorem iter_rangeT {r : Addr} {a b c : Int} {t₀ u₀ v₀ : Tok} {m₀ : Str → Option Value} {news : List (Addr × Obj)} (n : Nat) (hr : IsRange s.heap r a b c t₀ u₀ v₀) (hsmall : Builtin.Range.small a b c = true) (hn : Builtin.Range.rangeSize a b c = (n : Int)) (F : Fr h₀ env.locals s.heap m₀) (N : News h₀ env.locals s.heap news)
    (G : Heap → Prop) (hG : ∀ g, G g → ∀ b, h₀.get? b = none → g.get? b = none) (hg0 : G h₀)
    (J : (Str → Option Value) → Nat → (Str → Option Value) → List (Addr × Obj) → Prop) (h0 : J m₀ 0 m₀ news)
    (step : ∀ I g i t m₁ news₁ h tk o, G g → i < n → J m₀ i m₁ news₁ → IsIt "range_iterator" o → (∀ p ∈ news₁, p.1 ≠ I) → Fr g env.locals h m₁ → News g env.locals h ((I, o) :: news₁) →
      wpAny (model prog w) A (assign target env (.int (a + (i : Int) * c) t)) (fun _ s₂ => wpAny (model prog w) A (execs body env) (EndT G env.locals { s with heap := h, toks := tk } I o (J m₀ (i + 1)) Q) E s₂) E { s with heap := h, toks := tk })
    (done : ∀ g m news h tk, G g → J m₀ n m news → Fr g env.locals h m → News g env.locals h news → Q .next { s with heap := h, toks := tk }) (hh : A.handled = none)
    (hE : PassesOwn (model prog w) A env E := by passes_own) :
    wpAny (model prog w) A (pyIter (.ref r)) (fun it s₂ => ForGo prog w A env target body Q E it s₂) E s := by
  refine wpAny_pyIter_range hr hsmall ?_
  rw [hn]
  refine loopT (C := "range_iterator") (keep := []) (KTurns.ofWalks ((Walks.range hh s.heap.objs.size a c n).bound) fun i v s Q E st q => letGo_rangeJ st q) (fun b hb => .inl (by simpa using hb)) (fun i h st => ⟨_, st, rfl, _, _, _, rfl, rfl⟩) G hG hg0 (ktu_new F (Nat.le_refl _)) (fun q => absurd F.ns.lt (q ▸ Nat.lt_irrefl _)) ?_ (F.push _) (fun p hp => ⟨Heap.get?_push_of_some _ (N p hp).1, (N p hp).2⟩) (fun p hp => Nat.ne_of_lt (Heap.lt_size (N p hp).1)) (J m₀) (fun _ _ _ _ p hp => nomatch hp) h0
    (fun g i v m₁ news₁ h₁ tk₁ o hGg hi hP hJ hc hnw F₁ N₁ => ?_) fun g h' tk m' news' hGg F' N' hJ => done g m' news' h' tk hGg hJ F' N'
  · show IsRangeIter _ _ _ _ _
    simpa using Heap.get?_push_size _ rfl
  · obtain ⟨_, t, rfl⟩ := hP
    exact wpAny_mono (step _ g i t m₁ news₁ h₁ tk₁ o hGg hi hJ hc hnw F₁ N₁) (fun _ _ x => wpAny_passesOwn hE x) hE
theorem iter_listT {ax : Addr} {vs : List Value} {n : Nat} {m₀ : Str → Option Value} {news : List (Addr × Obj)} (F : Fr h₀ env.locals s.heap m₀) (N : News h₀ env.locals s.heap news)
    (G : Heap → Prop) (hG : ∀ g, G g → ∀ b, h₀.get? b = none → g.get? b = none) (hg0 : G h₀)
    (J : (Str → Option Value) → Nat → (Str → Option Value) → List (Addr × Obj) → Prop) (h0 : J m₀ 0 m₀ news) (hkeep : ∀ i m news, J m₀ i m news → (ax, listOf vs.toArray n) ∈ news)
    (step : ∀ I g i v m₁ news₁ h tk o, G g → vs[i]? = some v → J m₀ i m₁ news₁ → IsIt "list_iterator" o → (∀ p ∈ news₁, p.1 ≠ I) → Fr g env.locals h m₁ → News g env.locals h ((I, o) :: news₁) →
      wpAny (model prog w) A (assign target env v) (fun _ s₂ => wpAny (model prog w) A (execs body env) (EndT G env.locals { s with heap := h, toks := tk } I o (J m₀ (i + 1)) Q) E s₂) E { s with heap := h, toks := tk })
    (done : ∀ g m news h tk, G g → J m₀ vs.length m news → Fr g env.locals h m → News g env.locals h news → Q .next { s with heap := h, toks := tk }) (hh : A.handled = none)
    (hE : PassesOwn (model prog w) A env E := by passes_own) :
    wpAny (model prog w) A (pyIter (.ref ax)) (fun it s₂ => ForGo prog w A env target body Q E it s₂) E s := by
  have hax := N _ (hkeep _ _ _ h0)
  have hl : s.heap.IsList ax vs.toArray := ⟨_, hax.1, rfl, n, rfl⟩
  have hlt : ax < s.heap.objs.size := Heap.lt_size hax.1
  have hne : ax ≠ s.heap.objs.size := Nat.ne_of_lt hlt
  refine wpAny_pyIter_list hl ?_
  refine loopT (C := "list_iterator") (keep := [(ax, listOf vs.toArray n)]) (KTurns.ofWalks (Walks.list hh s.heap.objs.size ax hne vs.toArray) fun i v s Q E st q => letGo_listiter st.1 q) (fun b hb => ?_) (fun i h st => ?_) G hG hg0 (ktu_new F (Nat.le_refl _)) (fun q => absurd F.ns.lt (q ▸ Nat.lt_irrefl _)) ?_ (F.push _) (fun p hp => ⟨Heap.get?_push_of_some _ (N p hp).1, (N p hp).2⟩) (fun p hp => Nat.ne_of_lt (Heap.lt_size (N p hp).1)) (J m₀) (fun i m news hJ p hp => by rw [List.mem_singleton.mp hp]; exact hkeep _ _ _ hJ) h0
    (fun g i v m₁ news₁ h₁ tk₁ o hGg hi hP hJ hc hnw F₁ N₁ => ?_) fun g h' tk m' news' hGg F' N' hJ => done g m' news' h' tk hGg (by simpa using hJ) F' N'
  · have hb' : b = s.heap.objs.size ∨ b = ax := by simpa using hb
    rcases hb' with e | e
    · exact .inl e
    · exact .inr ⟨listOf vs.toArray n, by simp [e]⟩
  · obtain ⟨it, hit, hic, hid⟩ := st.1
    exact ⟨it, hit, hic, _, _, _, hid, rfl⟩
  · exact ⟨⟨_, Heap.get?_push_size _ rfl, rfl, rfl⟩, hl.at fun o e => Heap.get?_push_of_some _ e⟩
  · have hP' : vs.toArray[i]? = some v := hP
    exact wpAny_mono (step _ g i v m₁ news₁ h₁ tk₁ o hGg (by simpa using hP') hJ hc hnw F₁ N₁) (fun _ _ x => wpAny_passesOwn hE x) hE
end
/-- the ground beneath a frame in which something may have been caught -/
structure Gd (A₀ : Around) (base : Heap) (outer : List Env) (g₀ g : Heap) : Prop where
  turn : KtsTurn (outer.filterMap (·.frame)) g₀ g
  below : Below A₀ base outer g
  dicts : KtsDicts (outer.filterMap (·.frame)) g
theorem Gd.none_ {A₀ : Around} {base : Heap} {outer : List Env} {g₀ g : Heap} (H : Gd A₀ base outer g₀ g) (b : Addr) (e : g₀.get? b = none) : g.get? b = none := H.turn.none_ b e
end
section
mutual
def PV.dat : PV → PyData
  | .int i => .int i
  | .agg b ps => .tuple [.str (tagOf b), .tuple (PV.datAll ps)]
def PV.datAll : List PV → List PyData
  | [] => []
  | p :: r => PV.dat p :: PV.datAll r
end
mutual
def PV.dep : PV → Nat
  | .int _ => 0
  | .agg _ ps => PV.depAll ps + 2
def PV.depAll : List PV → Nat
  | [] => 0
  | p :: r => max (PV.dep p) (PV.depAll r)
end
mutual
theorem dat_lay : ∀ p : PV, (PV.dat p).canLay0 = true
  | .int _ => by simp [PV.dat, PyData.canLay0]
  | .agg b ps => by
    have h : PyData.canLayAll0 (PV.datAll ps) = true := dat_layAll ps
    have ht : PyData.strOk (tagOf b) = true := by cases b <;> decide +kernel
    simp [PV.dat, PyData.canLay0, PyData.canLayAll0, h, ht]
theorem dat_layAll : ∀ ps : List PV, PyData.canLayAll0 (PV.datAll ps) = true
  | [] => by simp [PV.datAll, PyData.canLayAll0]
  | p :: r => by simp [PV.datAll, PyData.canLayAll0, dat_lay p, dat_layAll r]
end
mutual
theorem dat_depth : ∀ p : PV, (PV.dat p).depth = PV.dep p
  | .int _ => by simp [PV.dat, PyData.depth, PV.dep]
  | .agg b ps => by simp [PV.dat, PyData.depth, PyData.depthAll, PV.dep, dat_depthAll ps]
theorem dat_depthAll : ∀ ps : List PV, PyData.depthAll (PV.datAll ps) = PV.depAll ps
  | [] => by simp [PV.datAll, PyData.depthAll, PV.depAll]
  | p :: r => by simp [PV.datAll, PyData.depthAll, PV.depAll, dat_depth p, dat_depthAll r]
end
mutual
theorem dat_eqv : ∀ p : PV, PyData.eqv (PV.dat p) (PV.dat p) = true
  | .int _ => by simp [PV.dat, PyData.eqv]
  | .agg b ps => by simp [PV.dat, PyData.eqv, PyData.eqvAll, dat_eqvAll ps]
theorem dat_eqvAll : ∀ ps : List PV, PyData.eqvAll (PV.datAll ps) (PV.datAll ps) = true
  | [] => by simp [PV.datAll, PyData.eqvAll]
  | p :: r => by simp [PV.datAll, PyData.eqvAll, dat_eqv p, dat_eqvAll r]
end
theorem readsAll_of {h : Heap} : ∀ (vs : List Value) (ps : List PV), vs.length = ps.length → (∀ (i : Nat) v q, vs[i]? = some v → ps[i]? = some q → ∃ as, Reads h v (PV.dat q) as) → ∃ as, ReadsAll h vs (PV.datAll ps) as
  | [], [], _, _ => ⟨[], .nil⟩
  | [], _ :: _, e, _ => by cases e
  | _ :: _, [], e, _ => by cases e
  | v :: vs, p :: ps, e, H => by
    obtain ⟨a, ha⟩ := H 0 v p rfl rfl
    obtain ⟨b, hb⟩ := readsAll_of vs ps (by simpa using e) fun i u q hu hq => H (i + 1) u q hu hq
    exact ⟨a ++ b, .cons ha hb⟩
theorem Rep.reads {h₀ h : Heap} {L : Addr} {news : List (Addr × Obj)} (N : News h₀ L h news) {p : PV} {v : Value} (R : Rep news p v) : ∃ as, Reads h v (PV.dat p) as := by
  induction R with
  | int => exact ⟨_, .int _ _⟩
  | @agg arr ps x p t n n' vs h1 h2 h3 h4 h5 ih =>
    obtain ⟨as, has⟩ := readsAll_of (h := h) vs ps h3 fun i v q a b => ih i v q a b
    exact ⟨_, Reads.tuple (N _ h1).1 rfl rfl (.cons (.str _ _) (.cons (.tuple (N _ h2).1 rfl rfl (by simpa using has)) .nil))⟩
theorem RowRep.reads {h₀ h : Heap} {L : Addr} {news : List (Addr × Obj)} (N : News h₀ L h news) {cells : List PV} {vs : List Value} (R : RowRep news vs cells) : ∃ as, ReadsAll h vs (PV.datAll cells) as :=
  readsAll_of vs cells R.len fun i v q a b => by
    have := (R.item a).reads N
    rw [List.getD_eq_getElem?_getD, b] at this
    exact this
theorem dat_shaped {p : PV} (h : p.dep ≤ 60) : SeqAt.shaped (PV.dat p) = true := by
  unfold SeqAt.shaped
  rw [dat_lay, dat_depth]
  simp; omega
theorem datRow_shaped {cells : List PV} (h : PV.depAll cells ≤ 60) : SeqAt.shaped (.list (PV.datAll cells)) = true := by
  unfold SeqAt.shaped
  have a : (PyData.list (PV.datAll cells)).canLay0 = true := by simp [PyData.canLay0, dat_layAll]
  have b : (PyData.list (PV.datAll cells)).depth = PV.depAll cells + 1 := by simp [PyData.depth, dat_depthAll]
  rw [a, b]
  simp; omega
section
variable {prog : Program} {w : World} {A : Around} {E : Value → Shared → Prop} {s : Shared} {h₀ : Heap} {L : Addr} {m : Str → Option Value} {news : List (Addr × Obj)} {Q : Value → Shared → Prop}
theorem ne_PV {p : PV} {v v' : Value} (N : News h₀ L s.heap news) (R : Rep news p v) (R' : Rep news p v') (hp : p.dep ≤ 60) (hu : A.units + 64 < cLine) (h : Q (.bool false) s) : wpAny (model prog w) A (compareOp .NotEq v v') Q E s := by
  obtain ⟨as, ha⟩ := R.reads N
  obtain ⟨bs, hb⟩ := R'.reads N
  exact ne_dataH ha hb (dat_shaped hp) (dat_shaped hp) hu (by rw [dat_eqv]; exact h)
theorem ne_rows {a b : Addr} {vs vs' : List Value} {n n' : Nat} {cells : List PV} (N : News h₀ L s.heap news) (ha : (a, listOf vs.toArray n) ∈ news) (hb : (b, listOf vs'.toArray n') ∈ news) (R : RowRep news vs cells) (R' : RowRep news vs' cells) (hp : PV.depAll cells ≤ 60) (hu : A.units + 64 < cLine) (h : Q (.bool false) s) :
    wpAny (model prog w) A (compareOp .NotEq (.ref a) (.ref b)) Q E s := by
  obtain ⟨as, ra⟩ := R.reads N
  obtain ⟨bs, rb⟩ := R'.reads N
  exact ne_dataH (Reads.list (N _ ha).1 rfl rfl (by simpa using ra)) (Reads.list (N _ hb).1 rfl rfl (by simpa using rb)) (datRow_shaped hp) (datRow_shaped hp) hu (by simp only [PyData.eqv, dat_eqvAll]; exact h)
theorem rowRep_one {p : PV} {v : Value} (R : Rep news p v) : RowRep news [v] [p] := ⟨rfl, fun {i u} e => by
  cases i with
  | zero => cases e; exact R
  | succ i => cases e⟩
theorem ne_one {a b : Addr} {v v' : Value} {n n' : Nat} {p : PV} (N : News h₀ L s.heap news) (ha : (a, listOf #[v] n) ∈ news) (hb : (b, listOf #[v'] n') ∈ news) (R : Rep news p v) (R' : Rep news p v') (hp : p.dep ≤ 60) (hu : A.units + 64 < cLine) (h : Q (.bool false) s) :
    wpAny (model prog w) A (compareOp .NotEq (.ref a) (.ref b)) Q E s := ne_rows (vs := [v]) (vs' := [v']) N ha hb (rowRep_one R) (rowRep_one R') (by simpa [PV.depAll] using hp) hu h
end
/-- the plain law of store behind store -/
theorem with_with : ∀ (path : List Int) {v q : PV} (fr : PV), v.at path = some q → (v.with path fr).with path q = v := by
  intro path
  induction path with
  | nil => intro v q fr h; cases h; rfl
  | cons i r ih =>
    intro v q fr h
    cases v with
    | int j => cases h
    | agg b ps =>
      have h' : ((if 0 ≤ i then ps[i.toNat]? else none).bind (PV.at · r)) = some q := h
      split at h'
      · rename_i h0
        cases e : ps[i.toNat]? with
        | none => rw [e] at h'; cases h'
        | some p =>
          rw [e] at h'
          have h2 : p.at r = some q := h'
          obtain ⟨hlt, hp⟩ := List.getElem?_eq_some_iff.mp e
          show PV.agg b ((ps.set i.toNat (((ps[i.toNat]?).getD (.int 0)).with r fr)).set i.toNat ((((ps.set i.toNat (((ps[i.toNat]?).getD (.int 0)).with r fr))[i.toNat]?).getD (.int 0)).with r q)) = _
          rw [List.getElem?_set_self hlt, e]
          show PV.agg b ((ps.set i.toNat (p.with r fr)).set i.toNat ((p.with r fr).with r q)) = _
          rw [ih fr h2, List.set_set, ← hp, List.set_getElem_self]
      · cases h'
theorem at_with : ∀ (path : List Int) {v q : PV} (fr : PV), v.at path = some q → (v.with path fr).at path = some fr := by
  intro path
  induction path with
  | nil => intro v q fr h; rfl
  | cons i r ih =>
    intro v q fr h
    cases v with
    | int j => cases h
    | agg b ps =>
      have h' : ((if 0 ≤ i then ps[i.toNat]? else none).bind (PV.at · r)) = some q := h
      split at h'
      · rename_i h0
        cases e : ps[i.toNat]? with
        | none => rw [e] at h'; cases h'
        | some p =>
          rw [e] at h'
          have h2 : p.at r = some q := h'
          obtain ⟨hlt, hp⟩ := List.getElem?_eq_some_iff.mp e
          show ((if 0 ≤ i then (ps.set i.toNat (((ps[i.toNat]?).getD (.int 0)).with r fr))[i.toNat]? else none).bind (PV.at · r)) = _
          rw [if_pos h0, List.getElem?_set_self hlt, e]
          exact ih fr h2
      · cases h'
theorem peek_store {o : KObj} {path : List Int} {q : PV} (fr : PV) (h : peekP (some o) path = .ok q) : peekP (some (storeO o path fr)) path = .ok fr := by
  cases o with
  | row cells =>
    cases path with
    | nil => cases h
    | cons i r =>
      have h' : (if 0 ≤ i ∧ i < cells.length then (match (cells[i.toNat]?).bind (PV.at · r) with | some q => Except.ok q | none => Except.error (Str.ofString "place")) else Except.error (Str.ofString "place")) = Except.ok q := h
      split at h'
      · rename_i hi
        have hlt : i.toNat < cells.length := by omega
        cases e : (cells[i.toNat]?).bind (PV.at · r) with
        | none => rw [e] at h'; cases h'
        | some q' =>
          rw [List.getElem?_eq_getElem hlt] at e
          have e' : (cells[i.toNat]).at r = some q' := e
          show (if 0 ≤ i ∧ i < (cells.set i.toNat ((cells.getD i.toNat (.int 0)).with r fr)).length then _ else _) = _
          rw [List.length_set, if_pos hi, List.getElem?_set_self hlt, List.getD_eq_getElem?_getD, List.getElem?_eq_getElem hlt]
          show (match ((cells[i.toNat]).with r fr).at r with | some q => Except.ok q | none => _) = _
          rw [at_with r fr e']
      · cases h'
  | var v =>
    cases e : v.at path with
    | none => rw [peek_varno e] at h; cases h
    | some q' => exact peek_varok (at_with path fr e)
  | chan => cases h
theorem store_store {o : KObj} {path : List Int} {q : PV} (fr : PV) (h : peekP (some o) path = .ok q) : storeO (storeO o path fr) path q = o := by
  cases o with
  | row cells =>
    cases path with
    | nil => rfl
    | cons i r =>
      have h' : (if 0 ≤ i ∧ i < cells.length then (match (cells[i.toNat]?).bind (PV.at · r) with | some q => Except.ok q | none => Except.error (Str.ofString "place")) else Except.error (Str.ofString "place")) = Except.ok q := h
      split at h'
      · rename_i hi
        have hlt : i.toNat < cells.length := by omega
        cases e : (cells[i.toNat]?).bind (PV.at · r) with
        | none => rw [e] at h'; cases h'
        | some q' =>
          rw [e] at h'
          obtain rfl : q' = q := Except.ok.inj h'
          rw [List.getElem?_eq_getElem hlt] at e
          have e' : (cells[i.toNat]).at r = some q' := e
          show KObj.row ((cells.set i.toNat ((cells.getD i.toNat (.int 0)).with r fr)).set i.toNat (((cells.set i.toNat ((cells.getD i.toNat (.int 0)).with r fr)).getD i.toNat (.int 0)).with r q')) = _
          rw [List.getD_eq_getElem?_getD, List.getD_eq_getElem?_getD, List.getElem?_set_self hlt, List.getElem?_eq_getElem hlt]
          show KObj.row ((cells.set i.toNat ((cells[i.toNat]).with r fr)).set i.toNat (((cells[i.toNat]).with r fr).with r q')) = _
          rw [with_with r fr e', List.set_set, List.set_getElem_self]
      · cases h'
  | var v =>
    cases e : v.at path with
    | none => rw [peek_varno e] at h; cases h
    | some q' =>
      rw [peek_varok e] at h
      obtain rfl : q' = q := Except.ok.inj h
      show KObj.var ((v.with path fr).with path q') = _
      rw [with_with path fr e]
  | chan => cases h
theorem putS_putS {S : Ky → Option KObj} {key : Ky} {o o1 : KObj} (h : S key = some o) : putS (putS S key o1) key o = S := by
  funext k
  unfold putS
  split
  · rename_i e; rw [e, h]
  · rfl
theorem putS_self {S : Ky → Option KObj} {key : Ky} {o : KObj} : putS S key o key = some o := if_pos rfl
end
section
abbrev q374 : Str := Str.ofString "_law_place_right.<locals>.<lambda>"
abbrev q388 : Str := Str.ofString "_law_right.<locals>.<lambda>"
abbrev tabs (Fp : List Addr) : List Addr := 374 :: 388 :: Fp
/-- both code tables -/
structure TT (Fp : List Addr) (news : List (Addr × Obj)) : Prop where
  a : ∃ ps, (374, tabObj ps) ∈ news ∧ TabInv (tabs Fp) 374 q374 ps news
  b : ∃ ps, (388, tabObj ps) ∈ news ∧ TabInv (tabs Fp) 388 q388 ps news
structure WT (w : World) (hp kd hx : Addr) (g : Int) (kvs : List (Ky × Value)) (Fp : List Addr) (Xs : Ky → Addr) (S : Ky → Option KObj) (news : List (Addr × Obj)) : Prop where
  W : Wd w hp kd hx g kvs Fp Xs S news
  T : TT Fp news
  off : 374 ∉ Fp ∧ 388 ∉ Fp
def KO (Fp : List Addr) (news news' : List (Addr × Obj)) : Prop := ∀ a o, (a, o) ∈ news → a ∉ tabs Fp → (a, o) ∈ news'
theorem KO.refl {Fp : List Addr} {news : List (Addr × Obj)} : KO Fp news news := fun _ _ h _ => h
theorem KO.trans {Fp : List Addr} {n1 n2 n3 : List (Addr × Obj)} (x : KO Fp n1 n2) (y : KO Fp n2 n3) : KO Fp n1 n3 := fun a o h hn => y a o (x a o h hn) hn
theorem KO.of_sub {Fp : List Addr} {n1 n2 : List (Addr × Obj)} (h : ∀ p ∈ n1, p ∈ n2) : KO Fp n1 n2 := fun _ _ q _ => h _ q
theorem KO.of_keeps {Fp : List Addr} {n1 n2 : List (Addr × Obj)} (h : Keeps Fp n1 n2) : KO Fp n1 n2 := fun a o q hn => h a o q fun z => hn (.tail _ (.tail _ z))
section
variable {w : World} {hp kd hx : Addr} {g : Int} {kvs : List (Ky × Value)} {Fp : List Addr} {Xs : Ky → Addr} {S S' : Ky → Option KObj} {news news' : List (Addr × Obj)} {h₀ h : Heap} {L : Addr}
theorem WT.lt (H : WT w hp kd hx g kvs Fp Xs S news) {b : Nat} (l : ∀ p ∈ news, p.1 < b) {c : Addr} (hc : b ≤ c) : c ∉ tabs Fp := fun q => by
  rcases List.mem_cons.mp q with e | q
  · obtain ⟨ps, h1, _⟩ := H.T.a
    subst e
    exact Nat.lt_irrefl _ (Nat.lt_of_lt_of_le (l _ h1) hc)
  rcases List.mem_cons.mp q with e | q
  · obtain ⟨ps, h1, _⟩ := H.T.b
    subst e
    exact Nat.lt_irrefl _ (Nat.lt_of_lt_of_le (l _ h1) hc)
  · obtain ⟨o, h1, _⟩ := H.W.fp c q
    exact Nat.lt_irrefl _ (Nat.lt_of_lt_of_le (l _ h1) hc)
theorem WT.tup (H : WT w hp kd hx g kvs Fp Xs S news) (N : News h₀ L h news) {a : Addr} {o : Obj} (h1 : (a, o) ∈ news) (hc : o.cls = .type "tuple") : a ∉ tabs Fp := fun q => by
  rcases List.mem_cons.mp q with e | q
  · obtain ⟨ps, h2, _⟩ := H.T.a
    subst e
    rw [News.obj_eq N h1 h2] at hc
    cases hc
  rcases List.mem_cons.mp q with e | q
  · obtain ⟨ps, h2, _⟩ := H.T.b
    subst e
    rw [News.obj_eq N h1 h2] at hc
    cases hc
  · exact H.W.tup N h1 hc q
theorem WT.tups (H : WT w hp kd hx g kvs Fp Xs S news) (N : News h₀ L h news) (K : KO Fp news news') : ∀ a o, (a, o) ∈ news → o.cls = .type "tuple" → (a, o) ∈ news' := fun a o h hc => K a o h (H.tup N h hc)
theorem TT.up (H : TT Fp news) (hs : ∀ p ∈ news, p ∈ news') : TT Fp news' := by
  obtain ⟨⟨p1, a1, b1⟩, p2, a2, b2⟩ := H
  exact ⟨⟨p1, hs _ a1, b1.mono fun a o h _ _ => hs _ h⟩, p2, hs _ a2, b2.mono fun a o h _ _ => hs _ h⟩
theorem WT.up (H : WT w hp kd hx g kvs Fp Xs S news) (hs : ∀ p ∈ news, p ∈ news') : WT w hp kd hx g kvs Fp Xs S news' := ⟨H.W.off fun a o h _ => hs _ h, H.T.up hs, H.off⟩
/-- after a write -/
theorem WT.put (H : WT w hp kd hx g kvs Fp Xs S news) (W' : Wd w hp kd hx g kvs Fp Xs S' news') (K : Keeps Fp news news') : WT w hp kd hx g kvs Fp Xs S' news' := by
  obtain ⟨_, ⟨⟨p1, a1, b1⟩, p2, a2, b2⟩, o1, o2⟩ := H
  exact ⟨W', ⟨⟨p1, K _ _ a1 o1, b1.mono fun a o h hn _ => K a o h fun z => hn (.tail _ (.tail _ z))⟩, p2, K _ _ a2 o2, b2.mono fun a o h hn _ => K a o h fun z => hn (.tail _ (.tail _ z))⟩, o1, o2⟩
theorem WT.eqS (H : WT w hp kd hx g kvs Fp Xs S news) (e : S = S') : WT w hp kd hx g kvs Fp Xs S' news := e ▸ H
theorem WT.mem (H : WT w hp kd hx g kvs Fp Xs S news) : ∀ a ∈ tabs Fp, ∃ o, (a, o) ∈ news := fun a q => by
  rcases List.mem_cons.mp q with e | q
  · obtain ⟨ps, h2, _⟩ := H.T.a
    exact ⟨_, e ▸ h2⟩
  rcases List.mem_cons.mp q with e | q
  · obtain ⟨ps, h2, _⟩ := H.T.b
    exact ⟨_, e ▸ h2⟩
  · obtain ⟨o, h1, _⟩ := H.W.fp a q
    exact ⟨o, h1⟩
theorem LocRep.ko {v : Value} {key : Ky} {path : List Int} (R : LocRep news v key path) (H : WT w hp kd hx g kvs Fp Xs S news) (N : News h₀ L h news) (K : KO Fp news news') : LocRep news' v key path := R.mono (H.tups N K)
theorem Rep.ko {v : Value} {p : PV} (R : Rep news p v) (H : WT w hp kd hx g kvs Fp Xs S news) (N : News h₀ L h news) (K : KO Fp news news') : Rep news' p v := R.mono (H.tups N K)
end
section
variable {M : Model} {A : Around} {E : Value → Shared → Prop} {s : Shared} {h₀ : Heap} {L a c : Addr} {m mg mb : Str → Option Value} {cn : Str} {cs : Scope} {ccd : Value} {cl : List (Str × Addr)} {all : List (Addr × Obj)}
  {p : Program} {loose : List Str} {mean : ExcName → Option Value} {name : Str} {params : Arguments} {body : Expr} {scope : Scope} {pos : Pos} {firstLine : Nat} {clos : List (Str × Addr)}
  {w : World} {hp kd hx : Addr} {g : Int} {kvs : List (Ky × Value)} {Fp : List Addr} {Xs : Ky → Addr} {S : Ky → Option KObj} {Q : Value → Shared → Prop}
theorem lam374 (F : Fr h₀ L s.heap m) (N : News h₀ L s.heap all) (T : Top p loose mean mg mb h₀) (C : CodeHd h₀ c 374) (hcd : ccd = .ref c) (H : WT w hp kd hx g kvs Fp Xs S all)
    (hcl : closureFor scope (envX cn cs L a ccd cl) = pure clos)
    (h : ∀ f c' ctv oc vs t h' tk all', Fr h₀ L h' m → News h₀ L h' all' → WT w hp kd hx g kvs Fp Xs S all' → KO Fp all all' → (f, kla_obj name q374 params body scope clos ((mg "__name__").getD .none) c' ctv) ∈ all' → (c', oc) ∈ all' →
      oc.data = .fields vs → vs[1]? = some (.str q374 t) → (∀ q ∈ all, q.1 < f) → Q (.ref f) { s with heap := h', toks := tk }) :
    wpAny M A (makeFunction name q374 params (.expr body) scope (envX cn cs L a ccd cl) [] [] [] pos firstLine) Q E s := by
  obtain ⟨W, ⟨⟨p1, a1, b1⟩, p2, a2, b2⟩, o1, o2⟩ := id H
  refine lam_led F N T C hcd a1 b1 H.mem hcl fun f c' ctv oc vs t ps' h' tk all' F' N' sub mf mc mP d1 d2 TI' l1 => ?_
  refine h f c' ctv oc vs t h' tk all' F' N' ⟨W.off fun a o q hn => sub a o q fun e => ?_, ⟨⟨ps', mP, TI'⟩, p2, sub _ _ a2 (by decide), b2.mono fun a o q hn _ => sub a o q fun e => hn (by rw [e]; exact .head _)⟩, o1, o2⟩ (fun a o q hn => sub a o q fun e => hn (by rw [e]; exact .head _)) mf mc d1 d2 l1
  subst e
  exact hn (by rw [News.obj_eq N q a1])
theorem lam388 (F : Fr h₀ L s.heap m) (N : News h₀ L s.heap all) (T : Top p loose mean mg mb h₀) (C : CodeHd h₀ c 388) (hcd : ccd = .ref c) (H : WT w hp kd hx g kvs Fp Xs S all)
    (hcl : closureFor scope (envX cn cs L a ccd cl) = pure clos)
    (h : ∀ f c' ctv oc vs t h' tk all', Fr h₀ L h' m → News h₀ L h' all' → WT w hp kd hx g kvs Fp Xs S all' → KO Fp all all' → (f, kla_obj name q388 params body scope clos ((mg "__name__").getD .none) c' ctv) ∈ all' → (c', oc) ∈ all' →
      oc.data = .fields vs → vs[1]? = some (.str q388 t) → (∀ q ∈ all, q.1 < f) → Q (.ref f) { s with heap := h', toks := tk }) :
    wpAny M A (makeFunction name q388 params (.expr body) scope (envX cn cs L a ccd cl) [] [] [] pos firstLine) Q E s := by
  obtain ⟨W, ⟨⟨p1, a1, b1⟩, p2, a2, b2⟩, o1, o2⟩ := id H
  refine lam_led F N T C hcd a2 b2 H.mem hcl fun f c' ctv oc vs t ps' h' tk all' F' N' sub mf mc mP d1 d2 TI' l1 => ?_
  refine h f c' ctv oc vs t h' tk all' F' N' ⟨W.off fun a o q hn => sub a o q fun e => ?_, ⟨⟨p1, sub _ _ a1 (by decide), b1.mono fun a o q hn _ => sub a o q fun e => hn (by rw [e]; exact .tail _ (.head _))⟩, ps', mP, TI'⟩, o1, o2⟩ (fun a o q hn => sub a o q fun e => hn (by rw [e]; exact .tail _ (.head _))) mf mc d1 d2 l1
  subst e
  exact hn (by rw [News.obj_eq N q a2])
end
end
local macro_rules | `(tactic| walk_at "leaving ref") => `(tactic| (k_here; k_dflt (refine' leaveD_onX ?f ?K ?F ?R ?_; (case R => assumption); (case F => assumption); (case K => assumption); (case f => exact rfl); k_whole; intro h' R')))
theorem kw_M19 : True := by
  k_with "eval Name" => (k_here; k_dflt (refine name_free' (by k_asm) (by exact rfl) (by k_mem) (by assumption) ?_ (by exact rfl) (by exact rfl); k_whole))
  k_with "mine load_W" => (k_here; k_dflt (refine load_W (by k_asm) (by k_asm) (by k_asm) (by k_asm) (by k_asm) (by rfl) (by ktr_room) (by ktr_units) (by assumption) (by assumption) ?_ ?_; intros; (try dsimp only); rotate_left 1; (intro k0; walk_at "mine fail")))
  k_with "call ref" => walk_at "mine load_W"
  trivial
section
theorem store_any {w : World} {mean : ExcName → Option Value} {mg mb : Str → Option Value} {dp un : Nat} {gd : Option (List Code)} {cn : Str} {cs : Scope} {a : Addr} {ccd : Value} {cl : List (Str × Addr)} {outer : List Env} {A₀ : Around} {base h₀ : Heap} {L : Addr} {m : Str → Option Value} {news : List (Addr × Obj)} {s : Shared} {Q E : Value → Shared → Prop}
    (B : Below A₀ base outer h₀) (F : Fr h₀ L s.heap m) (X : (hd.heap_39 w.params).In h₀) (N : News h₀ L s.heap news) (T : Top PP LL mean mg mb h₀) (hk : cs.kind = .function) (hdp : dp + 200 < recursionLimit) (hun : un + 2400 < cLine)
    {hp kd hx : Addr} {g : Int} {kvs : List (Ky × Value)} {Fp : List Addr} {Xs : Ky → Addr} {S : Ky → Option KObj} {key : Ky} {path : List Int} {v fv : Value} {fr : PV} (W : Wd w hp kd hx g kvs Fp Xs S news) (hl : LocRep news v key path) (hfr : Rep news fr fv)
    (hret : ∀ o old h' tk' news', S key = some o → peekP (some o) path = .ok old → Wd w hp kd hx g kvs Fp Xs (putS S key (storeO o path fr)) news' → Keeps Fp news news' → Fr h₀ L h' m → News h₀ L h' news' → Q .none { s with heap := h', toks := tk' })
    (hE : ∀ k, peekP (S key) path = .error k → FailP base h₀ L m (envX cn cs L a ccd cl :: outer) news s k E) :
    wpAny (model Prg w) (ktrTop dp un gd cn cs L a ccd cl outer) (call (.ref 241) [.ref hp, v, fv]) Q E s := by
  cases e : peekP (S key) path with
  | error k => exact store_no B F X N T hk hdp hun (W.heapAt Keeps.refl) hl (W.obj key) e (hE k e)
  | ok old =>
    cases ho : S key with
    | none => rw [ho] at e; cases e
    | some o =>
      rw [ho] at e
      exact store_W B F X N T hk hdp hun W hl hfr ho e fun h' tk' news' W' K' F' N' => hret o old h' tk' news' ho e W' K' F' N'
end
section
theorem AskSpec.mono {w : World} {mean : ExcName → Option Value} {mg mb : Str → Option Value} {base : Heap} {ask : Addr} {news : List (Addr × Obj)} {P P' : Value → List (Addr × Obj) → Prop} {PE PE' : Str → Prop} (S : AskSpec w mean mg mb base ask news P PE) (h : ∀ v n, P v n → P' v n) (h' : ∀ k, PE k → PE' k) :
    AskSpec w mean mg mb base ask news P' PE' := fun B F X N T hk hdp hun hret hE => S B F X N T hk hdp hun (fun v h1 tk news' p => hret v h1 tk news' (h _ _ p)) fun k p => hE k (h' k p)
theorem told_no {w : World} {mean : ExcName → Option Value} {mg mb : Str → Option Value} {dp un : Nat} {gd : Option (List Code)} {cn : Str} {cs : Scope} {a : Addr} {ccd : Value} {cl : List (Str × Addr)} {outer : List Env} {A₀ : Around} {base h₀ : Heap} {L : Addr} {m : Str → Option Value} {news : List (Addr × Obj)} {s : Shared} {Q E : Value → Shared → Prop}
    (B : Below A₀ base outer h₀) (F : Fr h₀ L s.heap m) (X : (hd.heap_39 w.params).In h₀) (N : News h₀ L s.heap news) (T : Top PP LL mean mg mb h₀) (hk : cs.kind = .function) (hdp : dp + 320 < recursionLimit) (hun : un + 4000 < cLine) (XB : (hd.heap_39 w.params).In base) (TB : Top PP LL mean mg mb base) (D : KtsDicts (outer.filterMap (·.frame)) h₀)
    {ask : Addr} {oc : Value} {od : Option Addr} {fd : FuncData} {sl : Array (Option Value)} {K : Str} (hf : (ask, (⟨oc, od, .func fd, sl⟩ : Obj)) ∈ news) (hS : AskSpec w mean mg mb base ask news (fun _ _ => False) (fun k => k = K))
    (hno : ∀ t h' tk' h₀', KtsTurn (outer.filterMap (·.frame)) h₀ h₀' → Below A₀ base outer h₀' → (hd.heap_39 w.params).In h₀' → Top PP LL mean mg mb h₀' → KtsDicts (outer.filterMap (·.frame)) h₀' → Fr h₀' L h' m → News h₀' L h' news → Q (.str K t) { s with heap := h', toks := tk' }) :
    wpAny (model Prg w) (ktrTop dp un gd cn cs L a ccd cl outer) (call (.ref 365) [.ref ask]) Q E s :=
  told_all B F X N T hk hdp hun XB TB D hf hS (fun _ _ _ _ _ _ _ p => p.elim) (fun k t h' tk' h₀' p a b c d e => by subst p; exact hno t h' tk' h₀' a b (XB.keeps b.stays) (TB.keeps b.stays) c d e)
theorem told_yes {w : World} {mean : ExcName → Option Value} {mg mb : Str → Option Value} {dp un : Nat} {gd : Option (List Code)} {cn : Str} {cs : Scope} {a : Addr} {ccd : Value} {cl : List (Str × Addr)} {outer : List Env} {A₀ : Around} {base h₀ : Heap} {L : Addr} {m : Str → Option Value} {news : List (Addr × Obj)} {s : Shared} {Q E : Value → Shared → Prop}
    (B : Below A₀ base outer h₀) (F : Fr h₀ L s.heap m) (X : (hd.heap_39 w.params).In h₀) (N : News h₀ L s.heap news) (T : Top PP LL mean mg mb h₀) (hk : cs.kind = .function) (hdp : dp + 320 < recursionLimit) (hun : un + 4000 < cLine) (XB : (hd.heap_39 w.params).In base) (TB : Top PP LL mean mg mb base) (D : KtsDicts (outer.filterMap (·.frame)) h₀)
    {ask : Addr} {oc : Value} {od : Option Addr} {fd : FuncData} {sl : Array (Option Value)} {P : Value → List (Addr × Obj) → Prop} (hf : (ask, (⟨oc, od, .func fd, sl⟩ : Obj)) ∈ news) (hS : AskSpec w mean mg mb base ask news P (fun _ => False))
    (hret : ∀ v h' tk' news' l h₀' n, P v news' → KtsTurn (outer.filterMap (·.frame)) h₀ h₀' → Below A₀ base outer h₀' → (hd.heap_39 w.params).In h₀' → Top PP LL mean mg mb h₀' → KtsDicts (outer.filterMap (·.frame)) h₀' → Fr h₀' L h' m → News h₀' L h' ((l, listOf #[v] n) :: news') → Q (.ref l) { s with heap := h', toks := tk' }) :
    wpAny (model Prg w) (ktrTop dp un gd cn cs L a ccd cl outer) (call (.ref 365) [.ref ask]) Q E s :=
  told_all B F X N T hk hdp hun XB TB D hf hS (fun v h' tk' news' l h₀' n p a b c d e => hret v h' tk' news' l h₀' n p a b (XB.keeps b.stays) (TB.keeps b.stays) c d e) (fun _ _ _ _ _ p => p.elim)
theorem cells3 {h₀ h : Heap} {L a1 a2 a3 : Addr} {o1 o2 o3 : Obj} {news : List (Addr × Obj)} (N : News h₀ L h ((a1, o1) :: (a2, o2) :: (a3, o3) :: news)) : ∃ all, News h₀ L h all ∧ (a1, o1) ∈ all ∧ (a2, o2) ∈ all ∧ (a3, o3) ∈ all ∧ ∀ p ∈ news, p ∈ all :=
  ⟨_, N, .head _, .tail _ (.head _), .tail _ (.tail _ (.head _)), fun _ hp => .tail _ (.tail _ (.tail _ hp))⟩
section
variable {w : World} {mean : ExcName → Option Value} {mg mb : Str → Option Value} {base : Heap} {ask : Addr} {news : List (Addr × Obj)} {hp kd hx : Addr} {g : Int} {kvs : List (Ky × Value)} {Fp : List Addr} {Xs : Ky → Addr} {S : Ky → Option KObj} {key : Ky} {path : List Int} {fr q : PV} {K : Str} {o : KObj}
theorem AskSpec.load_no (A : AskSpec w mean mg mb base ask news (fun u news' => ∃ q ex, peekP (S key) path = .ok q ∧ Rep news' q u ∧ news' = ex ++ news ∧ ∀ p ∈ ex, p.2.cls = .type "tuple") (fun k => peekP (S key) path = .error k)) (he : peekP (S key) path = .error K) :
    AskSpec w mean mg mb base ask news (fun _ _ => False) (fun k => k = K) :=
  AskSpec.mono A (fun v n p => by obtain ⟨q, ex, e0, _⟩ := p; rw [he] at e0; cases e0) (fun k e0 => by rw [he] at e0; exact (Except.error.inj e0).symm)
theorem AskSpec.store_no (A : AskSpec w mean mg mb base ask news (fun u news' => ∃ o old, S key = some o ∧ peekP (some o) path = .ok old ∧ u = .none ∧ Wd w hp kd hx g kvs Fp Xs (putS S key (storeO o path fr)) news' ∧ Keeps Fp news news') (fun k => peekP (S key) path = .error k)) (he : peekP (S key) path = .error K) :
    AskSpec w mean mg mb base ask news (fun _ _ => False) (fun k => k = K) :=
  AskSpec.mono A (fun v n p => by obtain ⟨o, old, e1, e0, _⟩ := p; rw [e1, e0] at he; cases he) (fun k e0 => by rw [he] at e0; exact (Except.error.inj e0).symm)
theorem AskSpec.load_yes (A : AskSpec w mean mg mb base ask news (fun u news' => ∃ q ex, peekP (S key) path = .ok q ∧ Rep news' q u ∧ news' = ex ++ news ∧ ∀ p ∈ ex, p.2.cls = .type "tuple") (fun k => peekP (S key) path = .error k)) (he : peekP (S key) path = .ok q) :
    AskSpec w mean mg mb base ask news (fun u news' => Rep news' q u ∧ ∀ p ∈ news, p ∈ news') (fun _ => False) :=
  AskSpec.mono A (fun v n p => by
    refine hide fun GG9 hG9 => ?_
    obtain ⟨q', ex, e0, r0, e1, _⟩ := p
    refine hG9 ?_
    clear hG9 GG9
    rw [he] at e0
    cases e0
    exact ⟨r0, fun p hp => by rw [e1]; exact List.mem_append_right _ hp⟩) (fun k e0 => by rw [he] at e0; cases e0)
theorem AskSpec.store_yes (A : AskSpec w mean mg mb base ask news (fun u news' => ∃ o old, S key = some o ∧ peekP (some o) path = .ok old ∧ u = .none ∧ Wd w hp kd hx g kvs Fp Xs (putS S key (storeO o path fr)) news' ∧ Keeps Fp news news') (fun k => peekP (S key) path = .error k)) (hS : S key = some o) (he : peekP (some o) path = .ok q) :
    AskSpec w mean mg mb base ask news (fun u news' => u = .none ∧ Wd w hp kd hx g kvs Fp Xs (putS S key (storeO o path fr)) news' ∧ Keeps Fp news news') (fun _ => False) :=
  AskSpec.mono A (fun v n p => by
    refine hide fun GG9 hG9 => ?_
    obtain ⟨o', old, e1, e0, e2, e3, e4⟩ := p
    refine hG9 ?_
    clear hG9 GG9
    rw [hS] at e1
    cases e1
    exact ⟨e2, e3, e4⟩) (fun k e0 => by rw [hS, he] at e0; cases e0)
end
theorem told_rep {w : World} {mean : ExcName → Option Value} {mg mb : Str → Option Value} {dp un : Nat} {gd : Option (List Code)} {cn : Str} {cs : Scope} {a : Addr} {ccd : Value} {cl : List (Str × Addr)} {outer : List Env} {A₀ : Around} {base h₀ : Heap} {L : Addr} {m : Str → Option Value} {news : List (Addr × Obj)} {s : Shared} {Q E : Value → Shared → Prop}
    (B : Below A₀ base outer h₀) (F : Fr h₀ L s.heap m) (X : (hd.heap_39 w.params).In h₀) (N : News h₀ L s.heap news) (T : Top PP LL mean mg mb h₀) (hk : cs.kind = .function) (hdp : dp + 320 < recursionLimit) (hun : un + 4000 < cLine) (XB : (hd.heap_39 w.params).In base) (TB : Top PP LL mean mg mb base) (D : KtsDicts (outer.filterMap (·.frame)) h₀)
    {ask : Addr} {oc : Value} {od : Option Addr} {fd : FuncData} {sl : Array (Option Value)} {q : PV} (hf : (ask, (⟨oc, od, .func fd, sl⟩ : Obj)) ∈ news) (hS : AskSpec w mean mg mb base ask news (fun u news' => Rep news' q u ∧ ∀ p ∈ news, p ∈ news') (fun _ => False))
    (hret : ∀ v h' tk' news' l h₀' n, Rep news' q v → (∀ p ∈ news, p ∈ news') → KtsTurn (outer.filterMap (·.frame)) h₀ h₀' → Below A₀ base outer h₀' → (hd.heap_39 w.params).In h₀' → Top PP LL mean mg mb h₀' → KtsDicts (outer.filterMap (·.frame)) h₀' → Fr h₀' L h' m → News h₀' L h' ((l, listOf #[v] n) :: news') → Q (.ref l) { s with heap := h', toks := tk' }) :
    wpAny (model Prg w) (ktrTop dp un gd cn cs L a ccd cl outer) (call (.ref 365) [.ref ask]) Q E s :=
  told_yes B F X N T hk hdp hun XB TB D hf hS (fun v h' tk' news' l h₀' n p => hret v h' tk' news' l h₀' n p.1 p.2)
theorem told_put {w : World} {mean : ExcName → Option Value} {mg mb : Str → Option Value} {dp un : Nat} {gd : Option (List Code)} {cn : Str} {cs : Scope} {a : Addr} {ccd : Value} {cl : List (Str × Addr)} {outer : List Env} {A₀ : Around} {base h₀ : Heap} {L : Addr} {m : Str → Option Value} {news : List (Addr × Obj)} {s : Shared} {Q E : Value → Shared → Prop}
    (B : Below A₀ base outer h₀) (F : Fr h₀ L s.heap m) (X : (hd.heap_39 w.params).In h₀) (N : News h₀ L s.heap news) (T : Top PP LL mean mg mb h₀) (hk : cs.kind = .function) (hdp : dp + 320 < recursionLimit) (hun : un + 4000 < cLine) (XB : (hd.heap_39 w.params).In base) (TB : Top PP LL mean mg mb base) (D : KtsDicts (outer.filterMap (·.frame)) h₀)
    {ask : Addr} {oc : Value} {od : Option Addr} {fd : FuncData} {sl : Array (Option Value)} {hp kd hx : Addr} {g : Int} {kvs : List (Ky × Value)} {Fp : List Addr} {Xs : Ky → Addr} {S : Ky → Option KObj} (hf : (ask, (⟨oc, od, .func fd, sl⟩ : Obj)) ∈ news) (hS : AskSpec w mean mg mb base ask news (fun u news' => u = .none ∧ Wd w hp kd hx g kvs Fp Xs S news' ∧ Keeps Fp news news') (fun _ => False))
    (hret : ∀ h' tk' news' l h₀' n, Wd w hp kd hx g kvs Fp Xs S news' → Keeps Fp news news' → KtsTurn (outer.filterMap (·.frame)) h₀ h₀' → Below A₀ base outer h₀' → (hd.heap_39 w.params).In h₀' → Top PP LL mean mg mb h₀' → KtsDicts (outer.filterMap (·.frame)) h₀' → Fr h₀' L h' m → News h₀' L h' ((l, listOf #[.none] n) :: news') → Q (.ref l) { s with heap := h', toks := tk' }) :
    wpAny (model Prg w) (ktrTop dp un gd cn cs L a ccd cl outer) (call (.ref 365) [.ref ask]) Q E s :=
  told_yes B F X N T hk hdp hun XB TB D hf hS (fun v h' tk' news' l h₀' n p => by obtain ⟨rfl, p1, p2⟩ := p; exact hret h' tk' news' l h₀' n p1 p2)
end
section
def lamScope (names : List (Str × NameKind)) : Scope := { kind := .function, names := names, isGenerator := false, isCoroutine := false }
theorem ask_load1 {w : World} {mean : ExcName → Option Value} {mg mb : Str → Option Value} {base : Heap} {news : List (Addr × Obj)} {f c' cH cL : Addr} {oc oH oL : Obj} {vs : Array Value} {t : Tok} {qual : Str} {pm ctv : Value}
    {hp kd hx : Addr} {g : Int} {kvs : List (Ky × Value)} {Fp : List Addr} {Xs : Ky → Addr} {S : Ky → Option KObj} {key : Ky} {path : List Int} {v : Value} (W : Wd w hp kd hx g kvs Fp Xs S news) (hl : LocRep news v key path)
    (hf : (f, kla_obj (Str.ofString "<lambda>") qual { posonlyargs := [], args := [], vararg := none, kwonlyargs := [], kw_defaults := [], kwarg := none, defaults := [] }
      (.Call (.Attribute (.Name (Str.ofString "heap") { line := 217, col := 8, endLine := 217, endCol := 12 }) (Str.ofString "load") { line := 217, col := 8, endLine := 217, endCol := 17 }) [(.Name (Str.ofString "location") { line := 217, col := 18, endLine := 217, endCol := 26 })] [] { line := 217, col := 8, endLine := 217, endCol := 27 })
      { kind := .function, names := [(Str.ofString "heap", .free), (Str.ofString "location", .free)], isGenerator := false, isCoroutine := false } [(Str.ofString "location", cL), (Str.ofString "heap", cH)] pm c' ctv) ∈ news)
    (hc : (c', oc) ∈ news) (hd1 : oc.data = .fields vs) (hd2 : vs[1]? = some (Value.str qual t)) (hH : (cH, oH) ∈ news) (dH : oH.data = .cell (some (.ref hp))) (hL : (cL, oL) ∈ news) (dL : oL.data = .cell (some v)) :
    AskSpec w mean mg mb base f news (fun u news' => ∃ q ex, peekP (S key) path = .ok q ∧ Rep news' q u ∧ news' = ex ++ news ∧ ∀ p ∈ ex, p.2.cls = .type "tuple") (fun k => peekP (S key) path = .error k) := by
  intro dp un gd cn cs a ccd cl outer A₀ h₀ L m s Q E B F X N T hk hdp hun hret hE
  have hfill : (hd.heap_39 = hd.heap_39 ∧ PySem.Challenge.rw_pf0075_01 = PySem.Challenge.rw_pf0075_01) → True := by
    k_fill
    intro _; trivial
  clear hfill
  refine hide fun GG9 hG9 => ?_
  obtain ⟨_, _, _, _, _, _, _, _, _, _, _, _, _, _, w1, w2, _, _⟩ := W.heap
  refine hG9 ?_
  clear hG9 GG9
  refine wpAny_call ?_
  k_dflt (refine' kla_code ?k1 ?k2 ?k3 ?k4 ?k5 ?kA ?kF ?kK ?k6 ?k7 ?k8 ?k9 ?kB ?_ ?c2 ?c3 ?c4 ?c5)
  case kA => exact rfl
  case kF => exact rfl
  case kK => assumption
  case k1 => k_asm
  case k2 => k_asm
  case k3 => k_asm
  case k4 => k_asm
  case k5 => k_asm
  case k6 => exact hf
  case k7 => exact codeRec_news N hc hd1 hd2
  case k8 => ktr_room
  case k9 => exact rfl
  case c5 => decide
  case kB => exact locs rfl
  case c2 => exact rfl
  case c3 => exact rfl
  case c4 => exact rfl
  k_whole
  intro g' L' h' FG' F' N' B' X' T'
  try dsimp only
  try k_fold
  k_steps
  · rename peekP _ _ = _ => e0
    rename RaisedD _ _ _ _ _ _ _ _ => R
    rename getL _ _ = _ => q1
    exact hE _ e0 _ _ _ _ _ _ _ _ FG' R q1
  · rename peekP _ _ = _ => e0
    rename Rep _ _ _ => r0
    rename ∀ p : Addr × Obj, p ∈ _ → p.2.cls = _ => xt
    rename Fr h₀ L _ m => kF
    rename News h₀ L _ _ => kN
    exact hret _ _ _ _ ⟨_, _, e0, r0, rfl, xt⟩ kF kN
theorem ask_load2 {w : World} {mean : ExcName → Option Value} {mg mb : Str → Option Value} {base : Heap} {news : List (Addr × Obj)} {f c' cH cL : Addr} {oc oH oL : Obj} {vs : Array Value} {t : Tok} {qual : Str} {pm ctv : Value}
    {hp kd hx : Addr} {g : Int} {kvs : List (Ky × Value)} {Fp : List Addr} {Xs : Ky → Addr} {S : Ky → Option KObj} {key : Ky} {path : List Int} {v : Value} (W : Wd w hp kd hx g kvs Fp Xs S news) (hl : LocRep news v key path)
    (hf : (f, kla_obj (Str.ofString "<lambda>") qual { posonlyargs := [], args := [], vararg := none, kwonlyargs := [], kw_defaults := [], kwarg := none, defaults := [] }
      (.Call (.Attribute (.Name (Str.ofString "heap") { line := 220, col := 8, endLine := 220, endCol := 12 }) (Str.ofString "load") { line := 220, col := 8, endLine := 220, endCol := 17 }) [(.Name (Str.ofString "location") { line := 220, col := 18, endLine := 220, endCol := 26 })] [] { line := 220, col := 8, endLine := 220, endCol := 27 })
      { kind := .function, names := [(Str.ofString "heap", .free), (Str.ofString "location", .free)], isGenerator := false, isCoroutine := false } [(Str.ofString "location", cL), (Str.ofString "heap", cH)] pm c' ctv) ∈ news)
    (hc : (c', oc) ∈ news) (hd1 : oc.data = .fields vs) (hd2 : vs[1]? = some (Value.str qual t)) (hH : (cH, oH) ∈ news) (dH : oH.data = .cell (some (.ref hp))) (hL : (cL, oL) ∈ news) (dL : oL.data = .cell (some v)) :
    AskSpec w mean mg mb base f news (fun u news' => ∃ q ex, peekP (S key) path = .ok q ∧ Rep news' q u ∧ news' = ex ++ news ∧ ∀ p ∈ ex, p.2.cls = .type "tuple") (fun k => peekP (S key) path = .error k) := by
  intro dp un gd cn cs a ccd cl outer A₀ h₀ L m s Q E B F X N T hk hdp hun hret hE
  have hfill : (hd.heap_39 = hd.heap_39 ∧ PySem.Challenge.rw_pf0075_01 = PySem.Challenge.rw_pf0075_01) → True := by
    k_fill
    intro _; trivial
  clear hfill
  refine hide fun GG9 hG9 => ?_
  obtain ⟨_, _, _, _, _, _, _, _, _, _, _, _, _, _, w1, w2, _, _⟩ := W.heap
  refine hG9 ?_
  clear hG9 GG9
  refine wpAny_call ?_
  k_dflt (refine' kla_code ?k1 ?k2 ?k3 ?k4 ?k5 ?kA ?kF ?kK ?k6 ?k7 ?k8 ?k9 ?kB ?_ ?c2 ?c3 ?c4 ?c5)
  case kA => exact rfl
  case kF => exact rfl
  case kK => assumption
  case k1 => k_asm
  case k2 => k_asm
  case k3 => k_asm
  case k4 => k_asm
  case k5 => k_asm
  case k6 => exact hf
  case k7 => exact codeRec_news N hc hd1 hd2
  case k8 => ktr_room
  case k9 => exact rfl
  case c5 => decide
  case kB => exact locs rfl
  case c2 => exact rfl
  case c3 => exact rfl
  case c4 => exact rfl
  k_whole
  intro g' L' h' FG' F' N' B' X' T'
  try dsimp only
  try k_fold
  k_steps
  · rename peekP _ _ = _ => e0
    rename RaisedD _ _ _ _ _ _ _ _ => R
    rename getL _ _ = _ => q1
    exact hE _ e0 _ _ _ _ _ _ _ _ FG' R q1
  · rename peekP _ _ = _ => e0
    rename Rep _ _ _ => r0
    rename ∀ p : Addr × Obj, p ∈ _ → p.2.cls = _ => xt
    rename Fr h₀ L _ m => kF
    rename News h₀ L _ _ => kN
    exact hret _ _ _ _ ⟨_, _, e0, r0, rfl, xt⟩ kF kN
theorem ask_load3 {w : World} {mean : ExcName → Option Value} {mg mb : Str → Option Value} {base : Heap} {news : List (Addr × Obj)} {f c' cH cL : Addr} {oc oH oL : Obj} {vs : Array Value} {t : Tok} {qual : Str} {pm ctv : Value}
    {hp kd hx : Addr} {g : Int} {kvs : List (Ky × Value)} {Fp : List Addr} {Xs : Ky → Addr} {S : Ky → Option KObj} {key : Ky} {path : List Int} {v : Value} (W : Wd w hp kd hx g kvs Fp Xs S news) (hl : LocRep news v key path)
    (hf : (f, kla_obj (Str.ofString "<lambda>") qual { posonlyargs := [], args := [], vararg := none, kwonlyargs := [], kw_defaults := [], kwarg := none, defaults := [] }
      (.Call (.Attribute (.Name (Str.ofString "heap") { line := 253, col := 8, endLine := 253, endCol := 12 }) (Str.ofString "load") { line := 253, col := 8, endLine := 253, endCol := 17 }) [(.Name (Str.ofString "location") { line := 253, col := 18, endLine := 253, endCol := 26 })] [] { line := 253, col := 8, endLine := 253, endCol := 27 })
      { kind := .function, names := [(Str.ofString "heap", .free), (Str.ofString "location", .free)], isGenerator := false, isCoroutine := false } [(Str.ofString "location", cL), (Str.ofString "heap", cH)] pm c' ctv) ∈ news)
    (hc : (c', oc) ∈ news) (hd1 : oc.data = .fields vs) (hd2 : vs[1]? = some (Value.str qual t)) (hH : (cH, oH) ∈ news) (dH : oH.data = .cell (some (.ref hp))) (hL : (cL, oL) ∈ news) (dL : oL.data = .cell (some v)) :
    AskSpec w mean mg mb base f news (fun u news' => ∃ q ex, peekP (S key) path = .ok q ∧ Rep news' q u ∧ news' = ex ++ news ∧ ∀ p ∈ ex, p.2.cls = .type "tuple") (fun k => peekP (S key) path = .error k) := by
  intro dp un gd cn cs a ccd cl outer A₀ h₀ L m s Q E B F X N T hk hdp hun hret hE
  have hfill : (hd.heap_39 = hd.heap_39 ∧ PySem.Challenge.rw_pf0075_01 = PySem.Challenge.rw_pf0075_01) → True := by
    k_fill
    intro _; trivial
  clear hfill
  refine hide fun GG9 hG9 => ?_
  obtain ⟨_, _, _, _, _, _, _, _, _, _, _, _, _, _, w1, w2, _, _⟩ := W.heap
  refine hG9 ?_
  clear hG9 GG9
  refine wpAny_call ?_
  k_dflt (refine' kla_code ?k1 ?k2 ?k3 ?k4 ?k5 ?kA ?kF ?kK ?k6 ?k7 ?k8 ?k9 ?kB ?_ ?c2 ?c3 ?c4 ?c5)
  case kA => exact rfl
  case kF => exact rfl
  case kK => assumption
  case k1 => k_asm
  case k2 => k_asm
  case k3 => k_asm
  case k4 => k_asm
  case k5 => k_asm
  case k6 => exact hf
  case k7 => exact codeRec_news N hc hd1 hd2
  case k8 => ktr_room
  case k9 => exact rfl
  case c5 => decide
  case kB => exact locs rfl
  case c2 => exact rfl
  case c3 => exact rfl
  case c4 => exact rfl
  k_whole
  intro g' L' h' FG' F' N' B' X' T'
  try dsimp only
  try k_fold
  k_steps
  · rename peekP _ _ = _ => e0
    rename RaisedD _ _ _ _ _ _ _ _ => R
    rename getL _ _ = _ => q1
    exact hE _ e0 _ _ _ _ _ _ _ _ FG' R q1
  · rename peekP _ _ = _ => e0
    rename Rep _ _ _ => r0
    rename ∀ p : Addr × Obj, p ∈ _ → p.2.cls = _ => xt
    rename Fr h₀ L _ m => kF
    rename News h₀ L _ _ => kN
    exact hret _ _ _ _ ⟨_, _, e0, r0, rfl, xt⟩ kF kN
end
theorem kw_M21 : True := by
  k_with "mine store_any" => (k_here; k_dflt (refine store_any (by k_asm) (by k_asm) (by k_asm) (by k_asm) (by k_asm) (by rfl) (by ktr_room) (by ktr_units) (by assumption) (by assumption) (by first | assumption | exact Rep.int) ?_ ?_; intros; (try dsimp only); rotate_left 1; (intro k0; walk_at "mine fail")))
  k_with "call ref" => walk_at "mine store_any"
  trivial
section
theorem ask_store1 {cF : Addr} {oF : Obj} {fv : Value} {fr : PV} {w : World} {mean : ExcName → Option Value} {mg mb : Str → Option Value} {base : Heap} {news : List (Addr × Obj)} {f c' cH cL : Addr} {oc oH oL : Obj} {vs : Array Value} {t : Tok} {qual : Str} {pm ctv : Value}
    {hp kd hx : Addr} {g : Int} {kvs : List (Ky × Value)} {Fp : List Addr} {Xs : Ky → Addr} {S : Ky → Option KObj} {key : Ky} {path : List Int} {v : Value} (W : Wd w hp kd hx g kvs Fp Xs S news) (hl : LocRep news v key path)
    (hf : (f, kla_obj (Str.ofString "<lambda>") qual { posonlyargs := [], args := [], vararg := none, kwonlyargs := [], kw_defaults := [], kwarg := none, defaults := [] }
      (.Call (.Attribute (.Name (Str.ofString "heap") { line := 218, col := 8, endLine := 218, endCol := 12 }) (Str.ofString "store") { line := 218, col := 8, endLine := 218, endCol := 18 }) [(.Name (Str.ofString "location") { line := 218, col := 19, endLine := 218, endCol := 27 }), (.Name (Str.ofString "fresh") { line := 218, col := 29, endLine := 218, endCol := 34 })] [] { line := 218, col := 8, endLine := 218, endCol := 35 })
      { kind := .function, names := [(Str.ofString "fresh", .free), (Str.ofString "heap", .free), (Str.ofString "location", .free)], isGenerator := false, isCoroutine := false } [(Str.ofString "location", cL), (Str.ofString "heap", cH), (Str.ofString "fresh", cF)] pm c' ctv) ∈ news)
    (hc : (c', oc) ∈ news) (hd1 : oc.data = .fields vs) (hd2 : vs[1]? = some (Value.str qual t)) (hH : (cH, oH) ∈ news) (dH : oH.data = .cell (some (.ref hp))) (hL : (cL, oL) ∈ news) (dL : oL.data = .cell (some v)) (hF : (cF, oF) ∈ news) (dF : oF.data = .cell (some fv)) (hfr : Rep news fr fv) :
    AskSpec w mean mg mb base f news (fun u news' => ∃ o old, S key = some o ∧ peekP (some o) path = .ok old ∧ u = .none ∧ Wd w hp kd hx g kvs Fp Xs (putS S key (storeO o path fr)) news' ∧ Keeps Fp news news') (fun k => peekP (S key) path = .error k) := by
  intro dp un gd cn cs a ccd cl outer A₀ h₀ L m s Q E B F X N T hk hdp hun hret hE
  have hfill : (hd.heap_39 = hd.heap_39 ∧ PySem.Challenge.rw_pf0075_01 = PySem.Challenge.rw_pf0075_01) → True := by
    k_fill
    intro _; trivial
  clear hfill
  refine hide fun GG9 hG9 => ?_
  obtain ⟨_, _, _, _, _, _, _, _, _, _, _, _, _, _, w1, w2, _, _⟩ := W.heap
  refine hG9 ?_
  clear hG9 GG9
  refine wpAny_call ?_
  k_dflt (refine' kla_code ?k1 ?k2 ?k3 ?k4 ?k5 ?kA ?kF ?kK ?k6 ?k7 ?k8 ?k9 ?kB ?_ ?c2 ?c3 ?c4 ?c5)
  case kA => exact rfl
  case kF => exact rfl
  case kK => assumption
  case k1 => k_asm
  case k2 => k_asm
  case k3 => k_asm
  case k4 => k_asm
  case k5 => k_asm
  case k6 => exact hf
  case k7 => exact codeRec_news N hc hd1 hd2
  case k8 => ktr_room
  case k9 => exact rfl
  case c5 => decide
  case kB => exact locs rfl
  case c2 => exact rfl
  case c3 => exact rfl
  case c4 => exact rfl
  k_whole
  intro g' L' h' FG' F' N' B' X' T'
  try dsimp only
  try k_fold
  k_steps
  · rename peekP _ _ = _ => e0
    rename RaisedD _ _ _ _ _ _ _ _ => R
    rename getL _ _ = _ => q1
    exact hE _ e0 _ _ _ _ _ _ _ _ FG' R q1
  · rename S key = some _ => e0
    rename peekP (some _) _ = _ => e1
    rename Wd _ _ _ _ _ _ _ _ (putS _ _ _) _ => W'
    rename Keeps _ _ _ => K'
    rename Fr h₀ L _ m => kF
    rename News h₀ L _ _ => kN
    exact hret _ _ _ _ ⟨_, _, e0, e1, rfl, W', K'⟩ kF kN
theorem ask_store2 {cF : Addr} {oF : Obj} {fv : Value} {fr : PV} {w : World} {mean : ExcName → Option Value} {mg mb : Str → Option Value} {base : Heap} {news : List (Addr × Obj)} {f c' cH cL : Addr} {oc oH oL : Obj} {vs : Array Value} {t : Tok} {qual : Str} {pm ctv : Value}
    {hp kd hx : Addr} {g : Int} {kvs : List (Ky × Value)} {Fp : List Addr} {Xs : Ky → Addr} {S : Ky → Option KObj} {key : Ky} {path : List Int} {v : Value} (W : Wd w hp kd hx g kvs Fp Xs S news) (hl : LocRep news v key path)
    (hf : (f, kla_obj (Str.ofString "<lambda>") qual { posonlyargs := [], args := [], vararg := none, kwonlyargs := [], kw_defaults := [], kwarg := none, defaults := [] }
      (.Call (.Attribute (.Name (Str.ofString "heap") { line := 221, col := 8, endLine := 221, endCol := 12 }) (Str.ofString "store") { line := 221, col := 8, endLine := 221, endCol := 18 }) [(.Name (Str.ofString "location") { line := 221, col := 19, endLine := 221, endCol := 27 }), (.Name (Str.ofString "fresh") { line := 221, col := 29, endLine := 221, endCol := 34 })] [] { line := 221, col := 8, endLine := 221, endCol := 35 })
      { kind := .function, names := [(Str.ofString "fresh", .free), (Str.ofString "heap", .free), (Str.ofString "location", .free)], isGenerator := false, isCoroutine := false } [(Str.ofString "location", cL), (Str.ofString "heap", cH), (Str.ofString "fresh", cF)] pm c' ctv) ∈ news)
    (hc : (c', oc) ∈ news) (hd1 : oc.data = .fields vs) (hd2 : vs[1]? = some (Value.str qual t)) (hH : (cH, oH) ∈ news) (dH : oH.data = .cell (some (.ref hp))) (hL : (cL, oL) ∈ news) (dL : oL.data = .cell (some v)) (hF : (cF, oF) ∈ news) (dF : oF.data = .cell (some fv)) (hfr : Rep news fr fv) :
    AskSpec w mean mg mb base f news (fun u news' => ∃ o old, S key = some o ∧ peekP (some o) path = .ok old ∧ u = .none ∧ Wd w hp kd hx g kvs Fp Xs (putS S key (storeO o path fr)) news' ∧ Keeps Fp news news') (fun k => peekP (S key) path = .error k) := by
  intro dp un gd cn cs a ccd cl outer A₀ h₀ L m s Q E B F X N T hk hdp hun hret hE
  have hfill : (hd.heap_39 = hd.heap_39 ∧ PySem.Challenge.rw_pf0075_01 = PySem.Challenge.rw_pf0075_01) → True := by
    k_fill
    intro _; trivial
  clear hfill
  refine hide fun GG9 hG9 => ?_
  obtain ⟨_, _, _, _, _, _, _, _, _, _, _, _, _, _, w1, w2, _, _⟩ := W.heap
  refine hG9 ?_
  clear hG9 GG9
  refine wpAny_call ?_
  k_dflt (refine' kla_code ?k1 ?k2 ?k3 ?k4 ?k5 ?kA ?kF ?kK ?k6 ?k7 ?k8 ?k9 ?kB ?_ ?c2 ?c3 ?c4 ?c5)
  case kA => exact rfl
  case kF => exact rfl
  case kK => assumption
  case k1 => k_asm
  case k2 => k_asm
  case k3 => k_asm
  case k4 => k_asm
  case k5 => k_asm
  case k6 => exact hf
  case k7 => exact codeRec_news N hc hd1 hd2
  case k8 => ktr_room
  case k9 => exact rfl
  case c5 => decide
  case kB => exact locs rfl
  case c2 => exact rfl
  case c3 => exact rfl
  case c4 => exact rfl
  k_whole
  intro g' L' h' FG' F' N' B' X' T'
  try dsimp only
  try k_fold
  k_steps
  · rename peekP _ _ = _ => e0
    rename RaisedD _ _ _ _ _ _ _ _ => R
    rename getL _ _ = _ => q1
    exact hE _ e0 _ _ _ _ _ _ _ _ FG' R q1
  · rename S key = some _ => e0
    rename peekP (some _) _ = _ => e1
    rename Wd _ _ _ _ _ _ _ _ (putS _ _ _) _ => W'
    rename Keeps _ _ _ => K'
    rename Fr h₀ L _ m => kF
    rename News h₀ L _ _ => kN
    exact hret _ _ _ _ ⟨_, _, e0, e1, rfl, W', K'⟩ kF kN
theorem ask_store3 {w : World} {mean : ExcName → Option Value} {mg mb : Str → Option Value} {base : Heap} {news : List (Addr × Obj)} {f c' cH cL : Addr} {oc oH oL : Obj} {vs : Array Value} {t : Tok} {qual : Str} {pm ctv : Value}
    {hp kd hx : Addr} {g : Int} {kvs : List (Ky × Value)} {Fp : List Addr} {Xs : Ky → Addr} {S : Ky → Option KObj} {key : Ky} {path : List Int} {v : Value} (W : Wd w hp kd hx g kvs Fp Xs S news) (hl : LocRep news v key path)
    (hf : (f, kla_obj (Str.ofString "<lambda>") qual { posonlyargs := [], args := [], vararg := none, kwonlyargs := [], kw_defaults := [], kwarg := none, defaults := [] }
      (.Call (.Attribute (.Name (Str.ofString "heap") { line := 254, col := 8, endLine := 254, endCol := 12 }) (Str.ofString "store") { line := 254, col := 8, endLine := 254, endCol := 18 }) [(.Name (Str.ofString "location") { line := 254, col := 19, endLine := 254, endCol := 27 }), (.Constant (.int 3) 0 { line := 254, col := 29, endLine := 254, endCol := 30 })] [] { line := 254, col := 8, endLine := 254, endCol := 31 })
      { kind := .function, names := [(Str.ofString "heap", .free), (Str.ofString "location", .free)], isGenerator := false, isCoroutine := false } [(Str.ofString "location", cL), (Str.ofString "heap", cH)] pm c' ctv) ∈ news)
    (hc : (c', oc) ∈ news) (hd1 : oc.data = .fields vs) (hd2 : vs[1]? = some (Value.str qual t)) (hH : (cH, oH) ∈ news) (dH : oH.data = .cell (some (.ref hp))) (hL : (cL, oL) ∈ news) (dL : oL.data = .cell (some v)) :
    AskSpec w mean mg mb base f news (fun u news' => ∃ o old, S key = some o ∧ peekP (some o) path = .ok old ∧ u = .none ∧ Wd w hp kd hx g kvs Fp Xs (putS S key (storeO o path (.int 3))) news' ∧ Keeps Fp news news') (fun k => peekP (S key) path = .error k) := by
  intro dp un gd cn cs a ccd cl outer A₀ h₀ L m s Q E B F X N T hk hdp hun hret hE
  have hfill : (hd.heap_39 = hd.heap_39 ∧ PySem.Challenge.rw_pf0075_01 = PySem.Challenge.rw_pf0075_01) → True := by
    k_fill
    intro _; trivial
  clear hfill
  refine hide fun GG9 hG9 => ?_
  obtain ⟨_, _, _, _, _, _, _, _, _, _, _, _, _, _, w1, w2, _, _⟩ := W.heap
  refine hG9 ?_
  clear hG9 GG9
  refine wpAny_call ?_
  k_dflt (refine' kla_code ?k1 ?k2 ?k3 ?k4 ?k5 ?kA ?kF ?kK ?k6 ?k7 ?k8 ?k9 ?kB ?_ ?c2 ?c3 ?c4 ?c5)
  case kA => exact rfl
  case kF => exact rfl
  case kK => assumption
  case k1 => k_asm
  case k2 => k_asm
  case k3 => k_asm
  case k4 => k_asm
  case k5 => k_asm
  case k6 => exact hf
  case k7 => exact codeRec_news N hc hd1 hd2
  case k8 => ktr_room
  case k9 => exact rfl
  case c5 => decide
  case kB => exact locs rfl
  case c2 => exact rfl
  case c3 => exact rfl
  case c4 => exact rfl
  k_whole
  intro g' L' h' FG' F' N' B' X' T'
  try dsimp only
  try k_fold
  k_steps
  · rename peekP _ _ = _ => e0
    rename RaisedD _ _ _ _ _ _ _ _ => R
    rename getL _ _ = _ => q1
    exact hE _ e0 _ _ _ _ _ _ _ _ FG' R q1
  · rename S key = some _ => e0
    rename peekP (some _) _ = _ => e1
    rename Wd _ _ _ _ _ _ _ _ (putS _ _ _) _ => W'
    rename Keeps _ _ _ => K'
    rename Fr h₀ L _ m => kF
    rename News h₀ L _ _ => kN
    exact hret _ _ _ _ ⟨_, _, e0, e1, rfl, W', K'⟩ kF kN
end
theorem kw_M23 : True := by
  k_with "mine told_no" => (k_here; k_dflt (refine told_no (by assumption) (by assumption) (by assumption) (by assumption) (by assumption) (by rfl) (by ktr_room) (by ktr_units) (by assumption) (by assumption) (by assumption) (by assumption) (by assumption) ?_; k_whole; intros; (try dsimp only)))
  k_with "mine told_rep" => (k_here; k_dflt (refine told_rep (by assumption) (by assumption) (by assumption) (by assumption) (by assumption) (by rfl) (by ktr_room) (by ktr_units) (by assumption) (by assumption) (by assumption) (by assumption) (by assumption) ?_; k_whole; intros; (try dsimp only)))
  k_with "mine told_put" => (k_here; k_dflt (refine told_put (by assumption) (by assumption) (by assumption) (by assumption) (by assumption) (by rfl) (by ktr_room) (by ktr_units) (by assumption) (by assumption) (by assumption) (by assumption) (by assumption) ?_; k_whole; intros; (try dsimp only)))
  k_with "call ref" => walk_at "mine told_no"
  k_with "call ref" => walk_at "mine told_rep"
  k_with "call ref" => walk_at "mine told_put"
  trivial
section
theorem load_int {w : World} {mean : ExcName → Option Value} {mg mb : Str → Option Value} {dp un : Nat} {gd : Option (List Code)} {cn : Str} {cs : Scope} {a : Addr} {ccd : Value} {cl : List (Str × Addr)} {outer : List Env} {A₀ : Around} {base h₀ : Heap} {L : Addr} {m : Str → Option Value} {news : List (Addr × Obj)} {s : Shared} {Q E : Value → Shared → Prop}
    (B : Below A₀ base outer h₀) (F : Fr h₀ L s.heap m) (X : (hd.heap_39 w.params).In h₀) (N : News h₀ L s.heap news) (T : Top PP LL mean mg mb h₀) (hk : cs.kind = .function) (hdp : dp + 200 < recursionLimit) (hun : un + 2400 < cLine)
    {hp kd hx : Addr} {g : Int} {kvs : List (Ky × Value)} {Fp : List Addr} {Xs : Ky → Addr} {S : Ky → Option KObj} {key : Ky} {path : List Int} {v : Value} {i : Int} (W : Wd w hp kd hx g kvs Fp Xs S news) (hl : LocRep news v key path) (he : peekP (S key) path = .ok (.int i))
    (hret : ∀ t h' tk' ex, (∀ p ∈ ex, p.2.cls = .type "tuple") → Fr h₀ L h' m → News h₀ L h' (ex ++ news) → Q (.int i t) { s with heap := h', toks := tk' }) :
    wpAny (model Prg w) (ktrTop dp un gd cn cs L a ccd cl outer) (call (.ref 234) [.ref hp, v]) Q E s :=
  load_W B F X N T hk hdp hun W hl (fun q v' h' tk' ex e0 r0 xt F' N' => by
    rw [he] at e0
    cases e0
    cases r0
    exact hret _ h' tk' ex xt F' N') (fun k e0 => by rw [he] at e0; cases e0)
end
section
theorem place_none {w : World} {mean : ExcName → Option Value} {mg mb : Str → Option Value} {dp un : Nat} {gd : Option (List Code)} {cn : Str} {cs : Scope} {a : Addr} {ccd : Value} {cl : List (Str × Addr)} {outer : List Env} {A₀ : Around} {base h₀ : Heap} {L : Addr} {m : Str → Option Value} {news : List (Addr × Obj)} {s : Shared} {Q E : Value → Shared → Prop}
    (B : Below A₀ base outer h₀) (F : Fr h₀ L s.heap m) (X : (hd.heap_39 w.params).In h₀) (N : News h₀ L s.heap news) (T : Top PP LL mean mg mb h₀) (hk : cs.kind = .function) (hdp : dp + 500 < recursionLimit) (hun : un + 6000 < cLine) (XB : (hd.heap_39 w.params).In base) (TB : Top PP LL mean mg mb base) (D : KtsDicts (outer.filterMap (·.frame)) h₀)
    {hp kd hx : Addr} {g : Int} {kvs : List (Ky × Value)} {Fp : List Addr} {Xs : Ky → Addr} {S : Ky → Option KObj} {key : Ky} {path : List Int} {v : Value} {fr : Int} {tf : Tok} (H : WT w hp kd hx g kvs Fp Xs S news) (hl : LocRep news v key path)
    (he : peekP (S key) path = .error (Str.ofString "place"))
    (hret : ∀ h' tk' h₀' news', KtsTurn (outer.filterMap (·.frame)) h₀ h₀' → Below A₀ base outer h₀' → KtsDicts (outer.filterMap (·.frame)) h₀' → Fr h₀' L h' m → News h₀' L h' news' → WT w hp kd hx g kvs Fp Xs S news' → KO Fp news news' → Q (.bool true) { s with heap := h', toks := tk' }) :
    wpAny (model Prg w) (ktrTop dp un gd cn cs L a ccd cl outer) (call (.ref 379) [.ref hp, v, .none, .int fr tf]) Q E s := by
  have hfill : (hd.heap_39 = hd.heap_39 ∧ PySem.Challenge.rw_pf0075_01 = PySem.Challenge.rw_pf0075_01) → True := by
    k_fill
    intro _; trivial
  clear hfill
  refine wpAny_call ?_
  k_dflt (refine' code_TC ?k1 ?k2 ?k3 ?k4 ?k5 ?kD ?kA ?kF ?kK ?k6 ?k7 ?k8 ?k9 ?kB ?kN ?_ ?c2 ?c3 ?c4; (case kA => exact rfl); (case kF => exact rfl); (case kK => first | exact rfl | assumption); (case k1 => k_asm); (case k2 => k_asm); (case k3 => k_asm); (case k4 => k_asm); (case k5 => k_asm); (case kD => assumption); (case k6 => k_is); (case k7 => k_is); (case k8 => ktr_room); (case k9 => first | exact BindsTo.of_eq rfl | exact binds_K (by k_in) rfl (by k_is) rfl rfl rfl); (case kB => exact rfl); (case kN => decide +kernel); (case c2 => exact rfl); (case c3 => exact rfl); (case c4 => exact rfl); k_whole; intro zg' zL' zh' ztk' zcells' zFG' zF' zN' zY' zB' zX' zT' zl1 zD'; (try k_lt zl1); k_cells zY'; (try simp only [List.cons_append, List.nil_append] at zN'); (try dsimp only); (try k_fold))
  k_steps
  rename Below _ _ _ _ => B1
  rename Frag.In _ _ => X1
  rename Fr _ _ _ (bindL _ _ _) => F1
  rename News _ _ _ _ => N1
  rename KtsDicts _ _ => D1
  rename Top _ _ _ _ _ _ => T1
  rename ∀ p : Addr × Obj, p ∈ news → p.fst < _ => l1
  rename _ = Data.cell (bindC _ _ _ (Str.ofString "heap")) => d3
  rename _ = Data.cell (bindC _ _ _ (Str.ofString "location")) => d2
  rename _ = Data.cell (bindC _ _ _ (Str.ofString "fresh")) => d1
  have C := codeHd_of_K (c := 378) (P := 374) X1 (by kernel_rfl)
  replace d1 : Obj.data _ = .cell (some (.int fr tf)) := d1
  replace d2 : Obj.data _ = .cell (some v) := d2
  replace d3 : Obj.data _ = .cell (some (.ref hp)) := d3
  replace F1 : Fr _ _ _ (fun y => if y = Str.ofString "due" then some Value.none else none) := F1
  refine hide fun GG9 hG9 => ?_
  obtain ⟨all, N2, mF, mL, mH, sub⟩ := cells3 N1
  refine hG9 ?_
  clear hG9 GG9
  have H1 := H.up sub
  have hl1 := hl.up sub
  have o1 := H.lt l1 (Nat.le_trans (Nat.le_succ _) (Nat.le_trans (Nat.le_succ _) (Nat.le_succ _)))
  have o2 := H.lt l1 (Nat.le_trans (Nat.le_succ _) (Nat.le_succ _))
  have o3 := H.lt l1 (Nat.le_succ _)
  clear N1 l1
  refine kla_eval rfl ?_
  refine lam374 F1 N2 T1 C rfl H1 rfl ?_
  intro f1 c1 ctv1 oc1 vs1 t1 h1 tk1 all1 F2 N3 H2 K1 mf mc e1 e2 l2
  have S1 : AskSpec w mean mg mb base f1 all1 (fun _ _ => False) (fun k => k = Str.ofString "place") := AskSpec.load_no (ask_load1 H2.W (hl1.ko H1 N2 K1) mf mc e1 e2 (K1 _ _ mH o3) d3 (K1 _ _ mL o2) d2) he
  have hl2 := hl1.ko H1 N2 K1
  have mF2 := K1 _ _ mF o1
  have mL2 := K1 _ _ mL o2
  have mH2 := K1 _ _ mH o3
  have K01 : KO Fp news all1 := (KO.of_sub sub).trans K1
  clear N2 C H1 hl1 mF mL mH K1 mc e1 e2 sub
  k_steps
  rename Below _ _ _ _ => B2
  rename Frag.In _ _ => X2
  rename Fr _ _ _ (fun y => _) => F3
  rename News _ _ _ all1 => N4
  rename KtsTurn _ _ _ => t2
  rename KtsDicts _ _ => D2
  rename Top _ _ _ _ _ _ => T2
  clear S1 mf
  have C := codeHd_of_K (c := 378) (P := 374) X2 (by kernel_rfl)
  refine kla_eval rfl ?_
  refine lam374 F3 N4 T2 C rfl H2 rfl ?_
  intro f2 c2 ctv2 oc2 vs2 tk2 h2 tk3 all2 F4 N5 H3 K2 mf mc e1 e2 l3
  have S2 : AskSpec w mean mg mb base f2 all2 (fun _ _ => False) (fun k => k = Str.ofString "place") := AskSpec.store_no (ask_store1 (fr := .int fr) H3.W (hl2.ko H2 N4 K2) mf mc e1 e2 (K2 _ _ mH2 o3) d3 (K2 _ _ mL2 o2) d2 (K2 _ _ mF2 o1) d1 .int) he
  have K02 := K01.trans K2
  clear C N4 H2 hl2 mF2 mL2 mH2 K01 K2 mc e1 e2 d1 d2 d3 o1 o2 o3
  k_steps
  rename Fr _ _ _ (fun y => _) => F3
  rename News _ _ _ _ => N4
  rename KtsTurn _ _ _ => t3
  exact LeaveT.intro (t2.trans t3) F3 N4 fun h₀' t f n b d => hret _ _ _ _ t b d f n H3 K02
end
theorem kw_M18 : True := by
  k_with "mine load_int" => (k_here; k_dflt (refine load_int (by k_asm) (by k_asm) (by k_asm) (by k_asm) (by k_asm) (by rfl) (by ktr_room) (by ktr_units) (by assumption) (by assumption) (by assumption) ?_; intros; (try dsimp only)))
  k_with "call ref" => walk_at "mine load_int"
  k_with "mine store_yes" => (k_here; k_dflt (refine store_W (by k_asm) (by k_asm) (by k_asm) (by k_asm) (by k_asm) (by rfl) (by ktr_room) (by ktr_units) (by walk_at "mine W") (by walk_at "mine loc") (by walk_at "mine rep") (by assumption) (by assumption) ?_; intros; (try dsimp only)))
  k_with "call ref" => walk_at "mine store_yes"
  k_with "mine W" => first | assumption | exact Wd.up (by assumption) (fun _ hq => by k_mem)
  k_with "mine loc" => first | assumption | exact LocRep.up (by assumption) (fun _ hq => by k_mem)
  trivial
section
theorem Wd.up {w : World} {hp kd hx : Addr} {g : Int} {kvs : List (Ky × Value)} {Fp : List Addr} {Xs : Ky → Addr} {S : Ky → Option KObj} {news news' : List (Addr × Obj)} (W : Wd w hp kd hx g kvs Fp Xs S news) (hs : ∀ p ∈ news, p ∈ news') : Wd w hp kd hx g kvs Fp Xs S news' := W.off fun _ _ h _ => hs _ h
theorem ne_nones {prog : Program} {w : World} {A : Around} {E : Value → Shared → Prop} {s : Shared} {h₀ : Heap} {L : Addr} {news : List (Addr × Obj)} {Q : Value → Shared → Prop} {a b : Addr} {n n' : Nat} (N : News h₀ L s.heap news) (ha : (a, listOf #[.none] n) ∈ news) (hb : (b, listOf #[.none] n') ∈ news) (hu : A.units + 64 < cLine) (h : Q (.bool false) s) :
    wpAny (model prog w) A (compareOp .NotEq (.ref a) (.ref b)) Q E s :=
  ne_dataH (Reads.list (xs := [.none]) (N _ ha).1 rfl rfl (.cons .none .nil)) (Reads.list (xs := [.none]) (N _ hb).1 rfl rfl (.cons .none .nil)) (by decide) (by decide) hu (by simpa [PyData.eqv, PyData.eqvAll] using h)
theorem place_due {w : World} {mean : ExcName → Option Value} {mg mb : Str → Option Value} {dp un : Nat} {gd : Option (List Code)} {cn : Str} {cs : Scope} {a : Addr} {ccd : Value} {cl : List (Str × Addr)} {outer : List Env} {A₀ : Around} {base h₀ : Heap} {L : Addr} {m : Str → Option Value} {news : List (Addr × Obj)} {s : Shared} {Q E : Value → Shared → Prop}
    (B : Below A₀ base outer h₀) (F : Fr h₀ L s.heap m) (X : (hd.heap_39 w.params).In h₀) (N : News h₀ L s.heap news) (T : Top PP LL mean mg mb h₀) (hk : cs.kind = .function) (hdp : dp + 500 < recursionLimit) (hun : un + 6000 < cLine) (XB : (hd.heap_39 w.params).In base) (TB : Top PP LL mean mg mb base) (D : KtsDicts (outer.filterMap (·.frame)) h₀)
    {hp kd hx : Addr} {g : Int} {kvs : List (Ky × Value)} {Fp : List Addr} {Xs : Ky → Addr} {S : Ky → Option KObj} {key : Ky} {path : List Int} {v due : Value} {fr : Int} {tf : Tok} {o : KObj} {q : PV} (H : WT w hp kd hx g kvs Fp Xs S news) (hl : LocRep news v key path)
    (hS : S key = some o) (he : peekP (some o) path = .ok q) (hq : Rep news q due) (hdep : q.dep ≤ 60) (hdn : due ≠ .none)
    (hret : ∀ h' tk' h₀' news', KtsTurn (outer.filterMap (·.frame)) h₀ h₀' → Below A₀ base outer h₀' → KtsDicts (outer.filterMap (·.frame)) h₀' → Fr h₀' L h' m → News h₀' L h' news' → WT w hp kd hx g kvs Fp Xs S news' → KO Fp news news' → Q (.bool true) { s with heap := h', toks := tk' }) :
    wpAny (model Prg w) (ktrTop dp un gd cn cs L a ccd cl outer) (call (.ref 379) [.ref hp, v, due, .int fr tf]) Q E s := by
  have hfill : (hd.heap_39 = hd.heap_39 ∧ PySem.Challenge.rw_pf0075_01 = PySem.Challenge.rw_pf0075_01) → True := by
    k_fill
    intro _; trivial
  clear hfill
  refine wpAny_call ?_
  k_dflt (refine' code_TC ?k1 ?k2 ?k3 ?k4 ?k5 ?kD ?kA ?kF ?kK ?k6 ?k7 ?k8 ?k9 ?kB ?kN ?_ ?c2 ?c3 ?c4; (case kA => exact rfl); (case kF => exact rfl); (case kK => first | exact rfl | assumption); (case k1 => k_asm); (case k2 => k_asm); (case k3 => k_asm); (case k4 => k_asm); (case k5 => k_asm); (case kD => assumption); (case k6 => k_is); (case k7 => k_is); (case k8 => ktr_room); (case k9 => first | exact BindsTo.of_eq rfl | exact binds_K (by k_in) rfl (by k_is) rfl rfl rfl); (case kB => exact rfl); (case kN => decide +kernel); (case c2 => exact rfl); (case c3 => exact rfl); (case c4 => exact rfl); k_whole; intro zg' zL' zh' ztk' zcells' zFG' zF' zN' zY' zB' zX' zT' zl1 zD'; (try k_lt zl1); k_cells zY'; (try simp only [List.cons_append, List.nil_append] at zN'); (try dsimp only); (try k_fold))
  rename Below _ _ _ _ => B1
  rename Frag.In _ _ => X1
  rename Fr _ _ _ (bindL _ _ _) => F1
  rename News _ _ _ _ => N1
  rename KtsDicts _ _ => D1
  rename Top _ _ _ _ _ _ => T1
  rename ∀ p : Addr × Obj, p ∈ news → p.fst < _ => l1
  rename _ = Data.cell (bindC _ _ _ (Str.ofString "heap")) => d3
  rename _ = Data.cell (bindC _ _ _ (Str.ofString "location")) => d2
  rename _ = Data.cell (bindC _ _ _ (Str.ofString "fresh")) => d1
  replace d1 : Obj.data _ = .cell (some (.int fr tf)) := d1
  replace d2 : Obj.data _ = .cell (some v) := d2
  replace d3 : Obj.data _ = .cell (some (.ref hp)) := d3
  replace F1 : Fr _ _ _ (fun y => if y = Str.ofString "due" then some due else none) := F1
  refine hide fun GG9 hG9 => ?_
  obtain ⟨all, N2, mF, mL, mH, sub⟩ := cells3 N1
  refine hG9 ?_
  clear hG9 GG9
  have H1 := H.up sub
  have hl1 := hl.up sub
  have hq1 := hq.up sub
  have o1 := H.lt l1 (Nat.le_trans (Nat.le_succ _) (Nat.le_trans (Nat.le_succ _) (Nat.le_succ _)))
  have o2 := H.lt l1 (Nat.le_trans (Nat.le_succ _) (Nat.le_succ _))
  have o3 := H.lt l1 (Nat.le_succ _)
  have K00 : KO Fp news all := KO.of_sub sub
  clear N1 l1 sub
  k_steps
  refine is_none_ne hdn ?_
  k_steps
  have C := codeHd_of_K (c := 378) (P := 374) X1 (by kernel_rfl)
  refine kla_eval rfl ?_
  refine lam374 F1 N2 T1 C rfl H1 rfl ?_
  intro f1 c1 ctv1 oc1 vs1 tk1 h1 tk2 all1 F2 N3 H2 K1 mf mc e1 e2 l2
  have he' : peekP (S key) path = .ok q := by rw [hS]; exact he
  have S1 : AskSpec w mean mg mb base f1 all1 (fun u news' => Rep news' q u ∧ ∀ p ∈ all1, p ∈ news') (fun _ => False) := AskSpec.load_yes (ask_load2 H2.W (hl1.ko H1 N2 K1) mf mc e1 e2 (K1 _ _ mH o3) d3 (K1 _ _ mL o2) d2) he'
  have hl2 := hl1.ko H1 N2 K1
  have hq2 := hq1.ko H1 N2 K1
  have mF2 := K1 _ _ mF o1
  have mL2 := K1 _ _ mL o2
  have mH2 := K1 _ _ mH o3
  have K01 := K00.trans K1
  clear N2 C H1 hl1 hq1 mF mL mH K1 mc e1 e2 K00
  iterate 8 (first | (k_unfold; (try dsimp only)) | walk1)
  rename News _ _ _ (_ :: _ :: _) => N4
  rename Below _ _ _ _ => B2
  rename Frag.In _ _ => X2
  rename Fr _ _ _ (fun y => _) => F3
  rename KtsTurn _ _ _ => t2
  rename KtsDicts _ _ => D2
  rename Top _ _ _ _ _ _ => T2
  rename ∀ p : Addr × Obj, p ∈ all1 → p ∈ _ => sub2
  rename Rep _ q _ => r2
  clear S1 mf
  refine ne_one N4 (.tail _ (.head _)) (.head _) (r2.up fun _ h => .tail _ (.tail _ h)) (hq2.up fun _ h => .tail _ (.tail _ (sub2 _ h))) hdep (by ktr_units) ?_
  replace N4 : News _ _ _ _ := News.perm N4 fun p hp => .tail _ (.tail _ hp)
  k_steps
  have H3 := H2.up sub2
  have hl3 := hl2.up sub2
  have hq3 := hq2.up sub2
  have mF3 := sub2 _ mF2
  have mL3 := sub2 _ mL2
  have mH3 := sub2 _ mH2
  have K02 := K01.trans (KO.of_sub sub2)
  clear N3 F2 H2 hl2 hq2 mF2 mL2 mH2 K01 r2 sub2 l2
  have C := codeHd_of_K (c := 378) (P := 374) X2 (by kernel_rfl)
  refine kla_eval rfl ?_
  refine lam374 F3 N4 T2 C rfl H3 rfl ?_
  intro f2 c2 ctv2 oc2 vs2 tk3 h2 tk4 all2 F4 N5 H4 K2 mf mc e1 e2 l3
  have S2 : AskSpec w mean mg mb base f2 all2 (fun u news' => u = .none ∧ Wd w hp kd hx g kvs Fp Xs (putS S key (storeO o path (.int fr))) news' ∧ Keeps Fp all2 news') (fun _ => False) := AskSpec.store_yes (ask_store2 (fr := .int fr) H4.W (hl3.ko H3 N4 K2) mf mc e1 e2 (K2 _ _ mH3 o3) d3 (K2 _ _ mL3 o2) d2 (K2 _ _ mF3 o1) d1 .int) hS he
  have hl4 := hl3.ko H3 N4 K2
  have hq4 := hq3.ko H3 N4 K2
  have mF4 := K2 _ _ mF3 o1
  have mL4 := K2 _ _ mL3 o2
  have mH4 := K2 _ _ mH3 o3
  have K03 := K02.trans K2
  clear C N4 F3 H3 hl3 hq3 mF3 mL3 mH3 K02 K2 mc e1 e2
  iterate 8 (first | (k_unfold; (try dsimp only)) | walk1)
  rename News _ _ _ (_ :: _ :: _) => N6
  rename Below _ _ _ _ => B3
  rename Frag.In _ _ => X3
  rename Fr _ _ _ (fun y => _) => F5
  rename KtsTurn _ _ _ => t3
  rename KtsDicts _ _ => D3
  rename Top _ _ _ _ _ _ => T3
  rename Wd _ _ _ _ _ _ _ _ (putS _ _ _) _ => W3
  rename Keeps _ _ _ => K3
  clear S2 mf
  refine ne_nones N6 (.tail _ (.head _)) (.head _) (by ktr_units) ?_
  replace N6 : News _ _ _ _ := News.perm N6 fun p hp => .tail _ (.tail _ hp)
  have H5 := H4.put W3 K3
  have hl5 := hl4.ko H4 N5 (KO.of_keeps K3)
  have hq5 := hq4.ko H4 N5 (KO.of_keeps K3)
  have mF5 := K3 _ _ mF4 fun z => o1 (.tail _ (.tail _ z))
  have mL5 := K3 _ _ mL4 fun z => o2 (.tail _ (.tail _ z))
  have mH5 := K3 _ _ mH4 fun z => o3 (.tail _ (.tail _ z))
  have K04 := K03.trans (KO.of_keeps K3)
  have e5 : putS S key (storeO o path (.int fr)) key = some (storeO o path (.int fr)) := putS_self
  have e6 : peekP (some (storeO o path (.int fr))) path = .ok (.int fr) := peek_store _ he
  have e7 : peekP (putS S key (storeO o path (.int fr)) key) path = .ok (.int fr) := by rw [e5]; exact e6
  refine hide fun GG9 hG9 => ?_
  obtain ⟨_, _, _, _, _, _, _, _, _, _, _, _, _, _, w1, w2, _, _⟩ := W3.heap
  refine hG9 ?_
  clear hG9 GG9
  clear N5 F4 H4 hl4 hq4 mF4 mL4 mH4 K03 l3 K3
  iterate 20 (first | (k_unfold; (try dsimp only)) | walk1)
  rw [show (fr != fr) = false from bne_self_eq_false fr]
  iterate 15 (first | (k_unfold; (try dsimp only)) | walk1)
  rename News _ _ _ (_ ++ _) => N7
  rename Fr _ _ _ (fun y => _) => F6
  refine store_W B3 F6 X3 N7 T3 rfl ?_ ?_ (W3.up fun _ h => List.mem_append_right _ h) (hl5.up fun _ h => List.mem_append_right _ h) (hq5.up fun _ h => List.mem_append_right _ h) e5 e6 ?_
  · ktr_room
  · ktr_units
  intro h9 tk9 news9 W9 K9 F9 N9
  have H9 := ((H5.up (fun _ h => List.mem_append_right _ h)).put W9 K9).eqS (S' := S) (by rw [store_store _ he]; exact putS_putS hS)
  have K05 := (K04.trans (KO.of_sub (fun _ h => List.mem_append_right _ h))).trans (KO.of_keeps K9)
  clear N7 F6 W9 W3 K9 H5 hl5 hq5 mF5 mL5 mH5 K04 e5 e6 e7 w1 w2 d1 d2 d3 o1 o2 o3
  k_steps
  rename Fr _ _ _ (fun y => _) => F10
  rename News _ _ _ _ => N10
  exact LeaveT.intro (t2.trans t3) F10 N10 fun h₀' t f n b d => hret _ _ _ _ t b d f n H9 K05
end
section
inductive PlaceOk (news : List (Addr × Obj)) (S : Ky → Option KObj) (key : Ky) (path : List Int) : Value → Prop
  | no : peekP (S key) path = .error (Str.ofString "place") → PlaceOk news S key path .none
  | yes {due : Value} {o : KObj} {q : PV} : S key = some o → peekP (some o) path = .ok q → Rep news q due → q.dep ≤ 60 → PlaceOk news S key path due
theorem Rep.ne_none {news : List (Addr × Obj)} {q : PV} {v : Value} (R : Rep news q v) : v ≠ .none := by
  cases R <;> intro h <;> cases h
theorem PlaceOk.up {news news' : List (Addr × Obj)} {S : Ky → Option KObj} {key : Ky} {path : List Int} {due : Value} (H : PlaceOk news S key path due) (hs : ∀ p ∈ news, p ∈ news') : PlaceOk news' S key path due := by
  cases H with
  | no h => exact .no h
  | yes a b c d => exact .yes a b (c.up hs) d
theorem place_any {w : World} {mean : ExcName → Option Value} {mg mb : Str → Option Value} {dp un : Nat} {gd : Option (List Code)} {cn : Str} {cs : Scope} {a : Addr} {ccd : Value} {cl : List (Str × Addr)} {outer : List Env} {A₀ : Around} {base h₀ : Heap} {L : Addr} {m : Str → Option Value} {news : List (Addr × Obj)} {s : Shared} {Q E : Value → Shared → Prop}
    (B : Below A₀ base outer h₀) (F : Fr h₀ L s.heap m) (X : (hd.heap_39 w.params).In h₀) (N : News h₀ L s.heap news) (T : Top PP LL mean mg mb h₀) (hk : cs.kind = .function) (hdp : dp + 500 < recursionLimit) (hun : un + 6000 < cLine) (XB : (hd.heap_39 w.params).In base) (TB : Top PP LL mean mg mb base) (D : KtsDicts (outer.filterMap (·.frame)) h₀)
    {hp kd hx : Addr} {g : Int} {kvs : List (Ky × Value)} {Fp : List Addr} {Xs : Ky → Addr} {S : Ky → Option KObj} {key : Ky} {path : List Int} {v due : Value} {fr : Int} {tf : Tok} (H : WT w hp kd hx g kvs Fp Xs S news) (hl : LocRep news v key path) (hdu : PlaceOk news S key path due)
    (hret : ∀ h' tk' h₀' news', KtsTurn (outer.filterMap (·.frame)) h₀ h₀' → Below A₀ base outer h₀' → (hd.heap_39 w.params).In h₀' → Top PP LL mean mg mb h₀' → KtsDicts (outer.filterMap (·.frame)) h₀' → Fr h₀' L h' m → News h₀' L h' news' → WT w hp kd hx g kvs Fp Xs S news' → KO Fp news news' → Q (.bool true) { s with heap := h', toks := tk' }) :
    wpAny (model Prg w) (ktrTop dp un gd cn cs L a ccd cl outer) (call (.ref 379) [.ref hp, v, due, .int fr tf]) Q E s := by
  have k := fun h' tk' h₀' news' (t : KtsTurn (outer.filterMap (·.frame)) h₀ h₀') (b : Below A₀ base outer h₀') => hret h' tk' h₀' news' t b (XB.keeps b.stays) (TB.keeps b.stays)
  cases hdu with
  | no he => exact place_none B F X N T hk hdp hun XB TB D H hl he k
  | yes a b c d => exact place_due B F X N T hk hdp hun XB TB D H hl a b c d c.ne_none k
/-- what a location's first part says -/
inductive BegRep (news : List (Addr × Obj)) : Value → Ky → List Int → Prop
  | key {v : Value} {key : Ky} : isKy key v = true → BegRep news v key []
  | nest {l : Addr} {key : Ky} {pre : List Int} : FlatLoc news (.ref l) key pre → BegRep news (.ref l) key pre
theorem BegRep.up {news news' : List (Addr × Obj)} {v : Value} {key : Ky} {pre : List Int} (H : BegRep news v key pre) (hs : ∀ p ∈ news, p ∈ news') : BegRep news' v key pre := by
  cases H with
  | key h => exact .key h
  | nest h => exact .nest (h.up hs)
theorem BegRep.mono {news news' : List (Addr × Obj)} {v : Value} {key : Ky} {pre : List Int} (H : BegRep news v key pre) (hs : ∀ a o, (a, o) ∈ news → o.cls = .type "tuple" → (a, o) ∈ news') : BegRep news' v key pre := by
  cases H with
  | key h => exact .key h
  | nest h => exact .nest (h.mono hs)
theorem BegRep.loc {news : List (Addr × Obj)} {bv : Value} {key : Ky} {pre path : List Int} {l p : Addr} {n n' : Nat} {vs : List Value} (H : BegRep news bv key pre) (h1 : (l, tupO [bv, .ref p] n) ∈ news) (h2 : (p, tupO vs n') ∈ news) (hi : Ints vs path) (hz : (pre ++ path).length ≤ 800) : LocRep news (.ref l) key (pre ++ path) := by
  cases H with
  | key h => exact .flat ⟨l, p, n, n', bv, vs, rfl, h1, h, h2, hi, hz⟩
  | nest h => exact .nest h1 h h2 hi hz
theorem ints_one (i : Int) (t : Tok) : Ints [.int i t] [i] := ⟨rfl, fun n j h => by
  cases n with
  | zero => cases h; exact ⟨t, rfl⟩
  | succ n => cases h⟩
theorem ints_two (i j : Int) (t u : Tok) : Ints [.int i t, .int j u] [i, j] := ⟨rfl, fun n k h => by
  rcases n with _ | _ | n
  · cases h; exact ⟨t, rfl⟩
  · cases h; exact ⟨u, rfl⟩
  · cases h⟩
theorem ints_nil : Ints [] [] := ⟨rfl, fun n j h => by cases h⟩
def Cell2 (c : PV) : Prop := (∃ i, c = .int i) ∨ ∃ b i j, c = .agg b [.int i, .int j]
theorem Cell2.dep {c : PV} (h : Cell2 c) : c.dep ≤ 2 := by
  rcases h with ⟨i, rfl⟩ | ⟨b, i, j, rfl⟩ <;> simp [PV.dep, PV.depAll]
end
section
section
variable {w : World} {hp kd hx : Addr} {g : Int} {kvs : List (Ky × Value)} {Fp : List Addr} {Xs : Ky → Addr} {S : Ky → Option KObj} {news news' all : List (Addr × Obj)} {h₀ h : Heap} {L I : Addr} {o : Obj} {C : String}
theorem rest_in {a : Addr} {x : Obj} (h : (a, x) ∈ all) (hn : a ≠ I) : (a, x) ∈ all.filter (fun p => decide (p.1 ≠ I)) := List.mem_filter.mpr ⟨h, by simpa using hn⟩
theorem Wd.rest (W : Wd w hp kd hx g kvs Fp Xs S all) (N : News h₀ L h all) (hI : (I, o) ∈ all) (hc : o.cls = .type C) (hC : C ≠ "tuple" ∧ C ≠ "list" ∧ C ≠ "dict") (hF : I ∉ Fp) : Wd w hp kd hx g kvs Fp Xs S (all.filter (fun p => decide (p.1 ≠ I))) := by
  have hs : ∀ a x, (a, x) ∈ all → x.cls ≠ .type C → (a, x) ∈ all.filter (fun p => decide (p.1 ≠ I)) := fun a x h hn => rest_in h fun e => hn (by subst e; rw [News.obj_eq N h hI]; exact hc)
  have ci : ∀ c d, (instObj c d).cls ≠ Value.type C := fun c d => by simp
  have cd : ∀ es n, (dictOf es n).cls ≠ Value.type C := fun es n e => by have : Value.type "dict" = Value.type C := e; injection this with e; exact hC.2.2 e.symm
  have cl : ∀ vs n, (listOf vs n).cls ≠ Value.type C := fun es n e => by have : Value.type "list" = Value.type C := e; injection this with e; exact hC.2.1 e.symm
  have tm : ∀ a o, (a, o) ∈ all → o.cls = .type "tuple" → (a, o) ∈ all.filter (fun p => decide (p.1 ≠ I)) := fun a o h hc => hs a o h (by rw [hc]; intro e; injection e with e; exact hC.1 e.symm)
  have kk : ∀ {k dk : Addr} {kind : Str} {c : Value}, KeptAt all k dk kind c → KeptAt (all.filter (fun p => decide (p.1 ≠ I))) k dk kind c := fun H => by
    refine hide fun GG9 hG9 => ?_
    obtain ⟨a1, a2, a3, t1, t2, t3, tk, wh, n, m1, m2⟩ := H
    refine hG9 ?_
    clear hG9 GG9
    exact ⟨a1, a2, a3, t1, t2, t3, tk, wh, n, hs _ _ m1 (ci _ _), hs _ _ m2 (cd _ _)⟩
  refine ⟨W.lo, W.len, ?_, W.apart, W.none_, fun k ok e => ?_, W.inj, fun a ha => ?_⟩
  · refine hide fun GG9 hG9 => ?_
    obtain ⟨h1, h2, h3, h4, h5, t1, t2, t3, t4, t5, tg, t0, n, ko, m1, m2, m3, hd⟩ := W.heap
    refine hG9 ?_
    clear hG9 GG9
    refine ⟨h1, h2, h3, h4, h5, t1, t2, t3, t4, t5, tg, t0, n, ko, hs _ _ m1 (ci _ _), hs _ _ m2 (cd _ _), hs _ _ m3 ?_, hd⟩
    obtain ⟨_, _, ex, _⟩ := hd
    rw [ex.1]
    intro e; injection e with e; exact hC.2.2 e.symm
  · obtain ⟨kv, h1, h2⟩ := W.some_ k ok e
    refine ⟨kv, h1, ?_⟩
    cases h2 with
    | row x1 x2 x3 x4 x5 x6 x7 => exact .row (kk x1) x2 x3 x4 (hs _ _ x5 (cl _ _)) (x6.mono tm) x7
    | var x1 x2 x3 x4 x5 => exact .var (hs _ _ x1 (ci _ _)) x2 x3 (hs _ _ x4 (cd _ _)) (x5.mono tm)
    | chan x1 x2 x3 => exact .chan (kk x1) x2 x3
  · obtain ⟨x, h1, h2, h3⟩ := W.fp a ha
    exact ⟨x, rest_in h1 fun e => hF (e ▸ ha), h2, h3⟩
theorem TabInv.rest {qual : Str} {P : Addr} {ps : Array Value} (H : TabInv (tabs Fp) P qual ps all) (N : News h₀ L h all) (hI : (I, o) ∈ all) (ho : IsIt C o) : TabInv (tabs Fp) P qual ps (all.filter (fun p => decide (p.1 ≠ I))) := by
  refine ⟨H.tri, fun pos cv e => ?_⟩
  refine hide fun GG9 hG9 => ?_
  obtain ⟨c', oc, vs, t, h1, h2, h3, h4, h5, h6⟩ := H.at_ pos cv e
  refine hG9 ?_
  clear hG9 GG9
  refine ⟨c', oc, vs, t, h1, rest_in h2 fun q => ?_, h3, h4, h5, h6⟩
  subst q
  refine hide fun GG9 hG9 => ?_
  obtain ⟨_, vs', j, t', a, b⟩ := ho
  refine hG9 ?_
  clear hG9 GG9
  rw [← News.obj_eq N h2 hI, h3] at a
  cases a
  rw [h4] at b
  cases b
theorem WT.rest (H : WT w hp kd hx g kvs Fp Xs S all) (N : News h₀ L h all) (hI : (I, o) ∈ all) (ho : IsIt C o) (hC : C ≠ "tuple" ∧ C ≠ "list" ∧ C ≠ "dict") (hF : I ∉ tabs Fp) : WT w hp kd hx g kvs Fp Xs S (all.filter (fun p => decide (p.1 ≠ I))) := by
  refine hide fun GG9 hG9 => ?_
  obtain ⟨W, ⟨⟨p1, a1, b1⟩, p2, a2, b2⟩, hoff⟩ := H
  refine hG9 ?_
  clear hG9 GG9
  exact ⟨W.rest N hI ho.1 hC fun q => hF (.tail _ (.tail _ q)), ⟨⟨p1, rest_in a1 fun e => hF (e ▸ .head _), b1.rest N hI ho⟩, p2, rest_in a2 fun e => hF (e ▸ .tail _ (.head _)), b2.rest N hI ho⟩, hoff⟩
theorem WT.notit (H : WT w hp kd hx g kvs Fp Xs S news) (hn : ∀ p ∈ news, p.1 ≠ I) : I ∉ tabs Fp := fun q => by
  obtain ⟨x, hx⟩ := H.mem I q
  exact hn _ hx rfl
/-- the ledger behind a turn, the iterator taken out -/
theorem KO.rest {news₁ : List (Addr × Obj)} (K : KO Fp news news₁) (hn : ∀ p ∈ news₁, p.1 ≠ I) (K' : KO Fp ((I, o) :: news₁) all) : KO Fp news (all.filter (fun p => decide (p.1 ≠ I))) := fun a x h hF =>
  rest_in (K' a x (.tail _ (K a x h hF)) hF) (hn _ (K a x h hF))
end
end
section
/-- what holds behind a statement, sealed -/
def CutP (P : Shared → Prop) (f : Flow) (s' : Shared) : Prop := f = .next ∧ P s'
theorem cut_st {M : Model} {A : Around} {E : Value → Shared → Prop} {s : Shared} {env : Env} {st : Stmt} {rest : List Stmt} {Q : Flow → Shared → Prop} (P : Shared → Prop) (h : wpAny M A (exec st env) (CutP P) E s) (k : ∀ s', P s' → wpAny M A (execs rest env) Q E s') : wpAny M A (execs (st :: rest) env) Q E s :=
  wpAny_execs_cons (wpAny_mono h (fun f s' q => by obtain ⟨e, p⟩ := q; subst e; exact k s' p) fun _ _ x => x)
theorem CutP.intro {P : Shared → Prop} {s' : Shared} (h : P s') : CutP P .next s' := ⟨rfl, h⟩
inductive DueAt (news : List (Addr × Obj)) (cells : List PV) (k : Int) : Value → Prop
  | out : (k < 0 ∨ (cells.length : Int) ≤ k) → DueAt news cells k .none
  | int {n : Int} {t : Tok} : 0 ≤ k → k < cells.length → cells[k.toNat]? = some (.int n) → DueAt news cells k (.int n t)
  | agg {x p : Addr} {tg : Tok} {n n' : Nat} {b : Bool} {i j : Int} {t1 t2 : Tok} : 0 ≤ k → k < cells.length → cells[k.toNat]? = some (.agg b [.int i, .int j]) → (x, tupO [.str (tagOf b) tg, .ref p] n) ∈ news → (p, tupO [.int i t1, .int j t2] n') ∈ news → DueAt news cells k (.ref x)
theorem DueAt.mono {news news' : List (Addr × Obj)} {cells : List PV} {k : Int} {v : Value} (H : DueAt news cells k v) (hs : ∀ a o, (a, o) ∈ news → o.cls = .type "tuple" → (a, o) ∈ news') : DueAt news' cells k v := by
  cases H with
  | out h => exact .out h
  | int a b c => exact .int a b c
  | agg a b c d e => exact .agg a b c (hs _ _ d rfl) (hs _ _ e rfl)
theorem DueAt.of {news : List (Addr × Obj)} {cells : List PV} {vs : List Value} {k : Int} {v : Value} (R : RowRep news vs cells) (h2 : ∀ c ∈ cells, Cell2 c) (h0 : 0 ≤ k) (h1 : k < vs.length) (hv : vs[k.toNat]? = some v) : DueAt news cells k v := by
  have h1' : k < cells.length := by rw [← R.len]; exact h1
  have hlt : k.toNat < cells.length := by omega
  have r := R.item hv
  have e : cells[k.toNat]? = some (cells.getD k.toNat (.int 0)) := by rw [List.getD_eq_getElem?_getD, List.getElem?_eq_getElem hlt]; rfl
  have c2 := h2 _ (List.mem_of_getElem? e)
  generalize cells.getD k.toNat (.int 0) = c at r e c2
  rcases c2 with ⟨i, rfl⟩ | ⟨b, i, j, rfl⟩
  · cases r
    exact .int h0 h1' e
  · cases r with
    | @agg _ _ x p t n n' us m1 m2 m3 m4 m5 =>
      obtain ⟨u1, u2, rfl⟩ : ∃ u1 u2, us = [u1, u2] := by
        rcases us with _ | ⟨u1, _ | ⟨u2, _ | ⟨u3, r⟩⟩⟩
        · cases m3
        · cases m3
        · exact ⟨u1, u2, rfl⟩
        · simp at m3
      have r1 := m5 0 u1 (.int i) rfl rfl
      have r2 := m5 1 u2 (.int j) rfl rfl
      cases r1
      cases r2
      exact .agg h0 h1' e m1 m2
theorem getD_of {cells : List PV} {n : Nat} {c : PV} (h : cells[n]? = some c) : n < cells.length := (List.getElem?_eq_some_iff.mp h).1
theorem row_out {cells : List PV} {k : Int} (r : List Int) (h : k < 0 ∨ (cells.length : Int) ≤ k) : peekP (some (.row cells)) (k :: r) = .error (Str.ofString "place") := by
  show (if 0 ≤ k ∧ k < cells.length then _ else _) = _
  rw [if_neg (by omega)]
theorem row_in {cells : List PV} {k : Int} {c : PV} (r : List Int) (h0 : 0 ≤ k) (h1 : k < cells.length) (e : cells[k.toNat]? = some c) : peekP (some (.row cells)) (k :: r) = (match c.at r with | some q => .ok q | none => .error (Str.ofString "place")) := by
  show (if 0 ≤ k ∧ k < cells.length then (match (cells[k.toNat]?).bind (PV.at · r) with | some q => Except.ok q | none => Except.error (Str.ofString "place")) else _) = _
  rw [if_pos ⟨h0, h1⟩, e]
  rfl
theorem pair_at {b : Bool} {i j : Int} (l : Int) : (PV.agg b [.int i, .int j]).at [l] = if l = 0 then some (.int i) else if l = 1 then some (.int j) else none := by
  show ((if 0 ≤ l then [PV.int i, .int j][l.toNat]? else none).bind (PV.at · [])) = _
  by_cases h0 : l = 0
  · subst h0; rfl
  by_cases h1 : l = 1
  · subst h1; rfl
  rw [if_neg h0, if_neg h1]
  split
  · rw [List.getElem?_eq_none (by simp; omega)]; rfl
  · rfl
section
variable {news : List (Addr × Obj)} {S : Ky → Option KObj} {key : Ky} {o : KObj} {pre pth : List Int} {cells : List PV} {k : Int} {v : Value}
theorem place_no {r : List Int} (hS : S key = some o) (hpk : ∀ r, r ≠ [] → peekP (some o) (pre ++ (pth ++ r)) = peekP (some (.row cells)) r) (hr : r ≠ []) (e : peekP (some (.row cells)) r = .error (Str.ofString "place")) : PlaceOk news S key (pre ++ (pth ++ r)) .none := by
  refine .no ?_
  rw [hS, hpk r hr, e]
theorem DueAt.one (H : DueAt news cells k v) (hS : S key = some o) (hpk : ∀ r, r ≠ [] → peekP (some o) (pre ++ (pth ++ r)) = peekP (some (.row cells)) r) : PlaceOk news S key (pre ++ (pth ++ [k])) v := by
  cases H with
  | out h => exact place_no hS hpk (by simp) (row_out _ h)
  | @int n t a b c =>
    refine .yes hS (q := .int n) ?_ .int (by simp [PV.dep])
    rw [hpk _ (by simp), row_in _ a b c]; rfl
  | @agg x p tg n n' b' i j t1 t2 a b c d e =>
    refine .yes hS (q := .agg b' [.int i, .int j]) ?_ (.agg d e rfl (by simp) ?_) (by simp [PV.dep, PV.depAll])
    · rw [hpk _ (by simp), row_in _ a b c]; rfl
    · intro l u q hu hq
      rcases l with _ | _ | l
      · cases hu; cases hq; exact .int
      · cases hu; cases hq; exact .int
      · cases hu
theorem place_yes {r : List Int} {n : Int} {t : Tok} (hS : S key = some o) (hpk : ∀ r, r ≠ [] → peekP (some o) (pre ++ (pth ++ r)) = peekP (some (.row cells)) r) (hr : r ≠ []) (e : peekP (some (.row cells)) r = .ok (.int n)) : PlaceOk news S key (pre ++ (pth ++ r)) (.int n t) := by
  refine .yes hS (q := .int n) ?_ .int (by simp [PV.dep])
  rw [hpk r hr, e]
end
/-- what `has_part` says of the part asked for -/
inductive HasP (news : List (Addr × Obj)) (S : Ky → Option KObj) (key : Ky) (path : List Int) (l : Int) : Value → Bool → Prop
  | no {dv : Value} : PlaceOk news S key path .none → HasP news S key path l dv false
  | yes0 {x p : Addr} {tg t1 t2 : Tok} {n n' : Nat} {b : Bool} {i j : Int} : (x, tupO [.str (tagOf b) tg, .ref p] n) ∈ news → (p, tupO [.int i t1, .int j t2] n') ∈ news → l = 0 → PlaceOk news S key path (.int i t1) → HasP news S key path l (.ref x) true
  | yes1 {x p : Addr} {tg t1 t2 : Tok} {n n' : Nat} {b : Bool} {i j : Int} : (x, tupO [.str (tagOf b) tg, .ref p] n) ∈ news → (p, tupO [.int i t1, .int j t2] n') ∈ news → l = 1 → PlaceOk news S key path (.int j t2) → HasP news S key path l (.ref x) true
theorem four_ints {vs : List Value} {i : Nat} {v : Value} (hi : Ints vs [-1, 0, 1, 2]) (hv : vs[i]? = some v) : ∃ l t, v = .int l t ∧ (l = -1 ∨ l = 0 ∨ l = 1 ∨ l = 2) := by
  obtain ⟨l, t, h1, h2⟩ := hi.item hv
  refine ⟨l, t, h2, ?_⟩
  rcases i with _ | _ | _ | _ | i
  · cases h1; simp
  · cases h1; simp
  · cases h1; simp
  · cases h1; simp
  · cases h1
theorem ints_four (a b c d : Int) (t u x y : Tok) : Ints [.int a t, .int b u, .int c x, .int d y] [a, b, c, d] := ⟨rfl, fun n k h => by
  rcases n with _ | _ | _ | _ | n
  · cases h; exact ⟨t, rfl⟩
  · cases h; exact ⟨u, rfl⟩
  · cases h; exact ⟨x, rfl⟩
  · cases h; exact ⟨y, rfl⟩
  · cases h⟩
theorem end_turn {w : World} {hp kd hx : Addr} {g : Int} {kvs : List (Ky × Value)} {Fp : List Addr} {Xs : Ky → Addr} {S : Ky → Option KObj} {G : Heap → Prop} {g' : Heap} {L : Addr} {s₁ : Shared} {I : Addr} {o : Obj} {C : String} {J : (Str → Option Value) → List (Addr × Obj) → Prop} {Q : Flow → Shared → Prop} {h' : Heap} {tk : Nat} {m' : Str → Option Value} {base₀ news₁ all news' : List (Addr × Obj)}
    (hG : G g') (F : Fr g' L h' m') (N : News g' L h' news') (K : KO Fp all news') (H5 : WT w hp kd hx g kvs Fp Xs S news') (hall : all = (I, o) :: news₁) (ho : IsIt C o) (hC : C ≠ "tuple" ∧ C ≠ "list" ∧ C ≠ "dict") (nI : I ∉ tabs Fp) (K0 : KO Fp base₀ news₁) (hn : ∀ p ∈ news₁, p.1 ≠ I)
    (hj : WT w hp kd hx g kvs Fp Xs S (news'.filter (fun p => decide (p.1 ≠ I))) → KO Fp base₀ (news'.filter (fun p => decide (p.1 ≠ I))) → J m' (news'.filter (fun p => decide (p.1 ≠ I)))) : EndT G L s₁ I o J Q .next { s₁ with heap := h', toks := tk } := by
  subst hall
  have mI := K _ _ (.head _) nI
  exact EndT.cont hG F N mI (hj (H5.rest N mI ho hC nI) (KO.rest K0 hn K))
theorem m_four' {m m₀ : Str → Option Value} (a b c d : Str) (h : ∀ y, y ≠ a → y ≠ b → y ≠ c → y ≠ d → m y = m₀ y) : m = fun y => if y = a then m a else if y = b then m b else if y = c then m c else if y = d then m d else m₀ y := by
  funext y
  by_cases ha : y = a
  · rw [ha, if_pos rfl]
  · rw [if_neg ha]
    by_cases hb : y = b
    · rw [hb, if_pos rfl]
    · rw [if_neg hb]
      by_cases hc : y = c
      · rw [hc, if_pos rfl]
      · rw [if_neg hc]
        by_cases hd : y = d
        · rw [hd, if_pos rfl]
        · rw [if_neg hd, h y ha hb hc hd]
end
local macro_rules | `(tactic| walk_at "mine place") => `(tactic| (k_here; k_dflt (refine' place_any ?B ?F ?X ?N ?T ?hk ?d1 ?d2 ?XB ?TB ?D ?h ?l ?d ?ok; (case B => assumption); (case F => assumption); (case X => assumption); (case N => assumption); (case T => assumption); (case hk => rfl); (case d1 => ktr_room); (case d2 => ktr_units); (case XB => assumption); (case TB => assumption); (case D => assumption); (case h => walk_at "mine WT"); (case d => walk_at "mine pok"); (case l => walk_at "mine beg"); (case' ok => intro h' tk' h₀' news' T0' B' X' T' D' F' N' H' K'; (try dsimp only)))))
theorem kw_M25 : True := by
  k_with "call ref" => walk_at "mine place"
  k_with "mine WT" => first | assumption | exact WT.up (by assumption) (fun _ hq => by k_mem)
  k_with "mine pok" => first | assumption | exact PlaceOk.up (by assumption) (fun _ hq => by k_mem)
  k_with "mine ints" => first | assumption | exact ints_nil | exact ints_one _ _ | exact ints_two _ _ _ _ | exact Ints.app (by assumption) (ints_one _ _) | exact Ints.app (by assumption) (ints_two _ _ _ _)
  k_with "mine beg" => first | assumption | exact LocRep.up (by assumption) (fun _ hq => by k_mem) | (refine BegRep.loc (BegRep.up (by assumption) (fun _ hq => by k_mem)) (by k_mem) (by k_mem) (by walk_at "mine ints") ?_; (simp only [List.length_append, List.length_cons, List.length_nil]; omega))
  trivial
section
local macro_rules | `(tactic| walk_at "exec For Name Call cons nil") => `(tactic| (k_here; (rename Fr _ _ _ _ => lF'); (with_unfolding_all refine' For_go lF' ?_); k_whole))
local macro_rules | `(tactic| walk_at "exec For Name List cons nil") => `(tactic| (k_here; (rename Fr _ _ _ _ => lF'); (with_unfolding_all refine' For_go lF' ?_); k_whole))
theorem small_up (n : Nat) (h : n ≤ 1000) : Builtin.Range.small (-2) ((n : Int) + 2) 1 = true := by
  have e : Builtin.Range.rangeSize (-2) ((n : Int) + 2) 1 = ((n + 4 : Nat) : Int) := by
    unfold Builtin.Range.rangeSize
    rw [if_pos (by decide)]
    split
    · rw [Int.ediv_one]; omega
    · omega
  unfold Builtin.Range.small
  rw [e]
  simp [Builtin.Range.rangeFitsLong]
  omega
theorem size_up (n : Nat) : Builtin.Range.rangeSize (-2) ((n : Int) + 2) 1 = ((n + 4 : Nat) : Int) := by
    unfold Builtin.Range.rangeSize
    rw [if_pos (by decide)]
    split
    · rw [Int.ediv_one]; omega
    · omega
theorem elements_all {w : World} {mean : ExcName → Option Value} {mg mb : Str → Option Value} {dp un : Nat} {gd : Option (List Code)} {cn : Str} {cs : Scope} {a : Addr} {ccd : Value} {cl : List (Str × Addr)} {outer : List Env} {A₀ : Around} {base h₀ : Heap} {L : Addr} {m : Str → Option Value} {news : List (Addr × Obj)} {s : Shared} {Q E : Value → Shared → Prop}
    (B : Below A₀ base outer h₀) (F : Fr h₀ L s.heap m) (X : (hd.heap_39 w.params).In h₀) (N : News h₀ L s.heap news) (T : Top PP LL mean mg mb h₀) (hk : cs.kind = .function) (hdp : dp + 600 < recursionLimit) (hun : un + 7000 < cLine) (XB : (hd.heap_39 w.params).In base) (TB : Top PP LL mean mg mb base) (D : KtsDicts (outer.filterMap (·.frame)) h₀)
    {hp kd hx : Addr} {g : Int} {kvs : List (Ky × Value)} {Fp : List Addr} {Xs : Ky → Addr} {S : Ky → Option KObj} {key : Ky} {o : KObj} {pre pth : List Int} {bv : Value} {pt lc : Addr} {pvs vs : List Value} {n1 n2 : Nat} {cells : List PV}
    (H : WT w hp kd hx g kvs Fp Xs S news) (hb : BegRep news bv key pre) (hp1 : (pt, tupO pvs n1) ∈ news) (hp2 : Ints pvs pth) (hz : pre.length + pth.length ≤ 700)
    (hc : (lc, listOf vs.toArray n2) ∈ news) (hlc : lc ∉ tabs Fp) (hrow : RowRep news vs cells) (hc2 : ∀ c ∈ cells, Cell2 c) (hcl : cells.length ≤ 700)
    (hS : S key = some o) (hpk : ∀ r, r ≠ [] → peekP (some o) (pre ++ (pth ++ r)) = peekP (some (.row cells)) r)
    (hret : ∀ h' tk' h₀' news', KtsTurn (outer.filterMap (·.frame)) h₀ h₀' → Below A₀ base outer h₀' → (hd.heap_39 w.params).In h₀' → Top PP LL mean mg mb h₀' → KtsDicts (outer.filterMap (·.frame)) h₀' → Fr h₀' L h' m → News h₀' L h' news' → WT w hp kd hx g kvs Fp Xs S news' → KO Fp news news' → Q (.bool true) { s with heap := h', toks := tk' }) :
    wpAny (model Prg w) (ktrTop dp un gd cn cs L a ccd cl outer) (call (.ref 386) [.ref hp, bv, .ref pt, .ref lc]) Q E s := by
  have hfill : (hd.heap_39 = hd.heap_39 ∧ PySem.Challenge.rw_pf0075_01 = PySem.Challenge.rw_pf0075_01) → True := by
    k_fill
    intro _; trivial
  clear hfill
  have hvl : vs.length ≤ 1000 := by rw [hrow.len]; omega
  have hpl : pvs.length ≤ 700 := by rw [hp2.1]; omega
  refine wpAny_call ?_
  k_dflt (refine' code_T ?k1 ?k2 ?k3 ?k4 ?k5 ?kD ?kA ?kF ?kK ?k6 ?k7 ?k8 ?k9 ?kB ?_ ?c2 ?c3 ?c4 ?c5; (case kA => exact rfl); (case kF => exact rfl); (case kK => first | exact rfl | assumption); (case k1 => k_asm); (case k2 => k_asm); (case k3 => k_asm); (case k4 => k_asm); (case k5 => k_asm); (case kD => assumption); (case k6 => k_is); (case k7 => k_is); (case k8 => ktr_room); (case k9 => first | exact BindsTo.of_eq rfl | exact binds_K (by k_in) rfl (by k_is) rfl rfl rfl); (case c5 => decide); (case kB => exact locs rfl); (case c2 => exact rfl); (case c3 => exact rfl); (case c4 => exact rfl); k_whole); intro g1 L1 h1 FG1 F1 N1 B1 X1 T1 D1; (try dsimp only)
  k_fold
  replace F1 : Fr _ _ _ (fun y => List.lookup y [(Str.ofString "cells", Value.ref lc), (Str.ofString "path", Value.ref pt), (Str.ofString "begin", bv), (Str.ofString "heap", Value.ref hp)]) := F1
  k_steps
  rename IsRange _ _ _ _ _ _ _ _ => hr
  rename News _ _ _ news => N2
  rename Fr _ _ _ (fun y => List.lookup _ _) => F2
  refine iter_rangeT (vs.length + 4) hr (small_up _ hvl) (size_up _) F2 N2 (Gd (ktrTop dp un gd cn cs L a ccd cl outer) base (envX cn cs L a ccd cl :: outer) g1) (fun g h b e => h.none_ b e) ⟨KtsTurn.refl, B1, D1⟩
    (fun m₀ i m' news' => (∀ y, y ≠ Str.ofString "at" → y ≠ Str.ofString "due" → y ≠ Str.ofString "inner" → y ≠ Str.ofString "has_part" → m' y = m₀ y) ∧ WT w hp kd hx g kvs Fp Xs S news' ∧ KO Fp news news') ⟨fun _ _ _ _ _ => rfl, H, KO.refl⟩ ?_ ?_ rfl
  · intro I g2 i t m2 news2 h2 tk2 o2 hG hi hJ ho hnI F3 N3
    have hm := hJ.1
    have H2 := hJ.2.1
    have K2 := hJ.2.2
    clear hJ
    have hm' := m_four' _ _ _ _ hm
    generalize m2 (Str.ofString "at") = x1 at hm'
    generalize m2 (Str.ofString "due") = x2 at hm'
    generalize m2 (Str.ofString "inner") = x3 at hm'
    generalize m2 (Str.ofString "has_part") = x4 at hm'
    rw [hm'] at F3
    clear hm hm' F2 N2 hr
    have t2 := hG.turn
    have B2 := hG.below
    have D2 := hG.dicts
    have X2 := XB.keeps B2.stays
    have T2 := TB.keeps B2.stays
    have tup2 := H.tups N K2
    have hb2 := hb.mono tup2
    have mp2 := tup2 _ _ hp1 rfl
    have mc2 := K2 _ _ hc hlc
    have row2 := hrow.mono tup2
    have nI := H2.notit hnI
    obtain ⟨all, hall⟩ : ∃ all, all = (I, o2) :: news2 := ⟨_, rfl⟩
    have sub2 : ∀ p ∈ news2, p ∈ all := fun p hp => by rw [hall]; exact .tail _ hp
    have mI : (I, o2) ∈ all := by rw [hall]; exact .head _
    rw [← hall] at N3
    replace hb2 := hb2.up sub2
    replace mp2 := sub2 _ mp2
    replace mc2 := sub2 _ mc2
    replace row2 := row2.up sub2
    have HA := H2.up sub2
    obtain ⟨k, hk'⟩ : ∃ k : Int, k = -2 + (i : Int) * 1 := ⟨_, rfl⟩
    rw [← hk']
    have hk2 : k < 1003 := by omega
    have hk3 : -3 < k := by omega
    iterate 2 (first | (k_unfold; (try dsimp only)) | walk1)
    (try k_fold)
    rename Fr _ _ _ (fun y => _) => F4
    have N4 := N3
    clear N3
    refine cut_st (fun s' => ∃ h' tk' v m', s' = { s with heap := h', toks := tk' } ∧ Fr g2 L1 h' m' ∧ News g2 L1 h' all ∧ DueAt all cells k v ∧ m' (Str.ofString "at") = some (.int k t) ∧ m' (Str.ofString "due") = some v ∧ (∀ y, y ≠ Str.ofString "at" → y ≠ Str.ofString "due" → y ≠ Str.ofString "inner" → y ≠ Str.ofString "has_part" → m' y = List.lookup y [(Str.ofString "cells", Value.ref lc), (Str.ofString "path", Value.ref pt), (Str.ofString "begin", bv), (Str.ofString "heap", Value.ref hp)])) ?_ ?_
    · by_cases h0 : k < 0
      · k_steps
        rename Fr _ _ _ (fun y => _) => lF
        rename News _ _ _ all => lN
        exact CutP.intro ⟨_, _, _, _, rfl, lF, lN, .out (.inl h0), rfl, rfl, fun y a b c d => by simp only [if_neg a, if_neg b, if_neg c, if_neg d]⟩
      by_cases h1 : (vs.length : Int) ≤ k
      · k_steps
        rename Fr _ _ _ (fun y => _) => lF
        rename News _ _ _ all => lN
        exact CutP.intro ⟨_, _, _, _, rfl, lF, lN, .out (.inr (by rw [← hrow.len]; exact h1)), rfl, rfl, fun y a b c d => by simp only [if_neg a, if_neg b, if_neg c, if_neg d]⟩
      have h0' : 0 ≤ k := by omega
      have h1' : k < vs.length := by omega
      obtain ⟨v, hv⟩ : ∃ v, vs[k.toNat]? = some v := ⟨_, List.getElem?_eq_getElem (by omega)⟩
      k_steps
      rename Fr _ _ _ (fun y => _) => lF
      rename News _ _ _ all => lN
      exact CutP.intro ⟨_, _, _, _, rfl, lF, lN, .of row2 hc2 h0' h1' hv, rfl, rfl, fun y a b c d => by simp only [if_neg a, if_neg b, if_neg c, if_neg d]⟩
    · intro s5 hs5
      refine hide fun GG9 hG9 => ?_
      obtain ⟨h5, tk5, dv, m5, rfl, F5, N5, due, ea, ed, hm5⟩ := hs5
      refine hG9 ?_
      clear hG9 GG9
      have hm' := m_four' _ _ _ _ hm5
      rw [ea, ed] at hm'
      clear F4 N4
      generalize m5 (Str.ofString "inner") = y3 at hm'
      generalize m5 (Str.ofString "has_part") = y4 at hm'
      rw [hm'] at F5
      clear hm' hm5 ea ed
      have pok := due.one hS hpk
      have tupA : ∀ news', KO Fp all news' → ∀ a o, (a, o) ∈ all → o.cls = .type "tuple" → (a, o) ∈ news' := fun _ K => HA.tups N5 K
      k_steps
      rename Below _ _ _ _ => B3
      rename Frag.In _ _ => X3
      rename Fr _ _ _ (fun y => _) => F6
      rename News _ _ _ (_ :: _) => N6
      rename KtsTurn _ _ _ => t3
      rename KtsDicts _ _ => D3
      rename Top _ _ _ _ _ _ => T3
      rename WT _ _ _ _ _ _ _ _ _ _ => H3
      rename KO _ _ _ => K3
      rename ∀ p : Addr × Obj, p ∈ _ → p.fst < _ => l3
      replace K3 : KO Fp all _ := (KO.of_sub fun p hp => .tail _ (.tail _ (.tail _ hp))).trans K3
      have nl := H3.lt l3 (Nat.le_refl _)
      clear pok
      refine iter_listT (vs := [_, _, _, _]) F6 N6 (Gd (ktrTop dp un gd cn cs L a ccd cl outer) base (envX cn cs L a ccd cl :: outer) _) (fun g h b e => h.none_ b e) ⟨KtsTurn.refl, B3, D3⟩
        (fun m₀ i m' news' => (∀ y, y ≠ Str.ofString "inner" → y ≠ Str.ofString "has_part" → m' y = m₀ y) ∧ (_, listOf _ 0) ∈ news' ∧ WT w hp kd hx g kvs Fp Xs S news' ∧ KO Fp all news') ⟨fun _ _ _ => rfl, .head _, H3.up (fun _ h => .tail _ h), fun a o h hn => .tail _ (K3 a o h hn)⟩ (fun i m news hJ => hJ.2.1) ?_ ?_ rfl
      · intro I2 g4 i2 v2 m4 news4 h6 tk6 o4 hG4 hv4 hJ4 ho4 hn4 F7 N7
        have hm4 := hJ4.1
        have ml4 := hJ4.2.1
        have H4 := hJ4.2.2.1
        have K4 := hJ4.2.2.2
        clear hJ4
        obtain ⟨l, tl, rfl, hl4⟩ := four_ints (ints_four _ _ _ _ _ _ _ _) hv4
        have hm' := m_two _ _ hm4
        generalize m4 (Str.ofString "inner") = z3 at hm'
        generalize m4 (Str.ofString "has_part") = z4 at hm'
        rw [hm'] at F7
        clear hm' hm4 hv4 F6 N6
        have t4 := hG4.turn
        have B4 := hG4.below
        have D4 := hG4.dicts
        have X4 := XB.keeps B4.stays
        have T4 := TB.keeps B4.stays
        have tup4 := tupA _ K4
        have nI4 := H4.notit hn4
        obtain ⟨all4, hall4⟩ : ∃ all4, all4 = (I2, o4) :: news4 := ⟨_, rfl⟩
        have sub4 : ∀ p ∈ news4, p ∈ all4 := fun p hp => by rw [hall4]; exact .tail _ hp
        have mI4 : (I2, o4) ∈ all4 := by rw [hall4]; exact .head _
        rw [← hall4] at N7
        have hb4 := (hb2.mono tup4).up sub4
        have mp4 := sub4 _ (tup4 _ _ mp2 rfl)
        have HA4 := H4.up sub4
        iterate 2 (first | (k_unfold; (try dsimp only)) | walk1)
        (try k_fold)
        rename Fr _ _ _ (fun y => _) => F8
        have N8 := N7
        clear N7 F7
        refine cut_st (fun s' => ∃ h' tk' b m', s' = { s with heap := h', toks := tk' } ∧ Fr g4 L1 h' m' ∧ News g4 L1 h' all4 ∧ HasP all4 S key (pre ++ (pth ++ [k, l])) l dv b ∧ m' (Str.ofString "inner") = some (.int l tl) ∧ m' (Str.ofString "has_part") = some (.bool b) ∧ (∀ y, y ≠ Str.ofString "inner" → y ≠ Str.ofString "has_part" → m' y = if y = Str.ofString "at" then some (.int k t) else if y = Str.ofString "due" then some dv else if y = Str.ofString "inner" then y3 else if y = Str.ofString "has_part" then y4 else List.lookup y [(Str.ofString "cells", Value.ref lc), (Str.ofString "path", Value.ref pt), (Str.ofString "begin", bv), (Str.ofString "heap", Value.ref hp)])) ?_ ?_
        · have hno : peekP (some (.row cells)) [k, l] = .error (Str.ofString "place") → PlaceOk all4 S key (pre ++ (pth ++ [k, l])) .none := fun e => place_no hS hpk (by simp) e
          cases due.mono tup4 with
          | out q1 =>
            have pok := hno (row_out _ q1)
            k_steps
            rename Fr _ _ _ (fun y => _) => lF
            rename News _ _ _ all4 => lN
            exact CutP.intro ⟨_, _, _, _, rfl, lF, lN, .no pok, rfl, rfl, fun y a b => by simp only [if_neg a, if_neg b]⟩
          | int q1 q2 q3 =>
            have pok := hno (by rw [row_in _ q1 q2 q3]; rfl)
            k_steps
            rename Fr _ _ _ (fun y => _) => lF
            rename News _ _ _ all4 => lN
            exact CutP.intro ⟨_, _, _, _, rfl, lF, lN, .no pok, rfl, rfl, fun y a b => by simp only [if_neg a, if_neg b]⟩
          | @agg xx pp tg nn nn' bb ii jj u1 u2 q1 q2 q3 q4 q5 =>
            have q4' := sub4 _ q4
            have q5' := sub4 _ q5
            have hin : ∀ q, (if l = 0 then some (PV.int ii) else if l = 1 then some (PV.int jj) else none) = q → peekP (some (.row cells)) [k, l] = (match q with | some q => .ok q | none => .error (Str.ofString "place")) := fun q e => by rw [row_in _ q1 q2 q3, pair_at, e]; try (cases q <;> rfl)
            have hok : HasP all4 S key (pre ++ (pth ++ [k, l])) l (.ref xx) (decide (l = 0 ∨ l = 1)) := by
              rcases hl4 with rfl | rfl | rfl | rfl
              · exact .no (hno (hin none rfl))
              · exact .yes0 q4' q5' rfl (place_yes hS hpk (by simp) (hin _ rfl))
              · exact .yes1 q4' q5' rfl (place_yes hS hpk (by simp) (hin _ rfl))
              · exact .no (hno (hin none rfl))
            rcases hl4 with rfl | rfl | rfl | rfl
            all_goals k_steps
            all_goals rename Fr _ _ _ (fun y => _) => lF
            all_goals rename News _ _ _ all4 => lN
            all_goals exact CutP.intro ⟨_, _, _, _, rfl, lF, lN, hok, rfl, rfl, fun y a b => by simp only [if_neg a, if_neg b]⟩
        · intro s9 hs9
          refine hide fun GG9 hG9 => ?_
          obtain ⟨h9, tk9, b9, m9, rfl, F9, N9, hp9, ea, ed, hm9⟩ := hs9
          refine hG9 ?_
          clear hG9 GG9
          have hm' := m_two _ _ hm9
          rw [ea, ed] at hm'
          clear F8 N8
          rw [hm'] at F9
          clear hm' hm9 ea ed
          cases hp9
          all_goals (try rename _ = 0 => ql; subst ql)
          all_goals (try rename _ = 1 => ql; subst ql)
          all_goals k_steps
          all_goals rename Below _ _ _ _ => B10
          all_goals rename Fr _ _ _ (fun y => _) => F10
          all_goals rename News _ _ _ _ => N10
          all_goals rename KtsTurn _ _ _ => t10
          all_goals rename KtsDicts _ _ => D10
          all_goals rename WT _ _ _ _ _ _ _ _ _ _ => H10
          all_goals rename KO _ _ _ => K10
          all_goals replace K10 : KO Fp all4 _ := (KO.of_sub fun p hp => .tail _ (.tail _ (.tail _ hp))).trans K10
          all_goals exact end_turn ⟨t4.trans t10, B10, D10⟩ F10 N10 K10 H10 hall4 ho4 (by decide) nI4 K4 hn4 fun W K => ⟨fun y a b => by simp only [if_neg a, if_neg b], rest_in (K10 _ _ (sub4 _ ml4) nl) (fun e => hn4 _ ml4 e), W, K⟩
      · intro g4 m4 news4 h6 tk6 hG4 hJ4 F7 N7
        have hm4 := hJ4.1
        have ml4 := hJ4.2.1
        have H4 := hJ4.2.2.1
        have K4 := hJ4.2.2.2
        clear hJ4
        have t4 := hG4.turn
        have B4 := hG4.below
        have D4 := hG4.dicts
        clear F6 N6
        k_steps
        exact end_turn ⟨(t2.trans t3).trans t4, B4, D4⟩ F7 N7 K4 H4 hall ho (by decide) nI K2 hnI fun W K => ⟨fun y a b c d => by rw [hm4 y c d]; simp only [if_neg a, if_neg b, if_neg c, if_neg d], W, K⟩
  · intro g2 m2 news2 h2 tk2 hG hJ F3 N3
    have hm := hJ.1
    have H2 := hJ.2.1
    have K2 := hJ.2.2
    clear hJ
    have t2 := hG.turn
    have B2 := hG.below
    have D2 := hG.dicts
    clear F2 N2 hr
    k_steps
    exact LeaveT.intro t2 F3 N3 fun h₀' t f n b d => hret _ _ _ _ t b (XB.keeps b.stays) (TB.keeps b.stays) d f n H2 K2
end
section
section
variable {prog : Program} {w : World} {A : Around} {E : Value → Shared → Prop} {s : Shared} {h₀ : Heap} {L d : Addr} {m : Str → Option Value} {news : List (Addr × Obj)} {g : Obj → List (Addr × Obj)} {o : Obj} {kvs : List (Ky × Value)} {k : Ky} {key v : Value}
theorem mix_set {Q : Unit → Shared → Prop} (F : Fr h₀ L s.heap m) (N : News h₀ L s.heap news) (U : UpdF d o news g) (hd : o.IsDictOf (mixKind prog w) kvs) (hkey : (mixKind prog w).is k key = true) (hsz : kvs.length ≤ 100)
    (h : ∀ h' o', Fr h₀ L h' m → News h₀ L h' (g o') → o'.IsDictOf (mixKind prog w) (stored kvs k v) → Q () { s with heap := h', toks := s.toks + 1 }) : wpAny (model prog w) A (setItem (.ref d) key v) Q E s :=
  kda_set F N U hd hkey (by rw [sizeLine_eq]; omega) h
theorem mix_pop {v : Value} {Q : Value → Shared → Prop} (F : Fr h₀ L s.heap m) (N : News h₀ L s.heap news) (U : UpdF d o news g) (hd : o.IsDictOf (mixKind prog w) kvs) (hkey : (mixKind prog w).is k key = true) (hpart : (keyPart key).isSome = true) (hv : valueAt kvs k = some v) (hsz : kvs.length ≤ 100)
    (h : ∀ h' o', Fr h₀ L h' m → News h₀ L h' (g o') → o'.IsDictOf (mixKind prog w) (without kvs k) → Q v { s with heap := h', toks := s.toks + 1 }) : wpAny (model prog w) A (call (.builtin "dict.pop") [.ref d, key]) Q E s := by
  obtain ⟨pre, post, rfl, hg, a, b⟩ := U.split
  have hm := N (d, o) (List.mem_append_right _ (.head _))
  have hD : s.heap.DictOf (mixKind prog w) d kvs := Heap.dictOf_iff.mpr ⟨o, hm.1, hd⟩
  refine call_meetsIn PySem.F.slot_dict_pop hD.typeIs PySem.F.entry_dict_pop (PySem.F.args_dict_pop_2 _ _) (meets_dict_pop_there (mixKind prog w) d hkey [] (.inl rfl) hpart) ⟨kvs, v, hD, (by rw [sizeLine_eq]; omega), hv, fun h' hmm hs => ?_⟩
  obtain ⟨o', ho', hd'⟩ := Heap.dictOf_iff.mp hmm
  exact h h' o' (F.change hs hm.2.1 hm.2.2) (hg o' ▸ N.setIn a b hs ho') hd'
theorem mix_has {v : Value} {Q : Value → Shared → Prop} (N : News h₀ L s.heap news) (hp : (d, o) ∈ news) (hd : o.IsDictOf (mixKind prog w) kvs) (lo : (d == sysModules) = false) (hkey : (mixKind prog w).is k key = true) (hv : valueAt kvs k = some v) (h : Q (.bool true) { s with toks := s.toks + 1 }) :
    wpAny (model prog w) A (compareOp .In key (.ref d)) Q E s := kda_in N hp hd lo hkey true (by rw [hv]; rfl) h
theorem mix_hasnt {Q : Value → Shared → Prop} (N : News h₀ L s.heap news) (hp : (d, o) ∈ news) (hd : o.IsDictOf (mixKind prog w) kvs) (lo : (d == sysModules) = false) (hkey : (mixKind prog w).is k key = true) (hv : valueAt kvs k = none) (h : Q (.bool false) { s with toks := s.toks + 1 }) :
    wpAny (model prog w) A (compareOp .In key (.ref d)) Q E s := kda_in N hp hd lo hkey false (by rw [hv]; rfl) h
end
section
variable {prog : Program} {w : World} {A : Around} {E : Value → Shared → Prop} {s : Shared} {h₀ : Heap} {L l : Addr} {m : Str → Option Value} {news : List (Addr × Obj)} {vs : List Value} {n : Nat} {Q : Value → Shared → Prop}
theorem copy_list (F : Fr h₀ L s.heap m) (N : News h₀ L s.heap news) (hm : (l, listOf vs.toArray n) ∈ news) (hz : vs.length ≤ 1000)
    (h : ∀ D c h', Fr h₀ L h' m → News h₀ L h' ((D, listOf vs.toArray c) :: news) → (∀ q ∈ news, q.1 < D) → Q (.ref D) { s with heap := h' }) : wpAny (model prog w) A (call (.type "list") [.ref l]) Q E s :=
  kup_listOf F N hm rfl h (by rw [sizeLine_eq]; simp; omega)
theorem copy_tuple (F : Fr h₀ L s.heap m) (N : News h₀ L s.heap news) (hm : (l, listOf vs.toArray n) ∈ news) (hz : vs.length ≤ 1000)
    (h : ∀ D h', Fr h₀ L h' m → News h₀ L h' ((D, tupO vs 0) :: news) → (∀ q ∈ news, q.1 < D) → Q (.ref D) { s with heap := h' }) : wpAny (model prog w) A (call (.type "tuple") [.ref l]) Q E s :=
  kde_tupleOf F N (N.isList hm) (by simp; omega) rfl h
end
theorem News.apart {h₀ h : Heap} {L a b : Addr} {news : List (Addr × Obj)} {o o' : Obj} (N : News h₀ L h news) (h1 : (a, o) ∈ news) (h2 : (b, o') ∈ news) (hne : o ≠ o') : a ≠ b := fun e => by
  subst e
  exact hne (News.obj_eq N h1 h2)
theorem ints_1 (i : Int) (t : Tok) : Ints [.int i t] [i] := ⟨rfl, fun n j h => by
  cases n with
  | zero => cases h; exact ⟨t, rfl⟩
  | succ n => cases h⟩
theorem News.swap {h₀ h : Heap} {L : Addr} {x y z : Addr × Obj} {news : List (Addr × Obj)} (N : News h₀ L h (x :: y :: z :: news)) : News h₀ L h (x :: z :: y :: news) := News.perm N fun p hp => by
  rcases List.mem_cons.mp hp with rfl | hp
  · exact .head _
  rcases List.mem_cons.mp hp with rfl | hp
  · exact .tail _ (.tail _ (.head _))
  rcases List.mem_cons.mp hp with rfl | hp
  · exact .tail _ (.head _)
  · exact .tail _ (.tail _ (.tail _ hp))
theorem News.to4 {h₀ h : Heap} {L : Addr} {x y z u : Addr × Obj} {news : List (Addr × Obj)} (N : News h₀ L h (x :: y :: z :: u :: news)) : News h₀ L h (z :: u :: x :: y :: news) := News.perm N fun p hp => by
  rcases List.mem_cons.mp hp with rfl | hp
  · exact .tail _ (.tail _ (.head _))
  rcases List.mem_cons.mp hp with rfl | hp
  · exact .tail _ (.tail _ (.tail _ (.head _)))
  rcases List.mem_cons.mp hp with rfl | hp
  · exact .head _
  rcases List.mem_cons.mp hp with rfl | hp
  · exact .tail _ (.head _)
  · exact .tail _ (.tail _ (.tail _ (.tail _ hp)))
theorem put_heap (h1 h2 h3 h4 h5 : Int) (v1 v2 v3 v4 v5 : Value) (t1 t2 t3 t4 t5 : Tok) : putL (Str.ofString "collector") h5 (.str (Str.ofString "collector") t5) v5 (putL (Str.ofString "watch") h4 (.str (Str.ofString "watch") t4) v4 (putL (Str.ofString "here") h3 (.str (Str.ofString "here") t3) v3 (putL (Str.ofString "given") h2 (.str (Str.ofString "given") t2) v2 (putL (Str.ofString "kept") h1 (.str (Str.ofString "kept") t1) v1 [])))) =
    [ent h1 "kept" t1 v1, ent h2 "given" t2 v2, ent h3 "here" t3 v3, ent h4 "watch" t4 v4, ent h5 "collector" t5 v5] := rfl
theorem put_given (h1 h2 h3 h4 h5 h : Int) (v1 v2 v3 v4 v5 u key : Value) (t1 t2 t3 t4 t5 : Tok) : putL (Str.ofString "given") h key u [ent h1 "kept" t1 v1, ent h2 "given" t2 v2, ent h3 "here" t3 v3, ent h4 "watch" t4 v4, ent h5 "collector" t5 v5] =
    [ent h1 "kept" t1 v1, ent h2 "given" t2 u, ent h3 "here" t3 v3, ent h4 "watch" t4 v4, ent h5 "collector" t5 v5] := rfl
theorem put_kept (h1 h2 h3 : Int) (v1 v2 v3 : Value) (t1 t2 t3 : Tok) : putL (Str.ofString "where") h3 (.str (Str.ofString "where") t3) v3 (putL (Str.ofString "content") h2 (.str (Str.ofString "content") t2) v2 (putL (Str.ofString "kind") h1 (.str (Str.ofString "kind") t1) v1 [])) =
    [ent h1 "kind" t1 v1, ent h2 "content" t2 v2, ent h3 "where" t3 v3] := rfl
end
section
open PySem PySem.W PySem.W.X PySem.Calls PyProof.Rows PySem.Spec PyProof.Rows.LCg PyProof.Rows.LCt
def SrcKD (prog : Program) (w : World) (A : Around) (h₀ : Heap) (L : Addr) (m : Str → Option Value) (env : Env) (ct elt : Expr) (x : Str) (scope : Scope) (cl : List (Str × Addr)) (Fin : Shared → List Value → List (Addr × Obj) → Prop) (xv : Value) (s₁ : Shared) : Prop :=
  ∃ d od kvs news, xv = .ref d ∧ A.handled = none ∧ Fr h₀ L s₁.heap m ∧ News h₀ L s₁.heap news ∧ (d, od) ∈ news ∧ od.IsDictOf (mixKind prog w) kvs ∧ (d == sysModules) = false ∧ kvs.length ≤ 100 ∧
    ∀ s₂ : Shared, (∃ h, s₂ = { s₁ with heap := h }) → CompRestT prog w A h₀ L m env ct elt x scope cl s₂ (fun nw => (d, od) ∈ nw) (fun i v => ∃ k u, kvs[i]? = some (k, u) ∧ (mixKind prog w).is k v = true) (Fin s₂) kvs.length 0 [] news
section
variable {prog : Program} {w : World} {A : Around} {E : Value → Shared → Prop} {s : Shared} {h₀ : Heap} {L : Addr} {m : Str → Option Value} {env : Env}
theorem comp_keys {ct elt iter : Expr} {x : Str} {px : Pos} {scope : Scope} {cl : List (Str × Addr)} {pos : Pos} {Q : Value → Shared → Prop} (_F₀ : Fr h₀ L s.heap m)
    (hclos : closureFor scope env = pure cl) (hcell : ∀ y ∈ scope.names, y.2 ≠ .cell) (hkind : scope.kind = .function)
    (hnames : ∀ y ∈ scope.names, y.2 = .local → scope.names.lookup y.1 = some .local) (hx : scope.names.lookup x = some .local)
    (h : wpAny (model prog w) A (eval iter env) (SrcKD prog w A h₀ L m env ct elt x scope cl (fun s₂ => FinE h₀ L m s₂ Q)) E s)
    (hs : ∀ x, foldedSetIterable iter env x = pure x := by intro _; rfl) :
    wpAny (model prog w) A (eval (.ListComp elt [⟨.Name x px, iter, [ct], 0⟩] scope pos) env) Q E s := by
  rw [eval_ListComp]
  refine wpAny_comprehension_free (use := none) rfl hs hclos hkind hnames (wpAny_mono h (fun xv s₁ h₁ => ?_) fun _ _ e => e)
  obtain ⟨d, od, kvs, news, rfl, hh, F, N, hm, hd, lo, hz, R⟩ := h₁
  obtain ⟨ep, ha⟩ := KdkAt.of hd
  have hD := ha.dictAt (N _ hm).1
  have hlt : d < s₁.heap.objs.size := Heap.lt_size (N _ hm).1
  refine wpAny_pyIter_dict lo hD ?_
  have up : ∀ b o, s₁.heap.get? b = some o → (s₁.heap.push { cls := .type "dict_keyiterator", data := .fields #[.ref d, .int 0 0, .int kvs.length 0, .int ep 0] }).get? b = some o := fun b o e => Heap.get?_push_of_some _ e
  have hI : (s₁.heap.push { cls := .type "dict_keyiterator", data := .fields #[.ref d, .int 0 0, .int kvs.length 0, .int ep 0] }).IsKeyIter s₁.heap.objs.size d 0 kvs.length ep := ⟨_, Heap.get?_push_size _ rfl, rfl, rfl⟩
  refine block_T (Walks.dictKeys (knd := mixKind prog w) hh s₁.heap.objs.size d (Nat.ne_of_lt hlt) kvs ep) (by rw [sizeLine_eq]; omega) (fun i h st => by obtain ⟨o, e, _⟩ := st.1; exact ⟨o, e⟩)
    (fun i h h' o nw st e e' k N' hS => ⟨by obtain ⟨o', q, r⟩ := st.1; rw [e] at q; cases q; exact ⟨o, e', r⟩, ha.dictAt (N' _ hS).1⟩) hcell hkind hx ⟨hI, hD.at' fun o e => up _ o e⟩ (fun b hb => ?_)
    (F.keeps up) (N.grown up) (Nat.ne_of_lt F.ns.lt) (ktu_new F (Nat.le_refl _)) (fun p hp => Nat.ne_of_lt (Heap.lt_size (N p hp).1)) hm (R _ ⟨_, rfl⟩) ?_
  · show b < (s₁.heap.push _).objs.size
    rw [Heap.size_push]
    rcases List.mem_cons.mp hb with rfl | hb
    · exact Nat.lt_succ_self _
    · rw [List.mem_singleton.mp hb]; exact Nat.lt_succ_of_lt hlt
  · intro D C h tk m' ys news' F' N' o1 hn hC₀ hD₀ hCL hDL hCD offC fin
    refine ⟨m', hn, fun h'' hs'' => fin D h'' tk (F'.change hs'' hCL hC₀) (fun p hp => ?_) o1⟩
    refine ⟨hs''.extBut _ _ ?_ (N' p hp).1, (N' p hp).2⟩
    rcases List.mem_cons.mp hp with rfl | hp
    · exact Ne.symm hCD
    · exact offC p hp
inductive KeysAre : List Value → List Ky → Prop
  | nil : KeysAre [] []
  | snoc {vs : List Value} {ks : List Ky} {v : Value} {k : Ky} : KeysAre vs ks → isKy k v = true → KeysAre (vs ++ [v]) (ks ++ [k])
/-- what a test says, sealed -/
def TestIs (s : Shared) (b : Bool) (ok : Bool) (s' : Shared) : Prop := ok = b ∧ ∃ tk, s' = { s with toks := tk }
def EltIs (s : Shared) (v : Value) (y : Value) (s' : Shared) : Prop := y = v ∧ ∃ tk, s' = { s with toks := tk }
theorem TestIs.intro {s : Shared} {b : Bool} {tk : Nat} : TestIs s b b { s with toks := tk } := ⟨rfl, tk, rfl⟩
theorem EltIs.intro {s : Shared} {v : Value} {tk : Nat} : EltIs s v v { s with toks := tk } := ⟨rfl, tk, rfl⟩
theorem rest_keys {ct elt : Expr} {x : Str} {scope : Scope} {cl : List (Str × Addr)} {S : List (Addr × Obj) → Prop} {kvs : List (Ky × Value)} {Fin : List Value → List (Addr × Obj) → Prop} {news : List (Addr × Obj)} (pf : Ky → Bool) (hS : S news)
    (hct : ∀ k v I oI C oC D oD m₂ h tk (E' : Value → Shared → Prop), isKy k v = true → NsObj oC m₂ → m₂ x = some v → Fr h₀ L h m → News h₀ L h ((I, oI) :: (C, oC) :: (D, oD) :: news) →
      wpAny (model prog w) A (isTrue ct (compEnvC scope cl C env) (eval ct (compEnvC scope cl C env))) (TestIs { s with heap := h, toks := tk } (pf k)) E' { s with heap := h, toks := tk })
    (hel : ∀ k v I oI C oC D oD m₂ h tk (E' : Value → Shared → Prop), isKy k v = true → NsObj oC m₂ → m₂ x = some v → Fr h₀ L h m → News h₀ L h ((I, oI) :: (C, oC) :: (D, oD) :: news) →
      wpAny (model prog w) A (eval elt (compEnvC scope cl C env)) (EltIs { s with heap := h, toks := tk } v) E' { s with heap := h, toks := tk })
    (fin : ∀ ys, KeysAre ys ((kvs.map (·.1)).filter pf) → Fin ys news) :
    ∀ (k i : Nat) ys, i + k = kvs.length → KeysAre ys (((kvs.take i).map (·.1)).filter pf) → CompRestT prog w A h₀ L m env ct elt x scope cl s S (fun i v => ∃ k u, kvs[i]? = some (k, u) ∧ (mixKind prog w).is k v = true) Fin k i ys news
  | 0, i, ys, hi, hk => by
    refine CompRestT.zero (fin ys ?_)
    rw [Nat.add_zero] at hi
    rw [hi, List.take_length] at hk
    exact hk
  | k + 1, i, ys, hi, hk => by
    refine CompRestT.succ fun v I oI C oC D m₂ h tk E' hP hC hx F N off ne => ?_
    obtain ⟨key, u, h1, h2⟩ := hP
    have h2' : isKy key v = true := h2
    have hlt : i < kvs.length := by omega
    have e : ((kvs.take (i + 1)).map (·.1)).filter pf = ((kvs.take i).map (·.1)).filter pf ++ (if pf key then [key] else []) := by
      obtain ⟨_, e1⟩ := List.getElem?_eq_some_iff.mp h1
      rw [List.take_succ_eq_append_getElem hlt, e1, List.map_append, List.filter_append]
      cases q : pf key <;> simp [q]
    refine wpAny_mono (hct key v I oI C oC D _ m₂ h tk E' h2' hC hx F N) (fun ok s' q => ?_) fun _ _ z => z
    obtain ⟨rfl, tk', rfl⟩ := q
    cases q : pf key with
    | true =>
      simp only [if_true]
      refine wpAny_mono (hel key v I oI C oC D _ m₂ h tk' E' h2' hC hx F N) (fun y s' z => ?_) fun _ _ z => z
      obtain ⟨rfl, tk'', rfl⟩ := z
      refine ⟨h, tk'', news, rfl, F, N, off, hS, rest_keys pf hS hct hel fin k (i + 1) _ (by omega) ?_⟩
      rw [e, q]
      exact .snoc hk h2'
    | false =>
      simp only [Bool.false_eq_true, if_false]
      refine ⟨h, tk', news, rfl, F, N, off, hS, rest_keys pf hS hct hel fin k (i + 1) _ (by omega) ?_⟩
      rw [e, q]
      simpa using hk
end
theorem KeysAre.snoc_inv {vs : List Value} {ks : List Ky} {k : Ky} (h : KeysAre vs (ks ++ [k])) : ∃ us v, vs = us ++ [v] ∧ KeysAre us ks ∧ isKy k v = true := by
  generalize e : ks ++ [k] = q at h
  cases h with
  | nil => simp at e
  | @snoc us ks' v k' h1 h2 =>
    obtain ⟨e1, e2⟩ := List.append_inj' e rfl
    subst e1
    cases e2
    exact ⟨us, v, rfl, h1, h2⟩
theorem KeysAre.nil_inv {vs : List Value} (h : KeysAre vs []) : vs = [] := by
  generalize e : ([] : List Ky) = q at h
  cases h with
  | nil => rfl
  | snoc h1 h2 => simp at e
theorem keys_one {vs : List Value} {x : Str} (h : KeysAre vs [.inr x]) : ∃ t, vs = [.str x t] := by
  obtain ⟨us, v, rfl, h1, h2⟩ := KeysAre.snoc_inv (ks := []) h
  obtain rfl := h1.nil_inv
  obtain ⟨t, rfl⟩ := Value.isStrOf_shape (x := x) h2
  exact ⟨t, rfl⟩
theorem keys_four {vs : List Value} {a b c d : Int} (h : KeysAre vs [.inl a, .inl b, .inl c, .inl d]) : ∃ t u x y, vs = [.int a t, .int b u, .int c x, .int d y] := by
  obtain ⟨us, v, rfl, h1, h2⟩ := KeysAre.snoc_inv (ks := [.inl a, .inl b, .inl c]) h
  obtain ⟨us, v1, rfl, h1, h3⟩ := KeysAre.snoc_inv (ks := [.inl a, .inl b]) h1
  obtain ⟨us, v2, rfl, h1, h4⟩ := KeysAre.snoc_inv (ks := [.inl a]) h1
  obtain ⟨us, v3, rfl, h1, h5⟩ := KeysAre.snoc_inv (ks := []) h1
  obtain rfl := h1.nil_inv
  obtain ⟨y, rfl⟩ := Value.isInt_shape (k := d) h2
  obtain ⟨x, rfl⟩ := Value.isInt_shape (k := c) h3
  obtain ⟨u, rfl⟩ := Value.isInt_shape (k := b) h4
  obtain ⟨t, rfl⟩ := Value.isInt_shape (k := a) h5
  exact ⟨t, u, x, y, rfl⟩
section
variable {prog : Program} {w : World} {A : Around} {E : Value → Shared → Prop} {s : Shared} {h₀ : Heap} {L : Addr} {m : Str → Option Value} {news : List (Addr × Obj)} {Q : Value → Shared → Prop} {l : Addr}
theorem sorted_one {x : Str} {t : Tok} {o : Obj} (F : Fr h₀ L s.heap m) (N : News h₀ L s.heap news) (hm : (l, o) ∈ news) (ho : o.cls = .type "list" ∧ ∃ n, o.data = .seq #[.str x t] n)
    (h : ∀ D t' e h', Fr h₀ L h' m → News h₀ L h' ((D, listOf #[.str x t'] e) :: news) → Q (.ref D) { s with heap := h' }) :
    wpAny (model prog w) A (call (.builtin "sorted") [.ref l]) Q E s := by
  obtain ⟨hc, n, hd⟩ := ho
  have hl : s.heap.IsList l [Value.str x t].toArray := ⟨_, (N _ hm).1, hc, n, hd⟩
  refine sorted_N_str F N hl (ss := [x]) (.cons x t .nil) (by simp) fun h' vs' ss' e F' N' hS hp _ => ?_
  obtain rfl := List.perm_singleton.mp hp
  cases hS with
  | cons _ t' r =>
    cases r
    exact h _ t' e h' F' N'
theorem sorted_up {vs : List Value} {ns : List Int} {o : Obj} (F : Fr h₀ L s.heap m) (N : News h₀ L s.heap news) (hm : (l, o) ∈ news) (ho : o.cls = .type "list" ∧ ∃ n, o.data = .seq vs.toArray n) (hi : IntsAre vs ns) (hs : ns.Pairwise (· ≤ ·)) (h64 : ns.length < 64)
    (h : ∀ D vs' e h', IntsAre vs' ns → Fr h₀ L h' m → News h₀ L h' ((D, listOf vs'.toArray e) :: news) → Q (.ref D) { s with heap := h' }) :
    wpAny (model prog w) A (call (.builtin "sorted") [.ref l]) Q E s := by
  obtain ⟨hc, n, hd⟩ := ho
  have hl : s.heap.IsList l vs.toArray := ⟨_, (N _ hm).1, hc, n, hd⟩
  have e1 := IntsAre.length hi
  refine sorted_N F N hl hi (by omega) fun h' vs' ns' e F' N' hI hp hq => ?_
  obtain rfl := lks_uniq hp hq hs
  exact h _ vs' e h' hI F' N'
end
theorem News.drop2 {h₀ h : Heap} {L : Addr} {x y : Addr × Obj} {news : List (Addr × Obj)} (N : News h₀ L h (x :: y :: news)) : News h₀ L h (x :: news) := News.perm N fun p hp => by
  rcases List.mem_cons.mp hp with rfl | hp
  · exact .head _
  · exact .tail _ (.tail _ hp)
theorem ints_of_four {vs : List Value} {a b c d : Int} (h : IntsAre vs [a, b, c, d]) : ∃ t u x y, vs = [.int a t, .int b u, .int c x, .int d y] := by
  cases h with | cons _ t h =>
  cases h with | cons _ u h =>
  cases h with | cons _ x h =>
  cases h with | cons _ y h =>
  cases h
  exact ⟨t, u, x, y, rfl⟩
end
theorem kw_M26 : True := by
  k_with "mine mixset" => (k_here; k_dflt (refine mix_set (by k_asm) (by k_asm) (by k_updF) (by assumption) (by first | exact mix_int _ _ _ _ | exact mix_str _ _ _ _) (by assumption) ?_; k_whole); intro zh' zo' zF' zN' zhd'; (try dsimp only at zN'))
  k_with "mine copylist" => (k_here; (with_reducible show wpAny _ _ (call (Value.type "list") [Value.ref _]) _ _ _); k_dflt (refine copy_list (by k_asm) (by k_asm) (by k_mem) (by first | assumption | omega) ?_; k_whole); intro zD' zc' zh' zF' zN' zl1; (try k_lt zl1))
  k_with "call type:list" => walk_at "mine copylist"
  k_with "mine copytuple" => (k_here; (with_reducible show wpAny _ _ (call (Value.type "tuple") [Value.ref _]) _ _ _); k_dflt (refine copy_tuple (by k_asm) (by k_asm) (by k_mem) (by first | assumption | omega) ?_; k_whole); intro zD' zh' zF' zN' zl1; (try k_lt zl1))
  k_with "call type:tuple" => walk_at "mine copytuple"
  k_with "mine mixmeth" => (k_here; (with_reducible show wpAny _ _ (getMethod (Value.ref _) (Str.ofString "pop") _) _ _ _); k_dflt (refine kdl_method (K := Ky) (knd := mixKind _ _) PySem.F.slot_dict_pop PySem.F.type_dict_pop (by k_asm) (by k_mem) (by assumption) ?_; k_whole))
  k_with "getMethod ref" => walk_at "mine mixmeth"
  k_with "mine mixpop" => (k_here; k_dflt (refine mix_pop (by k_asm) (by k_asm) (by k_updF) (by assumption) (by first | exact mix_int _ _ _ _ | exact mix_str _ _ _ _) rfl (by assumption) (by assumption) ?_; k_whole); intro zh' zo' zF' zN' zhd'; (try dsimp only at zN'))
  k_with "call builtin:dict.pop" => walk_at "mine mixpop"
  k_with "mine mixin" => (k_here; k_dflt (first | (refine mix_has (by k_asm) (by k_mem) (by assumption) (by assumption) (by first | exact mix_int _ _ _ _ | exact mix_str _ _ _ _) (by assumption) ?_; k_whole) | (refine mix_hasnt (by k_asm) (by k_mem) (by assumption) (by assumption) (by first | exact mix_int _ _ _ _ | exact mix_str _ _ _ _) (by assumption) ?_; k_whole)))
  k_with "compareOp In int ref" => walk_at "mine mixin"
  k_with "compareOp In str ref" => walk_at "mine mixin"
  k_with "setItem ref int" => walk_at "mine mixset"
  k_with "setItem ref str" => walk_at "mine mixset"
  trivial
section
theorem heap_new {w : World} {mean : ExcName → Option Value} {mg mb : Str → Option Value} {dp un : Nat} {gd : Option (List Code)} {cn : Str} {cs : Scope} {a : Addr} {ccd : Value} {cl : List (Str × Addr)} {outer : List Env} {A₀ : Around} {base h₀ : Heap} {L : Addr} {m : Str → Option Value} {news : List (Addr × Obj)} {s : Shared} {Q E : Value → Shared → Prop}
    (B : Below A₀ base outer h₀) (F : Fr h₀ L s.heap m) (X : (hd.heap_39 w.params).In h₀) (N : News h₀ L s.heap news) (T : Top PP LL mean mg mb h₀) (hk : cs.kind = .function) (hdp : dp + 200 < recursionLimit) (hun : un + 2000 < cLine)
    (hret : ∀ h' tk' hp hx kd ko h1 h2 h3 h4 h5 t1 t2 t3 t4 t5 tg t0 n, (kd == sysModules) = false → @LT.lt Nat _ hx kd → ko.IsDictOf (mixKind Prg w) [] → (∀ p ∈ (hp, instObj 244 hx) :: news, p.1 ≠ hx) → (∀ p ∈ (hx, hpO h1 h2 h3 h4 h5 t1 t2 t3 t4 t5 kd 0 tg t0 n) :: (hp, instObj 244 hx) :: news, p.1 ≠ kd) → Fr h₀ L h' m → News h₀ L h' ((kd, ko) :: (hx, hpO h1 h2 h3 h4 h5 t1 t2 t3 t4 t5 kd 0 tg t0 n) :: (hp, instObj 244 hx) :: news) → Q (.ref hp) { s with heap := h', toks := tk' }) :
    wpAny (model Prg w) (ktrTop dp un gd cn cs L a ccd cl outer) (call (.ref 244) []) Q E s := by
  have hfill : (hd.heap_39 = hd.heap_39 ∧ PySem.Challenge.rw_pf0075_01 = PySem.Challenge.rw_pf0075_01) → True := by
    k_fill
    intro _; trivial
  clear hfill
  k_steps
  rename Fr h₀ L _ m => kF
  rename News h₀ L _ (_ :: _ :: _ :: news) => kN
  rename Obj.IsDictOf (intKind _ _) _ _ => hi
  rename (_ == sysModules) = false => hlo
  rename ∀ p : Addr × Obj, p ∈ news → p.1 < _ => l1
  rename _ < _ ∧ _ < _ ∧ AllLt _ news => l2
  rw [put_heap] at kN
  have hne := News.ne_of_cls kN (.tail _ (.head _)) (.tail _ (.tail _ (.head _))) (by show Value.ref _ ≠ Value.type "dict"; simp)
  refine hret _ _ _ _ _ _ _ _ _ _ _ _ _ _ _ _ _ _ _ hlo l2.2.1 (mix_nil hi) (fun p hp => ?_) (fun p hp => ?_) kF (News.swap kN)
  · rcases List.mem_cons.mp hp with rfl | hp
    · exact hne
    · exact Nat.ne_of_lt (l1 p hp)
  · rcases List.mem_cons.mp hp with rfl | hp
    · exact Nat.ne_of_lt l2.2.1
    rcases List.mem_cons.mp hp with rfl | hp
    · exact Nat.ne_of_lt l2.1
    · exact Nat.ne_of_lt (Nat.lt_trans (l1 p hp) l2.2.1)
theorem make_all {w : World} {mean : ExcName → Option Value} {mg mb : Str → Option Value} {dp un : Nat} {gd : Option (List Code)} {cn : Str} {cs : Scope} {a : Addr} {ccd : Value} {cl : List (Str × Addr)} {outer : List Env} {A₀ : Around} {base h₀ : Heap} {L : Addr} {m : Str → Option Value} {news : List (Addr × Obj)} {s : Shared} {Q E : Value → Shared → Prop}
    (B : Below A₀ base outer h₀) (F : Fr h₀ L s.heap m) (X : (hd.heap_39 w.params).In h₀) (N : News h₀ L s.heap news) (T : Top PP LL mean mg mb h₀) (hk : cs.kind = .function) (hdp : dp + 200 < recursionLimit) (hun : un + 2000 < cLine)
    {hp hx kd : Addr} {ko : Obj} {g : Int} {kvs : List (Ky × Value)} {h1 h2 h3 h4 h5 : Int} {t1 t2 t3 t4 t5 tg t0 : Tok} {n : Nat} {kind : Str} {tk : Tok} {c : Value}
    (lo : (kd == sysModules) = false) (hlen : kvs.length ≤ 100) (hd' : ko.IsDictOf (mixKind Prg w) kvs) (m1 : (hp, instObj 244 hx) ∈ news) (n1 : ∀ p ∈ news, p.1 ≠ hx) (n2 : ∀ p ∈ news, p.1 ≠ kd) (n3 : @LT.lt Nat _ hx kd) (hg0 : 0 ≤ g) (hg1 : g < 1000) (hnew : valueAt kvs (.inl (g + 1)) = none)
    (N1 : News h₀ L s.heap ((kd, ko) :: (hx, hpO h1 h2 h3 h4 h5 t1 t2 t3 t4 t5 kd g tg t0 n) :: news))
    (hret : ∀ h' tk' k dk ko' a1 a2 a3 b1 b2 b3 wh nk u tg' n', (∀ p ∈ news, p.1 < dk) → @LT.lt Nat _ hx dk → @LT.lt Nat _ kd dk → @LT.lt Nat _ dk k → ko'.IsDictOf (mixKind Prg w) (stored kvs (.inl (g + 1)) (.ref k)) → Fr h₀ L h' m →
      News h₀ L h' ((kd, ko') :: (hx, hpO h1 h2 h3 h4 h5 t1 t2 t3 t4 t5 kd (g + 1) tg' t0 n') :: (k, instObj 106 dk) :: (dk, kpO a1 a2 a3 b1 b2 b3 kind tk c wh nk) :: news) → Q (.int (g + 1) u) { s with heap := h', toks := tk' }) :
    wpAny (model Prg w) (ktrTop dp un gd cn cs L a ccd cl outer) (call (.ref 138) [.ref hp, .str kind tk, c]) Q E s := by
  have hfill : (hd.heap_39 = hd.heap_39 ∧ PySem.Challenge.rw_pf0075_01 = PySem.Challenge.rw_pf0075_01) → True := by
    k_fill
    intro _; trivial
  clear hfill
  clear N
  k_steps
  rename Fr h₀ L _ m => kF
  rename News h₀ L _ (_ :: _ :: _ :: _ :: news) => kN
  rename Obj.IsDictOf (mixKind _ _) _ (stored _ _ _) => hi
  rename _ < _ ∧ _ < _ ∧ AllLt _ news => l1
  rename @LT.lt Nat _ _ _ => l2
  rw [put_kept, put_given] at kN
  exact hret _ _ _ _ _ _ _ _ _ _ _ _ _ _ _ _ (kst_ltOf l1.2.2) l1.2.1 l1.1 l2 hi kF (News.to4 kN)
theorem named_all {w : World} {mean : ExcName → Option Value} {mg mb : Str → Option Value} {dp un : Nat} {gd : Option (List Code)} {cn : Str} {cs : Scope} {a : Addr} {ccd : Value} {cl : List (Str × Addr)} {outer : List Env} {A₀ : Around} {base h₀ : Heap} {L : Addr} {m : Str → Option Value} {news : List (Addr × Obj)} {s : Shared} {Q E : Value → Shared → Prop}
    (B : Below A₀ base outer h₀) (F : Fr h₀ L s.heap m) (X : (hd.heap_39 w.params).In h₀) (N : News h₀ L s.heap news) (T : Top PP LL mean mg mb h₀) (hk : cs.kind = .function) (hdp : dp + 200 < recursionLimit) (hun : un + 2000 < cLine)
    {hp hx kd : Addr} {ko : Obj} {g : Int} {kvs : List (Ky × Value)} {h1 h2 h3 h4 h5 : Int} {t1 t2 t3 t4 t5 tg t0 : Tok} {n : Nat} {path : Str} {tk : Tok} {c : Value}
    (lo : (kd == sysModules) = false) (hlen : kvs.length ≤ 100) (hd' : ko.IsDictOf (mixKind Prg w) kvs) (m1 : (hp, instObj 244 hx) ∈ news) (n1 : ∀ p ∈ news, p.1 ≠ hx) (n2 : ∀ p ∈ news, p.1 ≠ kd) (n3 : @LT.lt Nat _ hx kd)
    (N1 : News h₀ L s.heap ((kd, ko) :: (hx, hpO h1 h2 h3 h4 h5 t1 t2 t3 t4 t5 kd g tg t0 n) :: news))
    (hret : ∀ h' tk' k dk ko' a1 a2 a3 b1 b2 b3 tk wh nk, (∀ p ∈ news, p.1 < dk) → @LT.lt Nat _ hx dk → @LT.lt Nat _ kd dk → @LT.lt Nat _ dk k → ko'.IsDictOf (mixKind Prg w) (stored kvs (.inr path) (.ref k)) → Fr h₀ L h' m →
      News h₀ L h' ((kd, ko') :: (hx, hpO h1 h2 h3 h4 h5 t1 t2 t3 t4 t5 kd g tg t0 n) :: (k, instObj 106 dk) :: (dk, kpO a1 a2 a3 b1 b2 b3 (Str.ofString "var") tk c wh nk) :: news) → Q .none { s with heap := h', toks := tk' }) :
    wpAny (model Prg w) (ktrTop dp un gd cn cs L a ccd cl outer) (call (.ref 145) [.ref hp, .str path tk, c]) Q E s := by
  have hfill : (hd.heap_39 = hd.heap_39 ∧ PySem.Challenge.rw_pf0075_01 = PySem.Challenge.rw_pf0075_01) → True := by
    k_fill
    intro _; trivial
  clear hfill
  clear N
  k_steps
  rename Fr h₀ L _ m => kF
  rename News h₀ L _ (_ :: _ :: _ :: _ :: news) => kN
  rename Obj.IsDictOf (mixKind _ _) _ (stored _ _ _) => hi
  rename _ < _ ∧ _ < _ ∧ AllLt _ news => l1
  rename @LT.lt Nat _ _ _ => l2
  rw [put_kept] at kN
  exact hret _ _ _ _ _ _ _ _ _ _ _ _ _ _ (kst_ltOf l1.2.2) l1.2.1 l1.1 l2 hi kF (News.to4 kN)
end
theorem kw_M27 : True := by
  k_with "exec For Name Call cons nil" => (k_here; (rename Fr _ _ _ _ => lF'); (with_unfolding_all refine' For_turns lF' ?_); k_whole)
  k_with "exec For Name Name cons nil" => (k_here; (rename Fr _ _ _ _ => lF'); (with_unfolding_all refine' For_turns lF' ?_); k_whole)
  trivial
section
abbrev outs (kvs : List (Ky × Value)) (is : List Int) : List (Ky × Value) := is.foldl (fun q i => without q (.inl i)) kvs
theorem outs_len (kvs : List (Ky × Value)) : ∀ (is : List Int) {n : Nat}, kvs.length ≤ n → (outs kvs is).length ≤ n := by
  intro is
  induction is generalizing kvs with
  | nil => intro n h; exact h
  | cons i r ih => intro n h; exact ih (without kvs (.inl i)) (Nat.le_trans (List.length_filter_le _ _) h)
theorem outs_next {kvs : List (Ky × Value)} {is : List Int} {n : Nat} {i : Int} (h : is[n]? = some i) : outs kvs (is.take (n + 1)) = without (outs kvs (is.take n)) (.inl i) := by
  obtain ⟨hlt, e⟩ := List.getElem?_eq_some_iff.mp h
  show List.foldl _ _ _ = _
  rw [List.take_succ_eq_append_getElem hlt, e, List.foldl_append]
  rfl
theorem valueAt_none_mem {kvs : List (Ky × Value)} {k : Ky} (h : valueAt kvs k = none) : without kvs k = kvs := by
  refine without_of_not_mem kvs k fun hm => ?_
  obtain ⟨p, hp, e⟩ := List.mem_map.mp hm
  unfold valueAt at h
  simp only [Option.map_eq_none_iff, List.find?_eq_none] at h
  exact h p hp (by simp [e])
theorem free_all {w : World} {mean : ExcName → Option Value} {mg mb : Str → Option Value} {dp un : Nat} {gd : Option (List Code)} {cn : Str} {cs : Scope} {a : Addr} {ccd : Value} {cl : List (Str × Addr)} {outer : List Env} {A₀ : Around} {base h₀ : Heap} {L : Addr} {m : Str → Option Value} {news : List (Addr × Obj)} {s : Shared} {Q E : Value → Shared → Prop}
    (B : Below A₀ base outer h₀) (F : Fr h₀ L s.heap m) (X : (hd.heap_39 w.params).In h₀) (N : News h₀ L s.heap news) (T : Top PP LL mean mg mb h₀) (hk : cs.kind = .function) (hdp : dp + 200 < recursionLimit) (hun : un + 2000 < cLine)
    {hp hx kd tp : Addr} {ko : Obj} {g : Int} {kvs : List (Ky × Value)} {h1 h2 h3 h4 h5 : Int} {t1 t2 t3 t4 t5 tg t0 : Tok} {n nn : Nat} {vs : List Value} {is : List Int}
    (lo : (kd == sysModules) = false) (hlen : kvs.length ≤ 100) (hd' : ko.IsDictOf (mixKind Prg w) kvs) (m1 : (hp, instObj 244 hx) ∈ news) (n1 : ∀ p ∈ news, p.1 ≠ hx) (n2 : ∀ p ∈ news, p.1 ≠ kd) (n3 : @LT.lt Nat _ hx kd) (htp : (tp, tupO vs nn) ∈ news) (hi : Ints vs is)
    (N1 : News h₀ L s.heap ((kd, ko) :: (hx, hpO h1 h2 h3 h4 h5 t1 t2 t3 t4 t5 kd g tg t0 n) :: news))
    (hret : ∀ h' tk' ko', ko'.IsDictOf (mixKind Prg w) (outs kvs is) → Fr h₀ L h' m →
      News h₀ L h' ((kd, ko') :: (hx, hpO h1 h2 h3 h4 h5 t1 t2 t3 t4 t5 kd g tg t0 n) :: news) → Q .none { s with heap := h', toks := tk' }) :
    wpAny (model Prg w) (ktrTop dp un gd cn cs L a ccd cl outer) (call (.ref 185) [.ref hp, .ref tp]) Q E s := by
  have hfill : (hd.heap_39 = hd.heap_39 ∧ PySem.Challenge.rw_pf0075_01 = PySem.Challenge.rw_pf0075_01) → True := by
    k_fill
    intro _; trivial
  clear hfill
  clear N
  refine wpAny_call ?_
  k_dflt cell_enter
  k_steps
  rename News _ _ _ _ => lN
  rename Fr _ _ _ (fun y => _) => lF
  refine iter_tupM (vs := vs) (n := nn) lF lN (fun m₀ k m' news' => ∃ ko', ko'.IsDictOf (mixKind Prg w) (outs kvs (is.take k)) ∧ news' = (kd, ko') :: (hx, hpO h1 h2 h3 h4 h5 t1 t2 t3 t4 t5 kd g tg t0 n) :: news ∧ ∀ y, y ≠ Str.ofString "number" → m' y = m₀ y) ⟨ko, hd', rfl, fun _ _ => rfl⟩ (fun i m news hJ => by obtain ⟨_, _, rfl, _⟩ := hJ; exact .tail _ (.tail _ htp)) ?_ ?_ rfl
  · intro I i vx m₁ news₁ h tk o hx' hJ hc F N hn
    obtain ⟨ko', d1, rfl, h4'⟩ := hJ
    obtain ⟨j, t, hj, rfl⟩ := hi.item hx'
    have hm := m_one _ h4'
    rw [hm] at F
    have hl : (outs kvs (is.take i)).length ≤ 100 := outs_len kvs _ hlen
    have hI : @Ne Nat I kd := fun e => hn _ (.head _) e.symm
    have hnx := outs_next (kvs := kvs) hj
    clear lF lN hm h4'
    cases e : valueAt (outs kvs (is.take i)) (.inl j) with
    | none =>
      rw [valueAt_none_mem e] at hnx
      k_steps
      rename Fr _ _ _ _ => lF
      rename News _ _ _ _ => lN
      exact EndJ.next lF lN _ (by k_mem) (fun p hp => by k_mem) hn ⟨ko', hnx ▸ d1, rfl, fun y a => by simp only [if_neg a]⟩
    | some v =>
      k_steps
      rename Fr _ _ _ _ => lF
      rename News _ _ _ _ => lN
      rename Obj.IsDictOf (mixKind _ _) _ (without _ _) => d2
      refine EndJ.next lF lN _ (.head _) (fun p hp => .tail _ hp) (fun p hp => ?_) ⟨_, hnx ▸ d2, rfl, fun y a => by simp only [if_neg a]⟩
      rcases List.mem_cons.mp hp with rfl | hp
      · exact fun q => hI q.symm
      · exact hn p (.tail _ hp)
  · intro m₁ news₁ h tk hJ F N
    obtain ⟨ko', d1, rfl, h4'⟩ := hJ
    have hm := m_one _ h4'
    rw [hm] at F
    rw [hi.1, List.take_length] at d1
    clear lF lN hm h4'
    k_steps
    rename Fr h₀ L _ m => kF
    rename News h₀ L _ _ => kN
    exact hret _ _ _ d1 kF kN
theorem drop_all {w : World} {mean : ExcName → Option Value} {mg mb : Str → Option Value} {dp un : Nat} {gd : Option (List Code)} {cn : Str} {cs : Scope} {a : Addr} {ccd : Value} {cl : List (Str × Addr)} {outer : List Env} {A₀ : Around} {base h₀ : Heap} {L : Addr} {m : Str → Option Value} {news : List (Addr × Obj)} {s : Shared} {Q E : Value → Shared → Prop}
    (B : Below A₀ base outer h₀) (F : Fr h₀ L s.heap m) (X : (hd.heap_39 w.params).In h₀) (N : News h₀ L s.heap news) (T : Top PP LL mean mg mb h₀) (hk : cs.kind = .function) (hdp : dp + 220 < recursionLimit) (hun : un + 2200 < cLine)
    {hp hx kd : Addr} {ko : Obj} {g i : Int} {kvs : List (Ky × Value)} {h1 h2 h3 h4 h5 : Int} {t1 t2 t3 t4 t5 tg t0 ti : Tok} {n : Nat}
    (lo : (kd == sysModules) = false) (hlen : kvs.length ≤ 100) (hd' : ko.IsDictOf (mixKind Prg w) kvs) (m1 : (hp, instObj 244 hx) ∈ news) (n1 : ∀ p ∈ news, p.1 ≠ hx) (n2 : ∀ p ∈ news, p.1 ≠ kd) (n3 : @LT.lt Nat _ hx kd)
    (N1 : News h₀ L s.heap ((kd, ko) :: (hx, hpO h1 h2 h3 h4 h5 t1 t2 t3 t4 t5 kd g tg t0 n) :: news))
    (hret : ∀ h' tk' ko', ko'.IsDictOf (mixKind Prg w) (outs kvs [i]) → Fr h₀ L h' m →
      News h₀ L h' ((kd, ko') :: (hx, hpO h1 h2 h3 h4 h5 t1 t2 t3 t4 t5 kd g tg t0 n) :: news) → Q .none { s with heap := h', toks := tk' }) :
    wpAny (model Prg w) (ktrTop dp un gd cn cs L a ccd cl outer) (call (.ref 192) [.ref hp, .int i ti]) Q E s := by
  have hfill : (hd.heap_39 = hd.heap_39 ∧ PySem.Challenge.rw_pf0075_01 = PySem.Challenge.rw_pf0075_01) → True := by
    k_fill
    intro _; trivial
  clear hfill
  clear N
  refine wpAny_call ?_
  k_dflt cell_enter
  iterate 15 (first | (k_unfold; (try dsimp only)) | walk1)
  rename News _ _ _ (_ :: _ :: _ :: news) => lN
  rename _ < _ ∧ _ < _ ∧ AllLt _ news => l1
  have l2 := l1.1
  have l3 := l1.2.1
  have N2 := News.perm (news' := (kd, ko) :: (hx, hpO h1 h2 h3 h4 h5 t1 t2 t3 t4 t5 kd g tg t0 n) :: (_, tupO [.int i ti] 0) :: news) lN (fun p hp => by
    rcases List.mem_cons.mp hp with rfl | hp
    · exact .tail _ (.head _)
    rcases List.mem_cons.mp hp with rfl | hp
    · exact .tail _ (.tail _ (.head _))
    rcases List.mem_cons.mp hp with rfl | hp
    · exact .head _
    · exact .tail _ (.tail _ (.tail _ hp)))
  clear N1
  refine' free_all (news := (_, tupO [.int i ti] 0) :: news) (is := [i]) ?B ?F ?X (fun p hp => N2 p (.tail _ (.tail _ hp))) ?T rfl ?d1 ?d2 lo hlen hd' (.tail _ m1) (fun p hp => ?n1) (fun p hp => ?n2) n3 (.head _) (ints_1 _ _) N2 ?ret
  case B => k_asm
  case F => k_asm
  case X => k_asm
  case T => k_asm
  case d1 => ktr_room
  case d2 => ktr_units
  case n1 =>
    rcases List.mem_cons.mp hp with rfl | hp
    · exact Nat.ne_of_gt l3
    · exact n1 p hp
  case n2 =>
    rcases List.mem_cons.mp hp with rfl | hp
    · exact Nat.ne_of_gt l2
    · exact n2 p hp
  intro h' tk' ko' d2 F' N'
  clear lN l1 N2
  k_steps
  rename Fr h₀ L _ m => kF
  rename News h₀ L _ _ => kN
  exact hret _ _ _ d2 kF (News.perm kN fun p hp => by
    rcases List.mem_cons.mp hp with rfl | hp
    · exact .head _
    rcases List.mem_cons.mp hp with rfl | hp
    · exact .tail _ (.head _)
    · exact .tail _ (.tail _ (.tail _ hp)))
end
theorem kw_M28 : True := by
  k_with_none
  k_with "exec Raise some none" => (k_here; refine Raise_any rfl ?_)
  k_with "mine fault_made" => (k_here; k_dflt (refine fault_made (by k_asm) (by k_asm) (by k_asm) (by k_asm) (by k_asm) (by rfl) (by ktr_room) (by ktr_units) ?_; k_whole; intros))
  k_with "call ref" => walk_at "mine fault_made"
  k_with "MadeThen" => (refine madeThen_intro (by k_asm) (by k_asm) (by k_asm) ?_)
  k_with "call builtin:len" => (k_here; (with_reducible show wpAny _ _ (call (Value.builtin "len") [Value.ref _]) _ _ _); k_dflt (refine len_T (by exact News.isTup (by k_asm) (by k_mem)) (by first | assumption | decide) ?_; k_whole))
  k_with "subscriptTail" => (k_here; (with_reducible show wpAny _ _ (subscriptTail _ _ (Value.ref _) (Value.int _ _)) _ _ _); k_dflt (refine item_tupleT (by exact News.isTup (by k_asm) (by k_mem)) (by first | decide | omega) (by first | decide | omega) (by first | rfl | assumption | exact seq0 _ _) (by first | rfl | assumption) ?_; k_whole))
  k_with "mine fail" => (intros; unfold FailP; intros; (try dsimp only))
  k_with "mine rep" => first | assumption | exact Rep.up (by assumption) (fun _ hq => by k_mem) | exact Rep.up (RowRep.item (by assumption) (by assumption)) (fun _ hq => by k_mem)
  k_with "mine inner_all" => (k_here; k_dflt (refine inner_all (by k_asm) (by k_asm) (by k_asm) (by k_asm) (by k_asm) (by rfl) (by ktr_room) (by ktr_units) (by walk_at "mine rep") ?_ ?_; intros; (try dsimp only); rotate_left 1; walk_at "mine fail"))
  k_with "call ref" => walk_at "mine inner_all"
  k_with "subscriptTail" => (k_here; (with_reducible show wpAny _ _ (subscriptTail _ _ (Value.ref _) (Value.int _ _)) _ _ _); k_dflt (refine item_litK (by exact News.isList (by k_asm) (by k_mem)) (by first | decide | omega) (by first | decide | omega) (by first | rfl | assumption) ?_ (by with_unfolding_all rfl); k_whole))
  k_with "mine cut" => first | (refine cut_to (by k_asm) (by k_asm) (by k_mem) (by first | assumption | omega) (by first | assumption | omega) (by first | assumption | omega) ?_ (by with_unfolding_all rfl) (by (intro _; with_unfolding_all rfl)); k_whole; intros; (try dsimp only)) | (refine cut_from (by k_asm) (by k_asm) (by k_mem) (by first | assumption | omega) (by first | assumption | omega) (by first | assumption | omega) ?_ (by with_unfolding_all rfl) (by (intro _; with_unfolding_all rfl)); k_whole; intros; (try dsimp only))
  k_with "subscriptTail Name Slice ref ref" => (k_here; k_dflt (walk_at "mine cut"))
  k_with "subscriptTail Subscript" => (k_here; (with_reducible show wpAny _ _ (subscriptTail _ _ (Value.ref _) (Value.ref _)) _ _ _); k_dflt (walk_at "mine cut"))
  k_with "binaryOp Add ref ref" => (k_here; k_dflt (refine add_T (by k_asm) (by k_asm) (by k_mem) (by k_mem) (by first | omega | (simp; done) | (simp; omega) | (simp only [List.length_append, List.length_take, List.length_drop, List.length_cons, List.length_nil]; omega)) ?_; k_whole); intros; (try dsimp only))
  k_with "mine notin" => (k_here; k_dflt (first | (refine mix_out (by k_asm) (by k_mem) (by assumption) (by assumption) (by assumption) (by assumption) ?_; k_whole) | (refine mix_in (by k_asm) (by k_mem) (by assumption) (by assumption) (by assumption) (by assumption) ?_; k_whole)))
  k_with "compareOp NotIn int ref" => walk_at "mine notin"
  k_with "compareOp NotIn str ref" => walk_at "mine notin"
  k_with "mine item" => (k_here; k_dflt (refine mix_item (by k_asm) (by k_mem) (by assumption) (by assumption) (by assumption) ?_ (by with_unfolding_all rfl) (by (intro _; with_unfolding_all rfl)); k_whole))
  k_with "subscriptTail" => walk_at "mine item"
  k_with "subscriptTail Attribute" => walk_at "mine item"
  k_with "compareOp Eq ref ref" => (k_here; k_dflt (refine eq_nil (by k_asm) (by k_mem) (by k_mem) (by ktr_units) ?_; k_whole); (try dsimp only [List.isEmpty]))
  k_with "call builtin:len" => (k_here; (with_reducible show wpAny _ _ (call (Value.builtin "len") [Value.ref _]) _ _ _); k_dflt (refine len_L (by k_asm) (by k_mem) (by first | assumption | decide) ?_; k_whole))
  k_with "mine fail0" => (unfold FailP; intros; (try dsimp only))
  k_with "mine setattr" => (k_here; k_dflt (refine set_dict (by k_asm) (by k_asm) (by k_asm) (by k_inst) (by exact rfl) (by k_is) (by k_is) (by k_is) (by k_is) (by k_get) (by exact rfl) (by k_upd) (by exact Nat.le_of_ble_eq_true rfl) ?_; k_whole; intros; (try k_sweep)))
  k_with "setAttr ref" => walk_at "mine setattr"
  k_with "noteFrame ref" => (k_here; k_dflt (refine caughtD (by assumption) (by assumption) (by assumption) (by assumption) (by assumption) (by assumption) (by exact KtsTurn.refl) (by k_is) (by kts_isx) ?_; k_whole); intros; (try k_fold))
  k_with "mine ask" => (k_here; k_dflt (refine AskSpec.use (by assumption) (by k_asm) (by k_asm) (by k_asm) (by k_asm) (by k_asm) (by rfl) (by ktr_room) (by ktr_units) ?_ ?_; intros; (try dsimp only); rotate_left 1; (intro k0; walk_at "mine fail")))
  k_with "call ref" => walk_at "mine ask"
  k_with "getAttr ref" => (k_here; (with_reducible show wpAny _ _ (getAttr (Value.ref _) (Str.ofString "kind") _) _ _ _); (rename Obj.cls _ = Value.ref 59 => hc59); k_dflt (refine get_kind (by k_asm) (by k_asm) (by k_asm) (by k_mem) (by k_mem) (by assumption) (by assumption) (by assumption) (by assumption) ?_; k_whole))
  k_with "mine mixset" => (k_here; k_dflt (refine mix_set (by k_asm) (by k_asm) (by k_updF) (by assumption) (by first | exact mix_int _ _ _ _ | exact mix_str _ _ _ _) (by assumption) ?_; k_whole); intro zh' zo' zF' zN' zhd'; (try dsimp only at zN'))
  k_with "mine copylist" => (k_here; (with_reducible show wpAny _ _ (call (Value.type "list") [Value.ref _]) _ _ _); k_dflt (refine copy_list (by k_asm) (by k_asm) (by k_mem) (by first | assumption | omega) ?_; k_whole); intro zD' zc' zh' zF' zN' zl1; (try k_lt zl1))
  k_with "call type:list" => walk_at "mine copylist"
  k_with "mine copytuple" => (k_here; (with_reducible show wpAny _ _ (call (Value.type "tuple") [Value.ref _]) _ _ _); k_dflt (refine copy_tuple (by k_asm) (by k_asm) (by k_mem) (by first | assumption | omega) ?_; k_whole); intro zD' zh' zF' zN' zl1; (try k_lt zl1))
  k_with "call type:tuple" => walk_at "mine copytuple"
  k_with "mine mixmeth" => (k_here; (with_reducible show wpAny _ _ (getMethod (Value.ref _) (Str.ofString "pop") _) _ _ _); k_dflt (refine kdl_method (K := Ky) (knd := mixKind _ _) PySem.F.slot_dict_pop PySem.F.type_dict_pop (by k_asm) (by k_mem) (by assumption) ?_; k_whole))
  k_with "getMethod ref" => walk_at "mine mixmeth"
  k_with "mine mixpop" => (k_here; k_dflt (refine mix_pop (by k_asm) (by k_asm) (by k_updF) (by assumption) (by first | exact mix_int _ _ _ _ | exact mix_str _ _ _ _) rfl (by assumption) (by assumption) ?_; k_whole); intro zh' zo' zF' zN' zhd'; (try dsimp only at zN'))
  k_with "call builtin:dict.pop" => walk_at "mine mixpop"
  k_with "mine mixin" => (k_here; k_dflt (first | (refine mix_has (by k_asm) (by k_mem) (by assumption) (by assumption) (by first | exact mix_int _ _ _ _ | exact mix_str _ _ _ _) (by assumption) ?_; k_whole) | (refine mix_hasnt (by k_asm) (by k_mem) (by assumption) (by assumption) (by first | exact mix_int _ _ _ _ | exact mix_str _ _ _ _) (by assumption) ?_; k_whole)))
  k_with "compareOp In int ref" => walk_at "mine mixin"
  k_with "compareOp In str ref" => walk_at "mine mixin"
  k_with "setItem ref int" => walk_at "mine mixset"
  k_with "setItem ref str" => walk_at "mine mixset"
  k_with "eval ListComp" => (k_here; k_dflt (refine comp_keys (by k_asm) (by with_unfolding_all rfl) (by decide) (by rfl) (by decide) (by rfl) ?_))
  trivial
section
theorem numbers_all {w : World} {mean : ExcName → Option Value} {mg mb : Str → Option Value} {dp un : Nat} {gd : Option (List Code)} {cn : Str} {cs : Scope} {a : Addr} {ccd : Value} {cl : List (Str × Addr)} {outer : List Env} {A₀ : Around} {base h₀ : Heap} {L : Addr} {m : Str → Option Value} {news : List (Addr × Obj)} {s : Shared} {Q E : Value → Shared → Prop}
    (B : Below A₀ base outer h₀) (F : Fr h₀ L s.heap m) (X : (hd.heap_39 w.params).In h₀) (N : News h₀ L s.heap news) (T : Top PP LL mean mg mb h₀) (hk : cs.kind = .function) (hdp : dp + 200 < recursionLimit) (hun : un + 2000 < cLine)
    {hp kd : Addr} {g : Int} {v1 v2 v3 v4 v5 : Value} (H : HeapAt w news hp kd g [(.inl 1, v1), (.inl 2, v2), (.inl 3, v3), (.inl 4, v4), (.inr (Str.ofString "main.x"), v5)])
    (hret : ∀ h' tk' r u1 u2 u3 u4 u5 n, Fr h₀ L h' m → News h₀ L h' ((r, listOf #[.int 1 u1, .int 2 u2, .int 3 u3, .int 4 u4, .str (Str.ofString "main.x") u5] n) :: news) → Q (.ref r) { s with heap := h', toks := tk' }) :
    wpAny (model Prg w) (ktrTop dp un gd cn cs L a ccd cl outer) (call (.ref 171) [.ref hp]) Q E s := by
  have hfill : (hd.heap_39 = hd.heap_39 ∧ PySem.Challenge.rw_pf0075_01 = PySem.Challenge.rw_pf0075_01) → True := by
    k_fill
    intro _; trivial
  clear hfill
  refine hide fun GG9 hG9 => ?_
  obtain ⟨lo, _, hx, d1, d2, d3, d4, d5, e1, e2, e3, e4, e5, tg, t0, np, ko, m1, m2, m3, hd'⟩ := id H
  refine hG9 ?_
  clear hG9 GG9
  refine wpAny_call ?_
  k_dflt cell_enter
  k_steps
  rename Fr _ _ _ (fun y => _) => lF
  rename News _ _ _ news => lN
  refine ⟨kd, ko, _, news, rfl, rfl, lF, lN, m3, hd', lo, by simp, ?_⟩
  intro s2 hs2
  obtain ⟨h2, rfl⟩ := hs2
  refine rest_keys (fun k => match k with | .inr _ => true | _ => false) m3 ?_ ?_ ?_ _ 0 [] (by simp) .nil
  · intro k v I oI C oC D oD m₂ h tk E' hk hC hx F1 N1
    clear lF lN
    rcases isKy_shape hk with ⟨i, t, rfl, rfl⟩ | ⟨y, t, rfl, rfl⟩
    all_goals k_steps
    all_goals exact TestIs.intro
  · intro k v I oI C oC D oD m₂ h tk E' hk hC hx F1 N1
    clear lF lN
    k_steps
    exact EltIs.intro
  intro ys hys
  obtain ⟨t1, rfl⟩ := keys_one hys
  intro D h3 tk3 F3 N3 off3
  clear lF lN
  k_steps
  refine' sorted_one (x := Str.ofString "main.x") (t := t1) (o := LCg.lst [.str (Str.ofString "main.x") t1]) ?F ?N ?m ⟨rfl, _, rfl⟩ ?_
  case F => exact F3
  case N => exact N3
  case m => exact .head _
  intro D2 t2 e2 h4 F4 N4
  replace N4 := News.drop2 N4
  clear N3 F3 off3
  k_steps
  rename Fr _ _ _ (fun y => _) => lF
  rename News _ _ _ (_ :: news) => lN
  refine ⟨kd, ko, _, _, rfl, rfl, lF, lN, .tail _ m3, hd', lo, by simp, ?_⟩
  intro s5 hs5
  obtain ⟨h5, rfl⟩ := hs5
  refine rest_keys (fun k => match k with | .inr _ => false | _ => true) (.tail _ m3) ?_ ?_ ?_ _ 0 [] (by simp) .nil
  · intro k v I oI C oC D oD m₂ h tk E' hk hC hx F1 N1
    clear lF lN
    rcases isKy_shape hk with ⟨i, t, rfl, rfl⟩ | ⟨y, t, rfl, rfl⟩
    all_goals k_steps
    all_goals exact TestIs.intro
  · intro k v I oI C oC D oD m₂ h tk E' hk hC hx F1 N1
    clear lF lN
    k_steps
    exact EltIs.intro
  intro ys hys
  refine hide fun GG9 hG9 => ?_
  obtain ⟨u1, u2, u3, u4, rfl⟩ := keys_four hys
  refine hG9 ?_
  clear hG9 GG9
  intro D6 h6 tk6 F6 N6 off6
  clear lF lN
  walk1
  refine' sorted_up (vs := [.int 1 u1, .int 2 u2, .int 3 u3, .int 4 u4]) (o := LCg.lst [.int 1 u1, .int 2 u2, .int 3 u3, .int 4 u4]) ?F ?N ?m ⟨rfl, _, rfl⟩ (.cons _ _ (.cons _ _ (.cons _ _ (.cons _ _ .nil)))) (by decide) (by decide) ?_
  case F => exact F6
  case N => exact N6
  case m => exact .head _
  intro D7 vs7 e7 h7 hI F7 N7
  refine hide fun GG9 hG9 => ?_
  obtain ⟨w1, w2, w3, w4, rfl⟩ := ints_of_four hI
  refine hG9 ?_
  clear hG9 GG9
  replace N7 := News.drop2 N7
  clear N6 F6 off6
  k_steps
  rename Fr h₀ L _ m => kF
  rename News h₀ L _ (_ :: _) => kN
  exact hret _ _ _ _ _ _ _ _ _ kF (News.perm kN fun p hp => by
    rcases List.mem_cons.mp hp with rfl | hp
    · exact .head _
    · k_mem)
end
theorem kw_M29 : True := by
  k_with_none
  k_with "exec Raise some none" => (k_here; refine Raise_any rfl ?_)
  k_with "mine fault_made" => (k_here; k_dflt (refine fault_made (by k_asm) (by k_asm) (by k_asm) (by k_asm) (by k_asm) (by rfl) (by ktr_room) (by ktr_units) ?_; k_whole; intros))
  k_with "call ref" => walk_at "mine fault_made"
  k_with "MadeThen" => (refine madeThen_intro (by k_asm) (by k_asm) (by k_asm) ?_)
  k_with "call builtin:len" => (k_here; (with_reducible show wpAny _ _ (call (Value.builtin "len") [Value.ref _]) _ _ _); k_dflt (refine len_T (by exact News.isTup (by k_asm) (by k_mem)) (by first | assumption | decide) ?_; k_whole))
  k_with "subscriptTail" => (k_here; (with_reducible show wpAny _ _ (subscriptTail _ _ (Value.ref _) (Value.int _ _)) _ _ _); k_dflt (refine item_tupleT (by exact News.isTup (by k_asm) (by k_mem)) (by first | decide | omega) (by first | decide | omega) (by first | rfl | assumption | exact seq0 _ _) (by first | rfl | assumption) ?_; k_whole))
  k_with "mine fail" => (intros; unfold FailP; intros; (try dsimp only))
  k_with "mine rep" => first | assumption | exact Rep.up (by assumption) (fun _ hq => by k_mem) | exact Rep.up (RowRep.item (by assumption) (by assumption)) (fun _ hq => by k_mem)
  k_with "mine inner_all" => (k_here; k_dflt (refine inner_all (by k_asm) (by k_asm) (by k_asm) (by k_asm) (by k_asm) (by rfl) (by ktr_room) (by ktr_units) (by walk_at "mine rep") ?_ ?_; intros; (try dsimp only); rotate_left 1; walk_at "mine fail"))
  k_with "call ref" => walk_at "mine inner_all"
  k_with "subscriptTail" => (k_here; (with_reducible show wpAny _ _ (subscriptTail _ _ (Value.ref _) (Value.int _ _)) _ _ _); k_dflt (refine item_litK (by exact News.isList (by k_asm) (by k_mem)) (by first | decide | omega) (by first | decide | omega) (by first | rfl | assumption) ?_ (by with_unfolding_all rfl); k_whole))
  k_with "mine cut" => first | (refine cut_to (by k_asm) (by k_asm) (by k_mem) (by first | assumption | omega) (by first | assumption | omega) (by first | assumption | omega) ?_ (by with_unfolding_all rfl) (by (intro _; with_unfolding_all rfl)); k_whole; intros; (try dsimp only)) | (refine cut_from (by k_asm) (by k_asm) (by k_mem) (by first | assumption | omega) (by first | assumption | omega) (by first | assumption | omega) ?_ (by with_unfolding_all rfl) (by (intro _; with_unfolding_all rfl)); k_whole; intros; (try dsimp only))
  k_with "subscriptTail Name Slice ref ref" => (k_here; k_dflt (walk_at "mine cut"))
  k_with "subscriptTail Subscript" => (k_here; (with_reducible show wpAny _ _ (subscriptTail _ _ (Value.ref _) (Value.ref _)) _ _ _); k_dflt (walk_at "mine cut"))
  k_with "binaryOp Add ref ref" => (k_here; k_dflt (refine add_T (by k_asm) (by k_asm) (by k_mem) (by k_mem) (by first | omega | (simp; done) | (simp; omega) | (simp only [List.length_append, List.length_take, List.length_drop, List.length_cons, List.length_nil]; omega)) ?_; k_whole); intros; (try dsimp only))
  k_with "mine notin" => (k_here; k_dflt (first | (refine mix_out (by k_asm) (by k_mem) (by assumption) (by assumption) (by assumption) (by assumption) ?_; k_whole) | (refine mix_in (by k_asm) (by k_mem) (by assumption) (by assumption) (by assumption) (by assumption) ?_; k_whole)))
  k_with "compareOp NotIn int ref" => walk_at "mine notin"
  k_with "compareOp NotIn str ref" => walk_at "mine notin"
  k_with "mine item" => (k_here; k_dflt (refine mix_item (by k_asm) (by k_mem) (by assumption) (by assumption) (by assumption) ?_ (by with_unfolding_all rfl) (by (intro _; with_unfolding_all rfl)); k_whole))
  k_with "subscriptTail" => walk_at "mine item"
  k_with "subscriptTail Attribute" => walk_at "mine item"
  k_with "compareOp Eq ref ref" => (k_here; k_dflt (refine eq_nil (by k_asm) (by k_mem) (by k_mem) (by ktr_units) ?_; k_whole); (try dsimp only [List.isEmpty]))
  k_with "call builtin:len" => (k_here; (with_reducible show wpAny _ _ (call (Value.builtin "len") [Value.ref _]) _ _ _); k_dflt (refine len_L (by k_asm) (by k_mem) (by first | assumption | decide) ?_; k_whole))
  k_with "mine fail0" => (unfold FailP; intros; (try dsimp only))
  k_with "mine kept_ok" => (k_here; k_dflt (refine kept_ok (by k_asm) (by k_asm) (by k_asm) (by k_asm) (by k_asm) (by rfl) (by ktr_room) (by ktr_units) (by first | assumption | exact HeapAt.up (by assumption) (fun _ hq => by k_mem)) (by assumption) (by assumption) ?_; intros; (try dsimp only)))
  k_with "call ref" => walk_at "mine kept_ok"
  k_with "mine kept_no" => (k_here; k_dflt (refine kept_no (by k_asm) (by k_asm) (by k_asm) (by k_asm) (by k_asm) (by rfl) (by ktr_room) (by ktr_units) (by first | assumption | exact HeapAt.up (by assumption) (fun _ hq => by k_mem)) (by assumption) (by assumption) ?_; walk_at "mine fail0"))
  k_with "call ref" => walk_at "mine kept_no"
  k_with "mine setattr" => (k_here; k_dflt (refine set_dict (by k_asm) (by k_asm) (by k_asm) (by k_inst) (by exact rfl) (by k_is) (by k_is) (by k_is) (by k_is) (by k_get) (by exact rfl) (by k_upd) (by exact Nat.le_of_ble_eq_true rfl) ?_; k_whole; intros; (try k_sweep)))
  k_with "setAttr ref" => walk_at "mine setattr"
  k_with "noteFrame ref" => (k_here; k_dflt (refine caughtD (by assumption) (by assumption) (by assumption) (by assumption) (by assumption) (by assumption) (by exact KtsTurn.refl) (by k_is) (by kts_isx) ?_; k_whole); intros; (try k_fold))
  k_with "mine ask" => (k_here; k_dflt (refine AskSpec.use (by assumption) (by k_asm) (by k_asm) (by k_asm) (by k_asm) (by k_asm) (by rfl) (by ktr_room) (by ktr_units) ?_ ?_; intros; (try dsimp only); rotate_left 1; (intro k0; walk_at "mine fail")))
  k_with "call ref" => walk_at "mine ask"
  k_with "getAttr ref" => (k_here; (with_reducible show wpAny _ _ (getAttr (Value.ref _) (Str.ofString "kind") _) _ _ _); (rename Obj.cls _ = Value.ref 59 => hc59); k_dflt (refine get_kind (by k_asm) (by k_asm) (by k_asm) (by k_mem) (by k_mem) (by assumption) (by assumption) (by assumption) (by assumption) ?_; k_whole))
  k_with "mine mixset" => (k_here; k_dflt (refine mix_set (by k_asm) (by k_asm) (by k_updF) (by assumption) (by first | exact mix_int _ _ _ _ | exact mix_str _ _ _ _) (by assumption) ?_; k_whole); intro zh' zo' zF' zN' zhd'; (try dsimp only at zN'))
  k_with "mine copylist" => (k_here; (with_reducible show wpAny _ _ (call (Value.type "list") [Value.ref _]) _ _ _); k_dflt (refine copy_list (by k_asm) (by k_asm) (by k_mem) (by first | assumption | omega) ?_; k_whole); intro zD' zc' zh' zF' zN' zl1; (try k_lt zl1))
  k_with "call type:list" => walk_at "mine copylist"
  k_with "mine copytuple" => (k_here; (with_reducible show wpAny _ _ (call (Value.type "tuple") [Value.ref _]) _ _ _); k_dflt (refine copy_tuple (by k_asm) (by k_asm) (by k_mem) (by first | assumption | omega) ?_; k_whole); intro zD' zh' zF' zN' zl1; (try k_lt zl1))
  k_with "call type:tuple" => walk_at "mine copytuple"
  k_with "mine mixmeth" => (k_here; (with_reducible show wpAny _ _ (getMethod (Value.ref _) (Str.ofString "pop") _) _ _ _); k_dflt (refine kdl_method (K := Ky) (knd := mixKind _ _) PySem.F.slot_dict_pop PySem.F.type_dict_pop (by k_asm) (by k_mem) (by assumption) ?_; k_whole))
  k_with "getMethod ref" => walk_at "mine mixmeth"
  k_with "mine mixpop" => (k_here; k_dflt (refine mix_pop (by k_asm) (by k_asm) (by k_updF) (by assumption) (by first | exact mix_int _ _ _ _ | exact mix_str _ _ _ _) rfl (by assumption) (by assumption) ?_; k_whole); intro zh' zo' zF' zN' zhd'; (try dsimp only at zN'))
  k_with "call builtin:dict.pop" => walk_at "mine mixpop"
  k_with "mine mixin" => (k_here; k_dflt (first | (refine mix_has (by k_asm) (by k_mem) (by assumption) (by assumption) (by first | exact mix_int _ _ _ _ | exact mix_str _ _ _ _) (by assumption) ?_; k_whole) | (refine mix_hasnt (by k_asm) (by k_mem) (by assumption) (by assumption) (by first | exact mix_int _ _ _ _ | exact mix_str _ _ _ _) (by assumption) ?_; k_whole)))
  k_with "compareOp In int ref" => walk_at "mine mixin"
  k_with "compareOp In str ref" => walk_at "mine mixin"
  k_with "setItem ref int" => walk_at "mine mixset"
  k_with "setItem ref str" => walk_at "mine mixset"
  trivial
section
theorem content_all {w : World} {mean : ExcName → Option Value} {mg mb : Str → Option Value} {dp un : Nat} {gd : Option (List Code)} {cn : Str} {cs : Scope} {a : Addr} {ccd : Value} {cl : List (Str × Addr)} {outer : List Env} {A₀ : Around} {base h₀ : Heap} {L : Addr} {m : Str → Option Value} {news : List (Addr × Obj)} {s : Shared} {Q E : Value → Shared → Prop}
    (B : Below A₀ base outer h₀) (F : Fr h₀ L s.heap m) (X : (hd.heap_39 w.params).In h₀) (N : News h₀ L s.heap news) (T : Top PP LL mean mg mb h₀) (hk : cs.kind = .function) (hdp : dp + 250 < recursionLimit) (hun : un + 1500 < cLine)
    {hp kd k dk : Addr} {g : Int} {kvs : List (Ky × Value)} {key : Ky} {num c : Value} {kind : Str} (H : HeapAt w news hp kd g kvs) (hn : isKy key num = true) (hv : valueAt kvs key = some (.ref k)) (ha : KeptAt news k dk kind c) (hc : (∃ x, c = .ref x) ∨ ∃ i t, c = .int i t)
    (hret : ∀ h' tk', Fr h₀ L h' m → News h₀ L h' news → Q c { s with heap := h', toks := tk' }) :
    wpAny (model Prg w) (ktrTop dp un gd cn cs L a ccd cl outer) (call (.ref 166) [.ref hp, num]) Q E s := by
  have hfill : (hd.heap_39 = hd.heap_39 ∧ PySem.Challenge.rw_pf0075_01 = PySem.Challenge.rw_pf0075_01) → True := by
    k_fill
    intro _; trivial
  clear hfill
  refine hide fun GG9 hG9 => ?_
  obtain ⟨_, _, hx, d1, d2, d3, d4, d5, e1, e2, e3, e4, e5, tg, t0, np, hko', m1, m2, _, _⟩ := id H
  refine hG9 ?_
  clear hG9 GG9
  refine hide fun GG9 hG9 => ?_
  obtain ⟨a1, a2, a3, b1, b2, b3, tk, wh, nn, c1, c2⟩ := id ha
  refine hG9 ?_
  clear hG9 GG9
  rcases hc with ⟨x, rfl⟩ | ⟨i, t, rfl⟩
  all_goals refine wpAny_call ?_
  all_goals k_dflt cell_enter
  all_goals k_steps
  all_goals rename Fr h₀ L _ m => kF
  all_goals exact hret _ _ kF (by assumption)
theorem kind_all {w : World} {mean : ExcName → Option Value} {mg mb : Str → Option Value} {dp un : Nat} {gd : Option (List Code)} {cn : Str} {cs : Scope} {a : Addr} {ccd : Value} {cl : List (Str × Addr)} {outer : List Env} {A₀ : Around} {base h₀ : Heap} {L : Addr} {m : Str → Option Value} {news : List (Addr × Obj)} {s : Shared} {Q E : Value → Shared → Prop}
    (B : Below A₀ base outer h₀) (F : Fr h₀ L s.heap m) (X : (hd.heap_39 w.params).In h₀) (N : News h₀ L s.heap news) (T : Top PP LL mean mg mb h₀) (hk : cs.kind = .function) (hdp : dp + 250 < recursionLimit) (hun : un + 1500 < cLine)
    {hp kd k dk : Addr} {g : Int} {kvs : List (Ky × Value)} {key : Ky} {num c : Value} {kind : Str} (H : HeapAt w news hp kd g kvs) (hn : isKy key num = true) (hv : valueAt kvs key = some (.ref k)) (ha : KeptAt news k dk kind c)
    (hret : ∀ h' tk' t, Fr h₀ L h' m → News h₀ L h' news → Q (.str kind t) { s with heap := h', toks := tk' }) :
    wpAny (model Prg w) (ktrTop dp un gd cn cs L a ccd cl outer) (call (.ref 159) [.ref hp, num]) Q E s := by
  have hfill : (hd.heap_39 = hd.heap_39 ∧ PySem.Challenge.rw_pf0075_01 = PySem.Challenge.rw_pf0075_01) → True := by
    k_fill
    intro _; trivial
  clear hfill
  refine hide fun GG9 hG9 => ?_
  obtain ⟨_, _, hx, d1, d2, d3, d4, d5, e1, e2, e3, e4, e5, tg, t0, np, hko', m1, m2, _, _⟩ := id H
  refine hG9 ?_
  clear hG9 GG9
  refine hide fun GG9 hG9 => ?_
  obtain ⟨a1, a2, a3, b1, b2, b3, tk, wh, nn, c1, c2⟩ := id ha
  refine hG9 ?_
  clear hG9 GG9
  refine wpAny_call ?_
  k_dflt cell_enter
  k_steps
  rename Fr h₀ L _ m => kF
  exact hret _ _ _ kF (by assumption)
theorem values_all {w : World} {mean : ExcName → Option Value} {mg mb : Str → Option Value} {dp un : Nat} {gd : Option (List Code)} {cn : Str} {cs : Scope} {a : Addr} {ccd : Value} {cl : List (Str × Addr)} {outer : List Env} {A₀ : Around} {base h₀ : Heap} {L : Addr} {m : Str → Option Value} {news : List (Addr × Obj)} {s : Shared} {Q E : Value → Shared → Prop}
    (B : Below A₀ base outer h₀) (F : Fr h₀ L s.heap m) (X : (hd.heap_39 w.params).In h₀) (N : News h₀ L s.heap news) (T : Top PP LL mean mg mb h₀) (hk : cs.kind = .function) (hdp : dp + 250 < recursionLimit) (hun : un + 1500 < cLine)
    {hp kd k dk lr : Addr} {g : Int} {kvs : List (Ky × Value)} {key : Ky} {num : Value} {vs : List Value} {n : Nat} (H : HeapAt w news hp kd g kvs) (hn : isKy key num = true) (hv : valueAt kvs key = some (.ref k)) (ha : KeptAt news k dk (Str.ofString "row") (.ref lr)) (hl : (lr, listOf vs.toArray n) ∈ news) (hz : vs.length ≤ 900)
    (hret : ∀ h' tk' r n', Fr h₀ L h' m → News h₀ L h' ((r, listOf vs.toArray n') :: news) → Q (.ref r) { s with heap := h', toks := tk' }) :
    wpAny (model Prg w) (ktrTop dp un gd cn cs L a ccd cl outer) (call (.ref 178) [.ref hp, num]) Q E s := by
  have hfill : (hd.heap_39 = hd.heap_39 ∧ PySem.Challenge.rw_pf0075_01 = PySem.Challenge.rw_pf0075_01) → True := by
    k_fill
    intro _; trivial
  clear hfill
  refine hide fun GG9 hG9 => ?_
  obtain ⟨_, _, hx, d1, d2, d3, d4, d5, e1, e2, e3, e4, e5, tg, t0, np, hko', m1, m2, _, _⟩ := id H
  refine hG9 ?_
  clear hG9 GG9
  refine hide fun GG9 hG9 => ?_
  obtain ⟨a1, a2, a3, b1, b2, b3, tk, wh, nn, c1, c2⟩ := id ha
  refine hG9 ?_
  clear hG9 GG9
  refine wpAny_call ?_
  k_dflt cell_enter
  k_steps
  rename Fr h₀ L _ m => kF
  exact hret _ _ _ _ kF (by assumption)
end
section
/-- the first `n` lie above all that follows -/
def OrdP (hx kd : Addr) : Nat → List (Addr × Obj) → Prop
  | 0, _ => True
  | _ + 1, [] => True
  | n + 1, p :: r => AllLt p.1 r ∧ @LT.lt Nat _ hx p.1 ∧ @LT.lt Nat _ kd p.1 ∧ OrdP hx kd n r
/-- the heap while it is built -/
structure Ph (w : World) (hp hx kd : Addr) (g : Int) (kvs : List (Ky × Value)) (no : Nat) (rest all : List (Addr × Obj)) : Prop where
  ord : OrdP hx kd no rest
  lo : (kd == sysModules) = false
  lt : @LT.lt Nat _ hx kd
  len : kvs.length ≤ 50
  obj : ∃ h1 h2 h3 h4 h5 t1 t2 t3 t4 t5 tg t0 n ko, (hx, hpO h1 h2 h3 h4 h5 t1 t2 t3 t4 t5 kd g tg t0 n) ∈ all ∧ (kd, ko) ∈ all ∧ ko.IsDictOf (mixKind Prg w) kvs
  hp_ : (hp, instObj 244 hx) ∈ rest
  sub : ∀ p ∈ rest, p ∈ all
  n1 : ∀ p ∈ rest, p.1 ≠ hx
  n2 : ∀ p ∈ rest, p.1 ≠ kd
theorem Ph.use {w : World} {hp hx kd : Addr} {g : Int} {kvs : List (Ky × Value)} {rest all : List (Addr × Obj)} {no : Nat} {C : Prop} (P : Ph w hp hx kd g kvs no rest all) (h : ∀ h1 h2 h3 h4 h5 t1 t2 t3 t4 t5 tg t0 n, (hx, hpO h1 h2 h3 h4 h5 t1 t2 t3 t4 t5 kd g tg t0 n) ∈ all → C) : C := by
  obtain ⟨_, _, _, _, _, _, _, _, _, _, _, _, _, _, m, _, _⟩ := P.obj
  exact h _ _ _ _ _ _ _ _ _ _ _ _ _ m
theorem HeapAt.use {w : World} {news : List (Addr × Obj)} {hp kd : Addr} {g : Int} {kvs : List (Ky × Value)} {C : Prop} (H : HeapAt w news hp kd g kvs) (h : ∀ hx h1 h2 h3 h4 h5 t1 t2 t3 t4 t5 tg t0 n, (hp, instObj 244 hx) ∈ news → (hx, hpO h1 h2 h3 h4 h5 t1 t2 t3 t4 t5 kd g tg t0 n) ∈ news → C) : C := by
  obtain ⟨_, _, _, _, _, _, _, _, _, _, _, _, _, _, _, m1, m2, _, _⟩ := H.of
  exact h _ _ _ _ _ _ _ _ _ _ _ _ _ _ m1 m2
theorem Ph.cons {w : World} {hp hx kd : Addr} {g : Int} {kvs : List (Ky × Value)} {rest all : List (Addr × Obj)} {no : Nat} (P : Ph w hp hx kd g kvs no rest all) {x : Addr × Obj} (l : ∀ p ∈ all, p.1 < x.1) : Ph w hp hx kd g kvs (no + 1) (x :: rest) (x :: all) := by
  obtain ⟨hord, lo, lt, len, ⟨h1, h2, h3, h4, h5, t1, t2, t3, t4, t5, tg, t0, n, ko, m1, m2, hd⟩, hh, sub, n1, n2⟩ := P
  refine ⟨⟨allLt_of fun q hq => l q (sub q hq), l _ m1, l _ m2, hord⟩, lo, lt, len, ⟨h1, h2, h3, h4, h5, t1, t2, t3, t4, t5, tg, t0, n, ko, .tail _ m1, .tail _ m2, hd⟩, .tail _ hh, fun p hp => ?_, fun p hp => ?_, fun p hp => ?_⟩
  · rcases List.mem_cons.mp hp with rfl | hp
    · exact .head _
    · exact .tail _ (sub p hp)
  · rcases List.mem_cons.mp hp with rfl | hp
    · exact Nat.ne_of_gt (l _ m1)
    · exact n1 p hp
  · rcases List.mem_cons.mp hp with rfl | hp
    · exact Nat.ne_of_gt (l _ m2)
    · exact n2 p hp
theorem Ph.front {w : World} {hp hx kd : Addr} {g : Int} {kvs : List (Ky × Value)} {rest all : List (Addr × Obj)} {no : Nat} (_P : Ph w hp hx kd g kvs no rest all) {h₀ h : Heap} {L : Addr} (N : News h₀ L h all) {o1 o2 : Obj} (m1 : (hx, o1) ∈ all) (m2 : (kd, o2) ∈ all) (sub : ∀ p ∈ rest, p ∈ all) : News h₀ L h ((kd, o2) :: (hx, o1) :: rest) := News.perm N fun p hp => by
  rcases List.mem_cons.mp hp with rfl | hp
  · exact m2
  rcases List.mem_cons.mp hp with rfl | hp
  · exact m1
  · exact sub p hp
theorem Ph.of {w : World} {hp hx kd : Addr} {g : Int} {kvs : List (Ky × Value)} {rest : List (Addr × Obj)} {h1 h2 h3 h4 h5 : Int} {t1 t2 t3 t4 t5 tg t0 : Tok} {n no : Nat} {ko : Obj} (hord : OrdP hx kd no rest) (lo : (kd == sysModules) = false) (lt : @LT.lt Nat _ hx kd) (len : kvs.length ≤ 50) (hd : ko.IsDictOf (mixKind Prg w) kvs) (hh : (hp, instObj 244 hx) ∈ rest) (n1 : ∀ p ∈ rest, p.1 ≠ hx) (n2 : ∀ p ∈ rest, p.1 ≠ kd) :
    Ph w hp hx kd g kvs no rest ((kd, ko) :: (hx, hpO h1 h2 h3 h4 h5 t1 t2 t3 t4 t5 kd g tg t0 n) :: rest) :=
  ⟨hord, lo, lt, len, ⟨h1, h2, h3, h4, h5, t1, t2, t3, t4, t5, tg, t0, n, ko, .tail _ (.head _), .head _, hd⟩, hh, fun p hp => .tail _ (.tail _ hp), n1, n2⟩
theorem two_ne {x y : Addr × Obj} {c : Addr} {rest : List (Addr × Obj)} (h1 : x.1 ≠ c) (h2 : y.1 ≠ c) (h : ∀ p ∈ rest, p.1 ≠ c) : ∀ p ∈ x :: y :: rest, p.1 ≠ c := fun p hp => by
  rcases List.mem_cons.mp hp with rfl | hp
  · exact h1
  rcases List.mem_cons.mp hp with rfl | hp
  · exact h2
  · exact h p hp
theorem two_ord {hx kd k dk : Addr} {o o' : Obj} {no : Nat} {rest : List (Addr × Obj)} (l1 : ∀ p ∈ rest, p.1 < dk) (l2 : @LT.lt Nat _ hx dk) (l3 : @LT.lt Nat _ kd dk) (l4 : @LT.lt Nat _ dk k) (h : OrdP hx kd no rest) : OrdP hx kd (no + 1 + 1) ((k, o) :: (dk, o') :: rest) :=
  ⟨⟨l4, allLt_of fun q hq => Nat.lt_trans (l1 q hq) l4⟩, Nat.lt_trans l2 l4, Nat.lt_trans l3 l4, allLt_of l1, l2, l3, h⟩
theorem new_P {w : World} {mean : ExcName → Option Value} {mg mb : Str → Option Value} {dp un : Nat} {gd : Option (List Code)} {cn : Str} {cs : Scope} {a : Addr} {ccd : Value} {cl : List (Str × Addr)} {outer : List Env} {A₀ : Around} {base h₀ : Heap} {L : Addr} {m : Str → Option Value} {news : List (Addr × Obj)} {s : Shared} {Q E : Value → Shared → Prop}
    (B : Below A₀ base outer h₀) (F : Fr h₀ L s.heap m) (X : (hd.heap_39 w.params).In h₀) (N : News h₀ L s.heap news) (T : Top PP LL mean mg mb h₀) (hk : cs.kind = .function) (hdp : dp + 220 < recursionLimit) (hun : un + 2200 < cLine)
    (hret : ∀ h' tk' hp hx kd all, Ph w hp hx kd 0 [] 0 ((hp, instObj 244 hx) :: news) all → Fr h₀ L h' m → News h₀ L h' all → Q (.ref hp) { s with heap := h', toks := tk' }) :
    wpAny (model Prg w) (ktrTop dp un gd cn cs L a ccd cl outer) (call (.ref 244) []) Q E s :=
  heap_new B F X N T hk (by omega) (by omega) fun h' tk' hp hx kd ko h1 h2 h3 h4 h5 t1 t2 t3 t4 t5 tg t0 n lo n3 hd n1 n2 F' N' => hret h' tk' hp hx kd _ (Ph.of (no := 0) trivial lo n3 (by simp) hd (.head _) n1 (fun p hp => n2 p (.tail _ hp))) F' N'
theorem make_P {w : World} {mean : ExcName → Option Value} {mg mb : Str → Option Value} {dp un : Nat} {gd : Option (List Code)} {cn : Str} {cs : Scope} {a : Addr} {ccd : Value} {cl : List (Str × Addr)} {outer : List Env} {A₀ : Around} {base h₀ : Heap} {L : Addr} {m : Str → Option Value} {news : List (Addr × Obj)} {s : Shared} {Q E : Value → Shared → Prop}
    (B : Below A₀ base outer h₀) (F : Fr h₀ L s.heap m) (X : (hd.heap_39 w.params).In h₀) (N : News h₀ L s.heap news) (T : Top PP LL mean mg mb h₀) (hk : cs.kind = .function) (hdp : dp + 220 < recursionLimit) (hun : un + 2200 < cLine)
    {hp hx kd : Addr} {g : Int} {kvs : List (Ky × Value)} {rest : List (Addr × Obj)} {kind : Str} {tk : Tok} {c : Value} {no : Nat} (P : Ph w hp hx kd g kvs no rest news) (hl : kvs.length ≤ 40) (hg0 : 0 ≤ g) (hg1 : g < 1000) (hnew : valueAt kvs (.inl (g + 1)) = none)
    (hret : ∀ h' tk' k dk a1 a2 a3 b1 b2 b3 wh nk u all, (∀ p ∈ rest, p.1 < dk) → @LT.lt Nat _ hx dk → @LT.lt Nat _ kd dk → @LT.lt Nat _ dk k → Ph w hp hx kd (g + 1) (stored kvs (.inl (g + 1)) (.ref k)) (no + 1 + 1) ((k, instObj 106 dk) :: (dk, kpO a1 a2 a3 b1 b2 b3 kind tk c wh nk) :: rest) all → Fr h₀ L h' m → News h₀ L h' all → Q (.int (g + 1) u) { s with heap := h', toks := tk' }) :
    wpAny (model Prg w) (ktrTop dp un gd cn cs L a ccd cl outer) (call (.ref 138) [.ref hp, .str kind tk, c]) Q E s := by
  obtain ⟨h1, h2, h3, h4, h5, t1, t2, t3, t4, t5, tg, t0, n, ko, m1, m2, hd'⟩ := P.obj
  have N1 := P.front N m1 m2 P.sub
  refine make_all B F X (News.perm N P.sub) T hk (by omega) (by omega) P.lo (by omega) hd' P.hp_ P.n1 P.n2 P.lt hg0 hg1 hnew N1 fun h' tk' k dk ko' a1 a2 a3 b1 b2 b3 wh nk u tg' n' l1 l2 l3 l4 hd2 F' N' => ?_
  exact hret h' tk' k dk a1 a2 a3 b1 b2 b3 wh nk u _ l1 l2 l3 l4 (Ph.of (two_ord l1 l2 l3 l4 P.ord) P.lo P.lt (Nat.le_trans (stored_length_le _ _ _) (by omega)) hd2 (.tail _ (.tail _ P.hp_)) (two_ne (Nat.ne_of_gt (Nat.lt_trans l2 l4)) (Nat.ne_of_gt l2) P.n1) (two_ne (Nat.ne_of_gt (Nat.lt_trans l3 l4)) (Nat.ne_of_gt l3) P.n2)) F' N'
theorem named_P {w : World} {mean : ExcName → Option Value} {mg mb : Str → Option Value} {dp un : Nat} {gd : Option (List Code)} {cn : Str} {cs : Scope} {a : Addr} {ccd : Value} {cl : List (Str × Addr)} {outer : List Env} {A₀ : Around} {base h₀ : Heap} {L : Addr} {m : Str → Option Value} {news : List (Addr × Obj)} {s : Shared} {Q E : Value → Shared → Prop}
    (B : Below A₀ base outer h₀) (F : Fr h₀ L s.heap m) (X : (hd.heap_39 w.params).In h₀) (N : News h₀ L s.heap news) (T : Top PP LL mean mg mb h₀) (hk : cs.kind = .function) (hdp : dp + 220 < recursionLimit) (hun : un + 2200 < cLine)
    {hp hx kd : Addr} {g : Int} {kvs : List (Ky × Value)} {rest : List (Addr × Obj)} {path : Str} {tk : Tok} {c : Value} {no : Nat} (P : Ph w hp hx kd g kvs no rest news) (hl : kvs.length ≤ 40)
    (hret : ∀ h' tk' k dk a1 a2 a3 b1 b2 b3 tv wh nk all, (∀ p ∈ rest, p.1 < dk) → @LT.lt Nat _ hx dk → @LT.lt Nat _ kd dk → @LT.lt Nat _ dk k → Ph w hp hx kd g (stored kvs (.inr path) (.ref k)) (no + 1 + 1) ((k, instObj 106 dk) :: (dk, kpO a1 a2 a3 b1 b2 b3 (Str.ofString "var") tv c wh nk) :: rest) all → Fr h₀ L h' m → News h₀ L h' all → Q .none { s with heap := h', toks := tk' }) :
    wpAny (model Prg w) (ktrTop dp un gd cn cs L a ccd cl outer) (call (.ref 145) [.ref hp, .str path tk, c]) Q E s := by
  obtain ⟨h1, h2, h3, h4, h5, t1, t2, t3, t4, t5, tg, t0, n, ko, m1, m2, hd'⟩ := P.obj
  have N1 := P.front N m1 m2 P.sub
  refine named_all B F X (News.perm N P.sub) T hk (by omega) (by omega) P.lo (by omega) hd' P.hp_ P.n1 P.n2 P.lt N1 fun h' tk' k dk ko' a1 a2 a3 b1 b2 b3 tv wh nk l1 l2 l3 l4 hd2 F' N' => ?_
  exact hret h' tk' k dk a1 a2 a3 b1 b2 b3 tv wh nk _ l1 l2 l3 l4 (Ph.of (two_ord l1 l2 l3 l4 P.ord) P.lo P.lt (Nat.le_trans (stored_length_le _ _ _) (by omega)) hd2 (.tail _ (.tail _ P.hp_)) (two_ne (Nat.ne_of_gt (Nat.lt_trans l2 l4)) (Nat.ne_of_gt l2) P.n1) (two_ne (Nat.ne_of_gt (Nat.lt_trans l3 l4)) (Nat.ne_of_gt l3) P.n2)) F' N'
theorem drop_P {w : World} {mean : ExcName → Option Value} {mg mb : Str → Option Value} {dp un : Nat} {gd : Option (List Code)} {cn : Str} {cs : Scope} {a : Addr} {ccd : Value} {cl : List (Str × Addr)} {outer : List Env} {A₀ : Around} {base h₀ : Heap} {L : Addr} {m : Str → Option Value} {news : List (Addr × Obj)} {s : Shared} {Q E : Value → Shared → Prop}
    (B : Below A₀ base outer h₀) (F : Fr h₀ L s.heap m) (X : (hd.heap_39 w.params).In h₀) (N : News h₀ L s.heap news) (T : Top PP LL mean mg mb h₀) (hk : cs.kind = .function) (hdp : dp + 240 < recursionLimit) (hun : un + 2400 < cLine)
    {hp hx kd : Addr} {g i : Int} {kvs : List (Ky × Value)} {rest : List (Addr × Obj)} {ti : Tok} {no : Nat} (P : Ph w hp hx kd g kvs no rest news)
    (hret : ∀ h' tk' all, Ph w hp hx kd g (outs kvs [i]) no rest all → Fr h₀ L h' m → News h₀ L h' all → Q .none { s with heap := h', toks := tk' }) :
    wpAny (model Prg w) (ktrTop dp un gd cn cs L a ccd cl outer) (call (.ref 192) [.ref hp, .int i ti]) Q E s := by
  obtain ⟨h1, h2, h3, h4, h5, t1, t2, t3, t4, t5, tg, t0, n, ko, m1, m2, hd'⟩ := P.obj
  have N1 := P.front N m1 m2 P.sub
  have hlen := P.len
  refine drop_all B F X (News.perm N P.sub) T hk (by omega) (by omega) P.lo (by omega) hd' P.hp_ P.n1 P.n2 P.lt N1 fun h' tk' ko' hd2 F' N' => ?_
  exact hret h' tk' _ (Ph.of P.ord P.lo P.lt (outs_len _ _ P.len) hd2 P.hp_ P.n1 P.n2) F' N'
theorem free_P {w : World} {mean : ExcName → Option Value} {mg mb : Str → Option Value} {dp un : Nat} {gd : Option (List Code)} {cn : Str} {cs : Scope} {a : Addr} {ccd : Value} {cl : List (Str × Addr)} {outer : List Env} {A₀ : Around} {base h₀ : Heap} {L : Addr} {m : Str → Option Value} {news : List (Addr × Obj)} {s : Shared} {Q E : Value → Shared → Prop}
    (B : Below A₀ base outer h₀) (F : Fr h₀ L s.heap m) (X : (hd.heap_39 w.params).In h₀) (N : News h₀ L s.heap news) (T : Top PP LL mean mg mb h₀) (hk : cs.kind = .function) (hdp : dp + 220 < recursionLimit) (hun : un + 2200 < cLine)
    {hp hx kd tp : Addr} {g : Int} {kvs : List (Ky × Value)} {rest : List (Addr × Obj)} {vs : List Value} {is : List Int} {nn : Nat} {no : Nat} (P : Ph w hp hx kd g kvs no rest news) (htp : (tp, tupO vs nn) ∈ rest) (hi : Ints vs is)
    (hret : ∀ h' tk' all, Ph w hp hx kd g (outs kvs is) no rest all → Fr h₀ L h' m → News h₀ L h' all → Q .none { s with heap := h', toks := tk' }) :
    wpAny (model Prg w) (ktrTop dp un gd cn cs L a ccd cl outer) (call (.ref 185) [.ref hp, .ref tp]) Q E s := by
  obtain ⟨h1, h2, h3, h4, h5, t1, t2, t3, t4, t5, tg, t0, n, ko, m1, m2, hd'⟩ := P.obj
  have N1 := P.front N m1 m2 P.sub
  have hlen := P.len
  refine free_all B F X (News.perm N P.sub) T hk (by omega) (by omega) P.lo (by omega) hd' P.hp_ P.n1 P.n2 P.lt htp hi N1 fun h' tk' ko' hd2 F' N' => ?_
  exact hret h' tk' _ (Ph.of P.ord P.lo P.lt (outs_len _ _ P.len) hd2 P.hp_ P.n1 P.n2) F' N'
end
section
theorem chan_new {w : World} {mean : ExcName → Option Value} {mg mb : Str → Option Value} {dp un : Nat} {gd : Option (List Code)} {cn : Str} {cs : Scope} {a : Addr} {ccd : Value} {cl : List (Str × Addr)} {outer : List Env} {A₀ : Around} {base h₀ : Heap} {L : Addr} {m : Str → Option Value} {news : List (Addr × Obj)} {s : Shared} {Q E : Value → Shared → Prop}
    (B : Below A₀ base outer h₀) (F : Fr h₀ L s.heap m) (X : (hd.heap_39 w.params).In h₀) (N : News h₀ L s.heap news) (T : Top PP LL mean mg mb h₀) (hk : cs.kind = .function) (hdp : dp + 200 < recursionLimit) (hun : un + 2000 < cLine)
    {t : Tok} (hret : ∀ h' tk' x, Fr h₀ L h' m → News h₀ L h' news → Q (.ref x) { s with heap := h', toks := tk' }) :
    wpAny (model Prg w) (ktrTop dp un gd cn cs L a ccd cl outer) (call (.ref 333) [.int 1 t]) Q E s := by
  have hfill : (hd.heap_39 = hd.heap_39 ∧ PySem.Challenge.rw_pf0075_01 = PySem.Challenge.rw_pf0075_01) → True := by
    k_fill
    intro _; trivial
  clear hfill
  k_steps
  rename Fr h₀ L _ m => kF
  rename News h₀ L _ (_ :: _) => kN
  exact hret _ _ _ kF (News.perm kN fun p hp => by k_mem)
end
section
def cellsS (cells : List PV) (num : Int) : Ky → Option KObj
  | .inl i => if i = 1 then some (.row cells) else if i = 2 then some (.var (.agg false [.int 9, .agg true cells])) else if i = 3 then some (.var (.int num)) else if i = 4 then some .chan else none
  | .inr x => if x = Str.ofString "main.x" then some (.var (.int num)) else none
def XsOf (r1 dk2 dk3 dk6 : Addr) : Ky → Addr
  | .inl i => if i = 1 then r1 else if i = 2 then dk2 else dk3
  | .inr _ => dk6
theorem cellsS_inv {cells : List PV} {num : Int} {k : Ky} {o : KObj} (h : cellsS cells num k = some o) : (k = .inl 1 ∧ o = .row cells) ∨ (k = .inl 2 ∧ o = .var (.agg false [.int 9, .agg true cells])) ∨ (k = .inl 3 ∧ o = .var (.int num)) ∨ (k = .inl 4 ∧ o = .chan) ∨ (k = .inr (Str.ofString "main.x") ∧ o = .var (.int num)) := by
  cases k with
  | inl i =>
    unfold cellsS at h
    dsimp only at h
    split at h
    · rename_i e; subst e; cases h; simp
    split at h
    · rename_i e; subst e; cases h; simp
    split at h
    · rename_i e; subst e; cases h; simp
    split at h
    · rename_i e; subst e; cases h; simp
    · cases h
  | inr x =>
    unfold cellsS at h
    dsimp only at h
    split at h
    · rename_i e; subst e; cases h; simp
    · cases h
theorem cellsS_none {cells : List PV} {num : Int} {k : Ky} {v1 v2 v3 v4 v6 : Value} (h : cellsS cells num k = none) : valueAt [(.inl 1, v1), (.inl 2, v2), (.inl 3, v3), (.inl 4, v4), (.inr (Str.ofString "main.x"), v6)] k = none := by
  have n1 : k ≠ .inl 1 := fun e => by subst e; cases h
  have n2 : k ≠ .inl 2 := fun e => by subst e; cases h
  have n3 : k ≠ .inl 3 := fun e => by subst e; cases h
  have n4 : k ≠ .inl 4 := fun e => by subst e; cases h
  have n5 : k ≠ .inr (Str.ofString "main.x") := fun e => by subst e; simp [cellsS] at h
  unfold valueAt
  simp [n1.symm, n2.symm, n3.symm, n4.symm, n5.symm]
theorem rep_array {news : List (Addr × Obj)} {cells : List PV} {vs : List Value} {d3 d4 d5 d6 : Addr} {u3 u4 u5 : Tok} (m3 : (d3, tupO [.str (Str.ofString "struct") u3, .ref d4] 0) ∈ news) (m4 : (d4, tupO [.int 9 u4, .ref d5] 0) ∈ news) (m5 : (d5, tupO [.str (Str.ofString "array") u5, .ref d6] 0) ∈ news) (m6 : (d6, tupO vs 0) ∈ news) (hr : RowRep news vs cells) (hcl : cells.length ≤ 600) :
    Rep news (.agg false [.int 9, .agg true cells]) (.ref d3) := by
  refine .agg m3 m4 rfl (by simp) fun i v q hv hq => ?_
  rcases i with _ | _ | i
  · cases hv; cases hq; exact .int
  · cases hv; cases hq
    refine .agg m5 m6 hr.len (by omega) fun j u p hu hp => ?_
    have := hr.item hu
    rw [List.getD_eq_getElem?_getD, hp] at this
    exact this
  · cases hv
theorem world_of {w : World} {hp hx kd k1 dk1 k2 dk2 k3 dk3 k4 dk4 k5 dk5 k6 dk6 r1 r5 x0 x1 x2 d3 d4 d5 d6 : Addr} {o0 o1 o2 o5 o5' i5 : Obj} {rest0 all : List (Addr × Obj)} {cells : List PV} {vs : List Value} {num : Int} {tn : Tok} {c4 : Value} {c1 : Nat}
    {a61 a62 a63 a41 a42 a43 a31 a32 a33 a21 a22 a23 a11 a12 a13 : Int} {b61 b62 b63 b41 b42 b43 b31 b32 b33 b21 b22 b23 b11 b12 b13 t6 t4 t3 t2 t1 u3 u4 u5 : Tok} {w6 w4 w3 w2 w1 : Value} {n6 n4 n3 n2 n1 : Nat}
    (P : Ph w hp hx kd 5 [(.inl 1, .ref k1), (.inl 2, .ref k2), (.inl 3, .ref k3), (.inl 4, .ref k4), (.inr (Str.ofString "main.x"), .ref k6)] 21
      ((x0, o0) :: (k6, instObj 106 dk6) :: (dk6, kpO a61 a62 a63 b61 b62 b63 (Str.ofString "var") t6 (.int num tn) w6 n6) :: (x1, o1) :: (k5, i5) :: (dk5, o5) :: (r5, o5') :: (k4, instObj 106 dk4) :: (dk4, kpO a41 a42 a43 b41 b42 b43 (Str.ofString "chan") t4 c4 w4 n4) :: (k3, instObj 106 dk3) :: (dk3, kpO a31 a32 a33 b31 b32 b33 (Str.ofString "var") t3 (.int num tn) w3 n3) :: (x2, o2) ::
        (k2, instObj 106 dk2) :: (dk2, kpO a21 a22 a23 b21 b22 b23 (Str.ofString "var") t2 (.ref d3) w2 n2) :: (d3, tupO [.str (Str.ofString "struct") u3, .ref d4] 0) :: (d4, tupO [.int 9 u4, .ref d5] 0) :: (d5, tupO [.str (Str.ofString "array") u5, .ref d6] 0) :: (d6, tupO vs 0) :: (k1, instObj 106 dk1) :: (dk1, kpO a11 a12 a13 b11 b12 b13 (Str.ofString "row") t1 (.ref r1) w1 n1) :: (r1, listOf vs.toArray c1) :: (hp, instObj 244 hx) :: rest0) all)
    (hr : RowRep rest0 vs cells) (hcl : cells.length ≤ 600) (hT : TT [] rest0) :
    WT w hp kd hx 5 [(.inl 1, .ref k1), (.inl 2, .ref k2), (.inl 3, .ref k3), (.inl 4, .ref k4), (.inr (Str.ofString "main.x"), .ref k6)] [r1, dk2, dk3, dk6] (XsOf r1 dk2 dk3 dk6) (cellsS cells num) all ∧ ∀ a o, (a, o) ∈ rest0 → a ∉ [r1, dk2, dk3, dk6] := by
  refine hide fun GG9 hG9 => ?_
  obtain ⟨_, _, _, ⟨z6, _⟩, _, _, ⟨y1, y2, y3, y4, y5, y6, y7, y8, y9, y10, y11, y12, _⟩, hx6, kd6, _, _, _, _, _, _, _, _, _, _, _, _, ⟨z4, _⟩, _, _, ⟨e1, e2, _⟩, hx4, kd4, ⟨z3, _⟩, _, _, ⟨f1, f2, f3, _⟩, hx3, kd3, _, _, _, ⟨z2, _⟩, _, _, ⟨g1, g2, g3, g4, g5, g6, g7, _⟩, hx2, kd2, _, _, _, _, _, _, _, _, _, _, _, _, ⟨z1, _⟩, _, _, ⟨i1, _⟩, _, _, ⟨j1, j2⟩, hx1, kd1, _⟩ := P.ord
  refine hG9 ?_
  clear hG9 GG9
  dsimp only at z6 y1 y2 y3 y4 y5 y6 y7 y8 y9 y10 y11 y12 z4 e1 e2 z3 f1 f2 f3 z2 g1 g2 g3 g4 g5 g6 g7 z1 i1 j1
  have jr : ∀ a o, (a, o) ∈ rest0 → @LT.lt Nat _ a r1 := fun a o h => kst_ltOf j2 _ h
  have sb := P.sub
  have notF : ∀ a : Nat, a ≠ r1 → a ≠ dk2 → a ≠ dk3 → a ≠ dk6 → a ∉ [r1, dk2, dk3, dk6] := fun a b1 b2 b3 b4 q => by
    simp only [List.mem_cons, List.not_mem_nil, or_false] at q
    rcases q with q | q | q | q
    · exact b1 q
    · exact b2 q
    · exact b3 q
    · exact b4 q
  have offr : ∀ a o, (a, o) ∈ rest0 → a ∉ [r1, dk2, dk3, dk6] := fun a o h => by
    have := jr a o h
    exact notF a (by omega) (by omega) (by omega) (by omega)
  have mk6 := sb _ (.tail _ (.head _))
  have md6 := sb _ (.tail _ (.tail _ (.head _)))
  have mk4 := sb _ (.tail _ (.tail _ (.tail _ (.tail _ (.tail _ (.tail _ (.tail _ (.head _))))))))
  have md4 := sb _ (.tail _ (.tail _ (.tail _ (.tail _ (.tail _ (.tail _ (.tail _ (.tail _ (.head _)))))))))
  have mk3 := sb _ (.tail _ (.tail _ (.tail _ (.tail _ (.tail _ (.tail _ (.tail _ (.tail _ (.tail _ (.head _))))))))))
  have md3 := sb _ (.tail _ (.tail _ (.tail _ (.tail _ (.tail _ (.tail _ (.tail _ (.tail _ (.tail _ (.tail _ (.head _)))))))))))
  have mk2 := sb _ (.tail _ (.tail _ (.tail _ (.tail _ (.tail _ (.tail _ (.tail _ (.tail _ (.tail _ (.tail _ (.tail _ (.tail _ (.head _)))))))))))))
  have md2 := sb _ (.tail _ (.tail _ (.tail _ (.tail _ (.tail _ (.tail _ (.tail _ (.tail _ (.tail _ (.tail _ (.tail _ (.tail _ (.tail _ (.head _))))))))))))))
  have sub14 : ∀ p, p ∈ (d3, tupO [.str (Str.ofString "struct") u3, .ref d4] 0) :: (d4, tupO [.int 9 u4, .ref d5] 0) :: (d5, tupO [.str (Str.ofString "array") u5, .ref d6] 0) :: (d6, tupO vs 0) :: (k1, instObj 106 dk1) :: (dk1, kpO a11 a12 a13 b11 b12 b13 (Str.ofString "row") t1 (.ref r1) w1 n1) :: (r1, listOf vs.toArray c1) :: (hp, instObj 244 hx) :: rest0 → p ∈ all :=
    fun p h => sb p (.tail _ (.tail _ (.tail _ (.tail _ (.tail _ (.tail _ (.tail _ (.tail _ (.tail _ (.tail _ (.tail _ (.tail _ (.tail _ (.tail _ h))))))))))))))
  have sub0 : ∀ p ∈ rest0, p ∈ all := fun p h => sub14 p (.tail _ (.tail _ (.tail _ (.tail _ (.tail _ (.tail _ (.tail _ (.tail _ h))))))))
  have mp3 := sub14 _ (.head _)
  have mp4 := sub14 _ (.tail _ (.head _))
  have mp5 := sub14 _ (.tail _ (.tail _ (.head _)))
  have mp6 := sub14 _ (.tail _ (.tail _ (.tail _ (.head _))))
  have mk1 := sub14 _ (.tail _ (.tail _ (.tail _ (.tail _ (.head _)))))
  have md1 := sub14 _ (.tail _ (.tail _ (.tail _ (.tail _ (.tail _ (.head _))))))
  have mr1 := sub14 _ (.tail _ (.tail _ (.tail _ (.tail _ (.tail _ (.tail _ (.head _)))))))
  have mhp := sub14 _ (.tail _ (.tail _ (.tail _ (.tail _ (.tail _ (.tail _ (.tail _ (.head _))))))))
  have hr' := hr.up sub0
  refine hide fun GG9 hG9 => ?_
  obtain ⟨h1, h2, h3, h4, h5, t1', t2', t3', t4', t5', tg, t0, n, ko, mx, mkd, hd⟩ := P.obj
  refine hG9 ?_
  clear hG9 GG9
  have lt := P.lt
  have W : Wd w hp kd hx 5 [(.inl 1, .ref k1), (.inl 2, .ref k2), (.inl 3, .ref k3), (.inl 4, .ref k4), (.inr (Str.ofString "main.x"), .ref k6)] [r1, dk2, dk3, dk6] (XsOf r1 dk2 dk3 dk6) (cellsS cells num) all := by
    refine ⟨P.lo, by simp, ⟨h1, h2, h3, h4, h5, t1', t2', t3', t4', t5', tg, t0, n, ko, mhp, mx, mkd, hd⟩, ⟨notF hp (by omega) (by omega) (by omega) (by omega), notF hx (by omega) (by omega) (by omega) (by omega), notF kd (by omega) (by omega) (by omega) (by omega)⟩, fun key e => cellsS_none e, fun key o e => ?_, fun ka kb oa ob ea eb ma mb q => ?_, fun a ha => ?_⟩
    · rcases cellsS_inv e with ⟨rfl, rfl⟩ | ⟨rfl, rfl⟩ | ⟨rfl, rfl⟩ | ⟨rfl, rfl⟩ | ⟨rfl, rfl⟩
      · exact ⟨_, rfl, .row ⟨_, _, _, _, _, _, _, _, _, mk1, md1⟩ (notF k1 (by omega) (by omega) (by omega) (by omega)) (notF dk1 (by omega) (by omega) (by omega) (by omega)) (.head _) mr1 hr' (by omega)⟩
      · exact ⟨_, rfl, .var mk2 (notF k2 (by omega) (by omega) (by omega) (by omega)) (.tail _ (.head _)) md2 (rep_array mp3 mp4 mp5 mp6 hr' hcl)⟩
      · exact ⟨_, rfl, .var mk3 (notF k3 (by omega) (by omega) (by omega) (by omega)) (.tail _ (.tail _ (.head _))) md3 .int⟩
      · exact ⟨_, rfl, .chan ⟨_, _, _, _, _, _, _, _, _, mk4, md4⟩ (notF k4 (by omega) (by omega) (by omega) (by omega)) (notF dk4 (by omega) (by omega) (by omega) (by omega))⟩
      · exact ⟨_, rfl, .var mk6 (notF k6 (by omega) (by omega) (by omega) (by omega)) (.tail _ (.tail _ (.tail _ (.head _)))) md6 .int⟩
    · replace q : @Eq Nat (XsOf r1 dk2 dk3 dk6 ka) (XsOf r1 dk2 dk3 dk6 kb) := q
      have x1 : XsOf r1 dk2 dk3 dk6 (.inl 1) = r1 := rfl
      have x2 : XsOf r1 dk2 dk3 dk6 (.inl 2) = dk2 := rfl
      have x3 : XsOf r1 dk2 dk3 dk6 (.inl 3) = dk3 := rfl
      have x6 : XsOf r1 dk2 dk3 dk6 (.inr (Str.ofString "main.x")) = dk6 := rfl
      rcases cellsS_inv ea with ⟨rfl, rfl⟩ | ⟨rfl, rfl⟩ | ⟨rfl, rfl⟩ | ⟨rfl, rfl⟩ | ⟨rfl, rfl⟩ <;>
      rcases cellsS_inv eb with ⟨rfl, rfl⟩ | ⟨rfl, rfl⟩ | ⟨rfl, rfl⟩ | ⟨rfl, rfl⟩ | ⟨rfl, rfl⟩ <;>
      first
        | rfl
        | (exfalso
           simp only [x1, x2, x3, x6] at q
           omega)
        | exact absurd ma Bool.false_ne_true
        | exact absurd mb Bool.false_ne_true
    · simp only [List.mem_cons, List.not_mem_nil, or_false] at ha
      rcases ha with rfl | rfl | rfl | rfl
      · exact ⟨_, mr1, by show Value.type "list" ≠ Value.type "tuple"; decide, by show Value.type "list" ≠ Value.none; simp⟩
      · exact ⟨_, md2, by show Value.type "dict" ≠ Value.type "tuple"; decide, by show Value.type "dict" ≠ Value.none; simp⟩
      · exact ⟨_, md3, by show Value.type "dict" ≠ Value.type "tuple"; decide, by show Value.type "dict" ≠ Value.none; simp⟩
      · exact ⟨_, md6, by show Value.type "dict" ≠ Value.type "tuple"; decide, by show Value.type "dict" ≠ Value.none; simp⟩
  refine hide fun GG9 hG9 => ?_
  obtain ⟨⟨p1, a1, b1⟩, p2, a2, b2⟩ := hT
  refine hG9 ?_
  clear hG9 GG9
  have tab : ∀ {qual : Str} {PP : Addr} {ps : Array Value}, TabInv (tabs []) PP qual ps rest0 → TabInv (tabs [r1, dk2, dk3, dk6]) PP qual ps all := fun H => ⟨H.tri, fun pos cv e => by
    refine hide fun GG9 hG9 => ?_
    obtain ⟨c', oc, us, t, q1, q2, q3, q4, q5, q6⟩ := H.at_ pos cv e
    refine hG9 ?_
    clear hG9 GG9
    refine ⟨c', oc, us, t, q1, sub0 _ q2, q3, q4, fun q => ?_, q6⟩
    rcases List.mem_cons.mp q with q | q
    · exact q5 (q ▸ .head _)
    rcases List.mem_cons.mp q with q | q
    · exact q5 (q ▸ .tail _ (.head _))
    · exact offr _ _ q2 q⟩
  exact ⟨⟨W, ⟨⟨p1, sub0 _ a1, tab b1⟩, p2, sub0 _ a2, tab b2⟩, offr _ _ a1, offr _ _ a2⟩, offr⟩
end
section
section
variable {M : Model} {A : Around} {E : Value → Shared → Prop} {s : Shared} {h₀ : Heap} {L a : Addr} {m : Str → Option Value} {cn : Str} {cs : Scope} {ccd : Value} {cl : List (Str × Addr)}
  {x : Str} {v : Value} {all : List (Addr × Obj)} {c : Addr} {o : Obj} {v₀ : Option Value}
theorem store_cell {Q : Unit → Shared → Prop} (F : Fr h₀ L s.heap m) (N : News h₀ L s.heap all) (hc : cl.lookup x = some c) (hm : (c, o) ∈ all) (hd : o.data = .cell v₀)
    (h : ∀ h' o', o'.data = .cell (some v) → Fr h₀ L h' m → News h₀ L h' ((c, o') :: all.filter (fun p => decide (p.1 ≠ c))) → Q () { s with heap := h' })
    (hk : cs.kind = .function) (hx : (envX cn cs L a ccd cl).kindOf x = some .cell) : wpAny M A (storeName (envX cn cs L a ccd cl) x v) Q E s :=
  storeX_C F (rest_news' N hm) hc (UpdF.head rest_ne') hd (fun h' o' F' N' d => h h' o' d F' N') hk hx
end
section
variable {w : World} {hp kd hx : Addr} {g : Int} {kvs : List (Ky × Value)} {Fp : List Addr} {Xs : Ky → Addr} {S : Ky → Option KObj} {news news' all : List (Addr × Obj)} {h₀ h : Heap} {L c : Addr} {o o' : Obj} {v₀ : Option Value}
theorem cell_in {a : Addr} {x : Obj} (N : News h₀ L h all) (hm : (c, o) ∈ all) (hd : o.data = .cell v₀) (h1 : (a, x) ∈ all) (hx : ∀ u, x.data ≠ .cell u) : (a, x) ∈ (c, o') :: all.filter (fun p => decide (p.1 ≠ c)) :=
  .tail _ (rest_in h1 fun e => by subst e; exact hx _ (by rw [News.obj_eq N h1 hm]; exact hd))
theorem Wd.cell (W : Wd w hp kd hx g kvs Fp Xs S all) (N : News h₀ L h all) (hm : (c, o) ∈ all) (hd : o.data = .cell v₀) (hF : c ∉ Fp) : Wd w hp kd hx g kvs Fp Xs S ((c, o') :: all.filter (fun p => decide (p.1 ≠ c))) := by
  have ins : ∀ {a : Addr} {C d : Addr}, (a, instObj C d) ∈ all → (a, instObj C d) ∈ (c, o') :: all.filter (fun p => decide (p.1 ≠ c)) := fun h => cell_in N hm hd h fun u e => by cases e
  have dic : ∀ {a : Addr} {es : List DictEntry} {n : Nat}, (a, dictOf es n) ∈ all → (a, dictOf es n) ∈ (c, o') :: all.filter (fun p => decide (p.1 ≠ c)) := fun h => cell_in N hm hd h fun u e => by cases e
  have lis : ∀ {a : Addr} {es : Array Value} {n : Nat}, (a, listOf es n) ∈ all → (a, listOf es n) ∈ (c, o') :: all.filter (fun p => decide (p.1 ≠ c)) := fun h => cell_in N hm hd h fun u e => by cases e
  have tup : ∀ {a : Addr} {es : List Value} {n : Nat}, (a, tupO es n) ∈ all → (a, tupO es n) ∈ (c, o') :: all.filter (fun p => decide (p.1 ≠ c)) := fun h => cell_in N hm hd h fun u e => by cases e
  have rp : ∀ {q : PV} {v : Value}, Rep all q v → Rep ((c, o') :: all.filter (fun p => decide (p.1 ≠ c))) q v := fun R => by
    induction R with
    | int => exact .int
    | agg h1 h2 h3 h4 _ ih => exact .agg (tup h1) (tup h2) h3 h4 ih
  have kk : ∀ {k dk : Addr} {kind : Str} {c' : Value}, KeptAt all k dk kind c' → KeptAt ((c, o') :: all.filter (fun p => decide (p.1 ≠ c))) k dk kind c' := fun H => by
    refine hide fun GG9 hG9 => ?_
    obtain ⟨a1, a2, a3, t1, t2, t3, tk, wh, n, m1, m2⟩ := H
    refine hG9 ?_
    clear hG9 GG9
    exact ⟨a1, a2, a3, t1, t2, t3, tk, wh, n, ins m1, dic m2⟩
  refine ⟨W.lo, W.len, ?_, W.apart, W.none_, fun k ok e => ?_, W.inj, fun a ha => ?_⟩
  · refine hide fun GG9 hG9 => ?_
    obtain ⟨h1, h2, h3, h4, h5, t1, t2, t3, t4, t5, tg, t0, n, ko, m1, m2, m3, hd'⟩ := W.heap
    refine hG9 ?_
    clear hG9 GG9
    refine ⟨h1, h2, h3, h4, h5, t1, t2, t3, t4, t5, tg, t0, n, ko, ins m1, dic m2, cell_in N hm hd m3 ?_, hd'⟩
    refine hide fun GG9 hG9 => ?_
    obtain ⟨_, _, _, ed, _⟩ := hd'
    refine hG9 ?_
    clear hG9 GG9
    intro u e; rw [ed] at e; cases e
  · obtain ⟨kv, h1, h2⟩ := W.some_ k ok e
    refine ⟨kv, h1, ?_⟩
    cases h2 with
    | row x1 x2 x3 x4 x5 x6 x7 => exact .row (kk x1) x2 x3 x4 (lis x5) ⟨x6.len, fun e => rp (x6.item e)⟩ x7
    | var x1 x2 x3 x4 x5 => exact .var (ins x1) x2 x3 (dic x4) (rp x5)
    | chan x1 x2 x3 => exact .chan (kk x1) x2 x3
  · obtain ⟨x, h1, h2⟩ := W.fp a ha
    exact ⟨x, .tail _ (rest_in h1 fun e => hF (e ▸ ha)), h2⟩
theorem WT.cell (H : WT w hp kd hx g kvs Fp Xs S all) (N : News h₀ L h all) (hm : (c, o) ∈ all) (hd : o.data = .cell v₀) (hF : c ∉ tabs Fp) : WT w hp kd hx g kvs Fp Xs S ((c, o') :: all.filter (fun p => decide (p.1 ≠ c))) := by
  refine hide fun GG9 hG9 => ?_
  obtain ⟨W, ⟨⟨p1, a1, b1⟩, p2, a2, b2⟩, hoff⟩ := H
  refine hG9 ?_
  clear hG9 GG9
  have tab : ∀ {qual : Str} {P : Addr} {ps : Array Value}, TabInv (tabs Fp) P qual ps all → TabInv (tabs Fp) P qual ps ((c, o') :: all.filter (fun p => decide (p.1 ≠ c))) := fun H => ⟨H.tri, fun pos cv e => by
    refine hide fun GG9 hG9 => ?_
    obtain ⟨c', oc, vs, t, h1, h2, h3, h4, h5, h6⟩ := H.at_ pos cv e
    refine hG9 ?_
    clear hG9 GG9
    exact ⟨c', oc, vs, t, h1, cell_in N hm hd h2 (fun u q => by rw [h3] at q; cases q), h3, h4, h5, h6⟩⟩
  exact ⟨W.cell N hm hd fun q => hF (.tail _ (.tail _ q)), ⟨⟨p1, .tail _ (rest_in a1 fun e => hF (e ▸ .head _)), tab b1⟩, p2, .tail _ (rest_in a2 fun e => hF (e ▸ .tail _ (.head _))), tab b2⟩, hoff⟩
/-- what lies apart from one cell is kept -/
def KC (c : Addr) (Fp : List Addr) (news news' : List (Addr × Obj)) : Prop := ∀ a o, (a, o) ∈ news → a ∉ tabs Fp → a ≠ c → (a, o) ∈ news'
theorem KC.of {c : Addr} (h : KO Fp news news') : KC c Fp news news' := fun a o q hn _ => h a o q hn
theorem KC.trans {c : Addr} {n1 n2 n3 : List (Addr × Obj)} (x : KC c Fp n1 n2) (y : KC c Fp n2 n3) : KC c Fp n1 n3 := fun a o h hn hc => y a o (x a o h hn hc) hn hc
theorem KC.refl {c : Addr} : KC c Fp news news := fun _ _ h _ _ => h
theorem KC.cell : KC c Fp all ((c, o') :: all.filter (fun p => decide (p.1 ≠ c))) := fun _ _ h _ hc => .tail _ (rest_in h hc)
theorem KC.rest {I : Addr} {oI : Obj} {news₁ : List (Addr × Obj)} (K : KC c Fp news news₁) (hn : ∀ p ∈ news₁, p.1 ≠ I) (K' : KC c Fp ((I, oI) :: news₁) all) : KC c Fp news (all.filter (fun p => decide (p.1 ≠ I))) := fun a x h hF hc =>
  rest_in (K' a x (.tail _ (K a x h hF hc)) hF hc) (hn _ (K a x h hF hc))
end
theorem end_turnC {w : World} {hp hx kd c : Addr} {g : Int} {kvs : List (Ky × Value)} {Fp : List Addr} {Xs : Ky → Addr} {S : Ky → Option KObj} {G : Heap → Prop} {g' : Heap} {L : Addr} {s₁ : Shared} {I : Addr} {o : Obj} {C : String} {J : (Str → Option Value) → List (Addr × Obj) → Prop} {Q : Flow → Shared → Prop} {h' : Heap} {tk : Nat} {m' : Str → Option Value} {base₀ news₁ all news' : List (Addr × Obj)}
    (hG : G g') (F : Fr g' L h' m') (N : News g' L h' news') (K : KC c Fp all news') (H5 : WT w hp kd hx g kvs Fp Xs S news') (hall : all = (I, o) :: news₁) (ho : IsIt C o) (hC : C ≠ "tuple" ∧ C ≠ "list" ∧ C ≠ "dict") (nI : I ∉ tabs Fp) (nc : I ≠ c) (K0 : KC c Fp base₀ news₁) (hn : ∀ p ∈ news₁, p.1 ≠ I)
    (hj : WT w hp kd hx g kvs Fp Xs S (news'.filter (fun p => decide (p.1 ≠ I))) → KC c Fp base₀ (news'.filter (fun p => decide (p.1 ≠ I))) → J m' (news'.filter (fun p => decide (p.1 ≠ I)))) : EndT G L s₁ I o J Q .next { s₁ with heap := h', toks := tk } := by
  subst hall
  have mI := K _ _ (.head _) nI nc
  exact EndT.cont hG F N mI (hj (H5.rest N mI ho hC nI) (KC.rest K0 hn K))
end
section
theorem row_nil (cells : List PV) : peekP (some (.row cells)) [] = .error (Str.ofString "place") := rfl
theorem arr_at (cells : List PV) (i : Int) (r : List Int) : (match (PV.agg true cells).at (i :: r) with | some q => Except.ok q | none => Except.error (Str.ofString "place")) = peekP (some (.row cells)) (i :: r) := by
  show (match ((if 0 ≤ i then cells[i.toNat]? else none).bind (PV.at · r)) with | some q => Except.ok q | none => _) = (if 0 ≤ i ∧ i < cells.length then (match (cells[i.toNat]?).bind (PV.at · r) with | some q => Except.ok q | none => Except.error (Str.ofString "place")) else .error (Str.ofString "place"))
  by_cases h0 : 0 ≤ i
  · rw [if_pos h0]
    by_cases h1 : i < cells.length
    · rw [if_pos ⟨h0, h1⟩]
    · rw [if_neg (fun q => h1 q.2), List.getElem?_eq_none (by omega)]
      rfl
  · rw [if_neg h0, if_neg (fun q => h0 q.1)]
    rfl
theorem arr_peek (cells : List PV) : ∀ r, r ≠ [] → peekP (some (.var (.agg false [.int 9, .agg true cells]))) (1 :: r) = peekP (some (.row cells)) r := by
  intro r hr
  cases r with
  | nil => exact absurd rfl hr
  | cons i r =>
    rw [← arr_at]
    rfl
inductive BegItem (S : Ky → Option KObj) (cells : List PV) (news : List (Addr × Obj)) : Value → Prop
  | mk {l pt : Addr} {bv : Value} {pvs : List Value} {n n1 : Nat} {key : Ky} {pre pth : List Int} {o : KObj} : (l, tupO [bv, .ref pt] n) ∈ news → BegRep news bv key pre → (pt, tupO pvs n1) ∈ news → Ints pvs pth → pre.length + pth.length ≤ 700 → S key = some o → (∀ r, r ≠ [] → peekP (some o) (pre ++ (pth ++ r)) = peekP (some (.row cells)) r) → BegItem S cells news (.ref l)
theorem BegItem.mono {S : Ky → Option KObj} {cells : List PV} {news news' : List (Addr × Obj)} {v : Value} (H : BegItem S cells news v) (hs : ∀ a o, (a, o) ∈ news → o.cls = .type "tuple" → (a, o) ∈ news') : BegItem S cells news' v := by
  cases H with
  | mk a b c d e f g => exact .mk (hs _ _ a rfl) (b.mono hs) (hs _ _ c rfl) d e f g
theorem up_nine {h₀ h : Heap} {L : Addr} {x1 x2 x3 x4 x5 x6 x7 x8 x9 : Addr × Obj} {all : List (Addr × Obj)} (_N : News h₀ L h (x1 :: x2 :: x3 :: x4 :: x5 :: x6 :: x7 :: x8 :: x9 :: all)) : ∀ p ∈ all, p ∈ x1 :: x2 :: x3 :: x4 :: x5 :: x6 :: x7 :: x8 :: x9 :: all := fun _ h => .tail _ (.tail _ (.tail _ (.tail _ (.tail _ (.tail _ (.tail _ (.tail _ (.tail _ h))))))))
theorem ky_int (i : Int) (t : Tok) : isKy (.inl i) (.int i t) = true := by simp [isKy, Value.isInt]
theorem ky_str (x : Str) (t : Tok) : isKy (.inr x) (.str x t) = true := by simp [isKy, Value.isStrOf]
theorem beg_items {cells : List PV} {num : Int} {news : List (Addr × Obj)} {h₀ h : Heap} {L : Addr} (_N : News h₀ L h news) {a0 a1 b0 b1 c0 c1 c2 c3 : Addr} {u1 u2 u3 t1 t2 : Tok} (m1 : (a1, tupO [.int 1 u1, .ref a0] 0) ∈ news) (m2 : (a0, tupO [] 0) ∈ news) (m3 : (b1, tupO [.int 2 u2, .ref b0] 0) ∈ news) (m4 : (b0, tupO [.int 1 t1] 0) ∈ news) (m5 : (c3, tupO [.ref c2, .ref c1] 0) ∈ news) (m6 : (c1, tupO [] 0) ∈ news) (m7 : (c2, tupO [.int 2 u3, .ref c0] 0) ∈ news) (m8 : (c0, tupO [.int 1 t2] 0) ∈ news) :
    ∀ (i : Nat) (v : Value), [Value.ref a1, Value.ref b1, Value.ref c3][i]? = some v → BegItem (cellsS cells num) cells news v := by
  intro i v h
  rcases i with _ | _ | _ | i
  · cases h
    exact .mk (pre := []) (pth := []) m1 (.key (ky_int 1 u1)) m2 ints_nil (by simp) rfl (fun r _ => rfl)
  · cases h
    exact .mk (pre := []) (pth := [1]) m3 (.key (ky_int 2 u2)) m4 (ints_one _ _) (by simp) rfl (fun r hr => arr_peek cells r hr)
  · cases h
    exact .mk (pre := [1]) (pth := []) m5 (.nest ⟨_, _, _, _, _, _, rfl, m7, ky_int 2 u3, m8, ints_one _ _, by simp⟩) m6 ints_nil (by simp) rfl (fun r hr => arr_peek cells r hr)
  · cases h
end
section
inductive LocItem (S : Ky → Option KObj) (K : Str) (news : List (Addr × Obj)) : Value → Prop
  | mk {v : Value} {key : Ky} {path : List Int} : LocRep news v key path → peekP (S key) path = .error K → LocItem S K news v
theorem LocItem.mono {S : Ky → Option KObj} {K : Str} {news news' : List (Addr × Obj)} {v : Value} (H : LocItem S K news v) (hs : ∀ a o, (a, o) ∈ news → o.cls = .type "tuple" → (a, o) ∈ news') : LocItem S K news' v := by
  cases H with
  | mk a b => exact .mk (a.mono hs) b
theorem LocItem.up {S : Ky → Option KObj} {K : Str} {news news' : List (Addr × Obj)} {v : Value} (H : LocItem S K news v) (hs : ∀ p ∈ news, p ∈ news') : LocItem S K news' v := H.mono fun _ _ h _ => hs _ h
theorem loc_flat {news : List (Addr × Obj)} {l p : Addr} {num : Value} {key : Ky} {n n' : Nat} {vs : List Value} {path : List Int} (h1 : (l, tupO [num, .ref p] n) ∈ news) (h2 : (p, tupO vs n') ∈ news) (hk : isKy key num = true) (hi : Ints vs path) (hz : path.length ≤ 800) : LocRep news (.ref l) key path := .flat ⟨l, p, n, n', num, vs, rfl, h1, hk, h2, hi, hz⟩
theorem main_x (cells : List PV) (num : Int) : cellsS cells num (.inr (Str.ofString "main.x")) = some (.var (.int num)) := by unfold cellsS; simp
theorem main_y (cells : List PV) (num : Int) : cellsS cells num (.inr (Str.ofString "main.y")) = none := by
  unfold cellsS
  show (if Str.ofString "main.y" = Str.ofString "main.x" then _ else _) = _
  rw [if_neg (by decide +kernel)]
theorem wrong_items {cells : List PV} {num : Int} {news : List (Addr × Obj)} {h₀ h : Heap} {L : Addr} (_N : News h₀ L h news) {a1 b1 a2 b2 a3 b3 a4 b4 a5 b5 a6 b6 a7 b7 : Addr} {u1 u2 u3 u4 u5 u6 u7 t2 t4 t5 t6 t7 t8 : Tok}
    (m1 : (a1, tupO [.int 1 u1, .ref b1] 0) ∈ news) (n1 : (b1, tupO [] 0) ∈ news) (m2 : (a2, tupO [.int 3 u2, .ref b2] 0) ∈ news) (n2 : (b2, tupO [.int 0 t2] 0) ∈ news) (m3 : (a3, tupO [.int 4 u3, .ref b3] 0) ∈ news) (n3 : (b3, tupO [] 0) ∈ news)
    (m4 : (a4, tupO [.int 4 u4, .ref b4] 0) ∈ news) (n4 : (b4, tupO [.int 0 t4] 0) ∈ news) (m5 : (a5, tupO [.str (Str.ofString "main.x") u5, .ref b5] 0) ∈ news) (n5 : (b5, tupO [.int 0 t5] 0) ∈ news) (m6 : (a6, tupO [.int 2 u6, .ref b6] 0) ∈ news) (n6 : (b6, tupO [.int 2 t6] 0) ∈ news) (m7 : (a7, tupO [.int 2 u7, .ref b7] 0) ∈ news) (n7 : (b7, tupO [.int 0 t7, .int 0 t8] 0) ∈ news) :
    ∀ (i : Nat) (v : Value), [Value.ref a1, Value.ref a2, Value.ref a3, Value.ref a4, Value.ref a5, Value.ref a6, Value.ref a7][i]? = some v → LocItem (cellsS cells num) (Str.ofString "place") news v := by
  intro i v h
  rcases i with _ | _ | _ | _ | _ | _ | _ | i
  · cases h; exact .mk (loc_flat m1 n1 (ky_int _ _) ints_nil (by simp)) rfl
  · cases h; exact .mk (loc_flat m2 n2 (ky_int _ _) (ints_one _ _) (by simp)) rfl
  · cases h; exact .mk (loc_flat m3 n3 (ky_int _ _) ints_nil (by simp)) rfl
  · cases h; exact .mk (loc_flat m4 n4 (ky_int _ _) (ints_one _ _) (by simp)) rfl
  · cases h; exact .mk (loc_flat m5 n5 (ky_str _ _) (ints_one _ _) (by simp)) (by rw [main_x]; rfl)
  · cases h; exact .mk (loc_flat m6 n6 (ky_int _ _) (ints_one _ _) (by simp)) rfl
  · cases h; exact .mk (loc_flat m7 n7 (ky_int _ _) (ints_two _ _ _ _) (by simp)) rfl
  · cases h
theorem gone_items {cells : List PV} {num : Int} {news : List (Addr × Obj)} {h₀ h : Heap} {L : Addr} (_N : News h₀ L h news) {a1 b1 a2 b2 a3 b3 a4 b4 : Addr} {u1 u2 u3 u4 t2 : Tok}
    (m1 : (a1, tupO [.int 5 u1, .ref b1] 0) ∈ news) (n1 : (b1, tupO [] 0) ∈ news) (m2 : (a2, tupO [.int 5 u2, .ref b2] 0) ∈ news) (n2 : (b2, tupO [.int 0 t2] 0) ∈ news) (m3 : (a3, tupO [.int 77 u3, .ref b3] 0) ∈ news) (n3 : (b3, tupO [] 0) ∈ news)
    (m4 : (a4, tupO [.str (Str.ofString "main.y") u4, .ref b4] 0) ∈ news) (n4 : (b4, tupO [] 0) ∈ news) :
    ∀ (i : Nat) (v : Value), [Value.ref a1, Value.ref a2, Value.ref a3, Value.ref a4][i]? = some v → LocItem (cellsS cells num) (Str.ofString "escaped") news v := by
  intro i v h
  rcases i with _ | _ | _ | _ | i
  · cases h; exact .mk (loc_flat m1 n1 (ky_int _ _) ints_nil (by simp)) rfl
  · cases h; exact .mk (loc_flat m2 n2 (ky_int _ _) (ints_one _ _) (by simp)) rfl
  · cases h; exact .mk (loc_flat m3 n3 (ky_int _ _) ints_nil (by simp)) rfl
  · cases h; exact .mk (loc_flat m4 n4 (ky_str _ _) ints_nil (by simp)) (by rw [main_y]; rfl)
  · cases h
theorem up_eight {h₀ h : Heap} {L : Addr} {x1 x2 x3 x4 x5 x6 x7 x8 x9 : Addr × Obj} {all : List (Addr × Obj)} (_N : News h₀ L h (x1 :: x2 :: x3 :: x4 :: x5 :: x6 :: x7 :: x8 :: x9 :: all)) : ∀ p ∈ all, p ∈ x2 :: x3 :: x4 :: x5 :: x6 :: x7 :: x8 :: x9 :: all := fun _ h => .tail _ (.tail _ (.tail _ (.tail _ (.tail _ (.tail _ (.tail _ (.tail _ h)))))))
theorem up_fourteen {h₀ h : Heap} {L : Addr} {x1 x2 x3 x4 x5 x6 x7 x8 x9 y1 y2 y3 y4 y5 y6 : Addr × Obj} {all : List (Addr × Obj)} (_N : News h₀ L h (x1 :: x2 :: x3 :: x4 :: x5 :: x6 :: x7 :: x8 :: x9 :: y1 :: y2 :: y3 :: y4 :: y5 :: y6 :: all)) : ∀ p ∈ all, p ∈ x2 :: x3 :: x4 :: x5 :: x6 :: x7 :: x8 :: x9 :: y1 :: y2 :: y3 :: y4 :: y5 :: y6 :: all := fun _ h => .tail _ (.tail _ (.tail _ (.tail _ (.tail _ (.tail _ (.tail _ (.tail _ (.tail _ (.tail _ (.tail _ (.tail _ (.tail _ (.tail _ h)))))))))))))
theorem lt_of_news {h₀ h : Heap} {L lx : Addr} {o : Obj} {rest : List (Addr × Obj)} (_N : News h₀ L h ((lx, o) :: rest)) (l : AllLt lx rest) : ∀ p ∈ rest, p.1 < lx := kst_ltOf l
theorem WT.upN {w : World} {hp kd hx : Addr} {g : Int} {kvs : List (Ky × Value)} {Fp : List Addr} {Xs : Ky → Addr} {S : Ky → Option KObj} {news news' : List (Addr × Obj)} {h₀ h : Heap} {L : Addr} (H : WT w hp kd hx g kvs Fp Xs S news) (_N : News h₀ L h news') (hs : ∀ p ∈ news, p ∈ news') : WT w hp kd hx g kvs Fp Xs S news' := H.up hs
theorem Rep.monoT {news news' : List (Addr × Obj)} (hs : ∀ a vs n, (a, tupO vs n) ∈ news → (a, tupO vs n) ∈ news') {pv : PV} {v : Value} (R : Rep news pv v) : Rep news' pv v := by
  induction R with
  | int => exact .int
  | agg h1 h2 h3 h4 _ ih => exact .agg (hs _ _ _ h1) (hs _ _ _ h2) h3 h4 ih
theorem RowRep.monoT {news news' : List (Addr × Obj)} (hs : ∀ a vs n, (a, tupO vs n) ∈ news → (a, tupO vs n) ∈ news') {vs : List Value} {cells : List PV} (R : RowRep news vs cells) : RowRep news' vs cells := ⟨R.len, fun e => (R.item e).monoT hs⟩
theorem FlatLoc.monoT {news news' : List (Addr × Obj)} (hs : ∀ a vs n, (a, tupO vs n) ∈ news → (a, tupO vs n) ∈ news') {v : Value} {key : Ky} {path : List Int} (R : FlatLoc news v key path) : FlatLoc news' v key path := by
  refine hide fun GG9 hG9 => ?_
  obtain ⟨l, p, n, n', num, vs, h1, h2, h3, h4, h5, h6⟩ := R
  refine hG9 ?_
  clear hG9 GG9
  exact ⟨l, p, n, n', num, vs, h1, hs _ _ _ h2, h3, hs _ _ _ h4, h5, h6⟩
theorem LocRep.monoT {news news' : List (Addr × Obj)} (hs : ∀ a vs n, (a, tupO vs n) ∈ news → (a, tupO vs n) ∈ news') {v : Value} {key : Ky} {path : List Int} (R : LocRep news v key path) : LocRep news' v key path := by
  cases R with
  | flat h => exact .flat (h.monoT hs)
  | nest h1 h2 h3 h4 h5 => exact .nest (hs _ _ _ h1) (h2.monoT hs) (hs _ _ _ h3) h4 h5
theorem LocItem.monoT {S : Ky → Option KObj} {K : Str} {news news' : List (Addr × Obj)} {v : Value} (H : LocItem S K news v) (hs : ∀ a vs n, (a, tupO vs n) ∈ news → (a, tupO vs n) ∈ news') : LocItem S K news' v := by
  cases H with
  | mk a b => exact .mk (a.monoT hs) b
theorem KC.tup {w : World} {hp kd hx c : Addr} {g : Int} {kvs : List (Ky × Value)} {Fp : List Addr} {Xs : Ky → Addr} {S : Ky → Option KObj} {news news' : List (Addr × Obj)} {h₀ h : Heap} {L : Addr} {o : Obj} {v₀ : Option Value} (H : WT w hp kd hx g kvs Fp Xs S news) (N : News h₀ L h news) (hm : (c, o) ∈ news) (hd : o.data = .cell v₀) (K : KC c Fp news news') : ∀ a vs n, (a, tupO vs n) ∈ news → (a, tupO vs n) ∈ news' := fun a vs n h =>
  K a _ h (H.tup N h rfl) fun e => by
    subst e
    have := News.obj_eq N h hm
    rw [← this] at hd
    cases hd
theorem RowRep.upN {news news' : List (Addr × Obj)} {h₀ h : Heap} {L : Addr} {vs : List Value} {cells : List PV} (R : RowRep news vs cells) (_N : News h₀ L h news') (hs : ∀ p ∈ news, p ∈ news') : RowRep news' vs cells := R.up hs
theorem LocItem.cellN {w : World} {hp kd hx c : Addr} {g : Int} {kvs : List (Ky × Value)} {Fp : List Addr} {Xs : Ky → Addr} {S S' : Ky → Option KObj} {K : Str} {all : List (Addr × Obj)} {h₀ h h₁ h' : Heap} {L : Addr} {o o' : Obj} {v₀ : Option Value} {v : Value} (it : LocItem S K all v) (H : WT w hp kd hx g kvs Fp Xs S' all) (N : News h₀ L h all) (hm : (c, o) ∈ all) (hd : o.data = .cell v₀)
    (_N' : News h₁ L h' ((c, o') :: all.filter (fun p => decide (p.1 ≠ c)))) : LocItem S K ((c, o') :: all.filter (fun p => decide (p.1 ≠ c))) v :=
  it.monoT (KC.tup H N hm hd KC.cell)
theorem WT.cellN {w : World} {hp kd hx c : Addr} {g : Int} {kvs : List (Ky × Value)} {Fp : List Addr} {Xs : Ky → Addr} {S : Ky → Option KObj} {all : List (Addr × Obj)} {h₀ h h₁ h' : Heap} {L : Addr} {o o' : Obj} {v₀ : Option Value} (H : WT w hp kd hx g kvs Fp Xs S all) (N : News h₀ L h all) (hm : (c, o) ∈ all) (hd : o.data = .cell v₀) (hF : c ∉ tabs Fp)
    (_N' : News h₁ L h' ((c, o') :: all.filter (fun p => decide (p.1 ≠ c)))) : WT w hp kd hx g kvs Fp Xs S ((c, o') :: all.filter (fun p => decide (p.1 ≠ c))) := H.cell N hm hd hF
theorem ne_esc {prog : Program} {w : World} {A : Around} {E : Value → Shared → Prop} {s : Shared} {h₀ : Heap} {L : Addr} {news : List (Addr × Obj)} {Q : Value → Shared → Prop} {a b : Addr} {n n' : Nat} {t1 t2 t3 t4 : Tok} (N : News h₀ L s.heap news) (ha : (a, listOf #[.str (Str.ofString "escaped") t1, .str (Str.ofString "escaped") t2] n) ∈ news) (hb : (b, listOf #[.str (Str.ofString "escaped") t3, .str (Str.ofString "escaped") t4] n') ∈ news) (hu : A.units + 64 < cLine) (h : Q (.bool false) s) :
    wpAny (model prog w) A (compareOp .NotEq (.ref a) (.ref b)) Q E s :=
  ne_dataH (Reads.list (xs := [.str (Str.ofString "escaped"), .str (Str.ofString "escaped")]) (N _ ha).1 rfl rfl (.cons (.str _ _) (.cons (.str _ _) .nil))) (Reads.list (xs := [.str (Str.ofString "escaped"), .str (Str.ofString "escaped")]) (N _ hb).1 rfl rfl (.cons (.str _ _) (.cons (.str _ _) .nil))) (by decide +kernel) (by decide +kernel) hu (by simpa [PyData.eqv, PyData.eqvAll] using h)
theorem loc_top {h₀ h : Heap} {L a b : Addr} {news : List (Addr × Obj)} {num : Value} {n n' : Nat} {key : Ky} (_N : News h₀ L h ((a, tupO [num, .ref b] n) :: (b, tupO [] n') :: news)) (hk : isKy key num = true) : LocRep ((a, tupO [num, .ref b] n) :: (b, tupO [] n') :: news) (.ref a) key [] := loc_flat (.head _) (.tail _ (.head _)) hk ints_nil (by simp)
theorem PlaceOk.yesN {h₀ h : Heap} {L : Addr} {news : List (Addr × Obj)} {S : Ky → Option KObj} {key : Ky} {o : KObj} {path : List Int} {i : Int} {t : Tok} (_N : News h₀ L h news) (hS : S key = some o) (hp : peekP (some o) path = .ok (.int i)) : PlaceOk news S key path (.int i t) := .yes hS hp .int (by simp [PV.dep])
theorem facts_of {w : World} {hp kd hx : Addr} {kvs : List (Ky × Value)} {Fp : List Addr} {Xs : Ky → Addr} {cells : List PV} {num : Int} {news : List (Addr × Obj)} {v1 v2 v3 v4 v6 : Value} (H : WT w hp kd hx 5 kvs Fp Xs (cellsS cells num) news) (hkv : kvs = [(.inl 1, v1), (.inl 2, v2), (.inl 3, v3), (.inl 4, v4), (.inr (Str.ofString "main.x"), v6)]) :
    HeapAt w news hp kd 5 [(.inl 1, v1), (.inl 2, v2), (.inl 3, v3), (.inl 4, v4), (.inr (Str.ofString "main.x"), v6)] ∧
    (∃ k dk X us n, v1 = .ref k ∧ KeptAt news k dk (Str.ofString "row") (.ref X) ∧ (X, listOf us.toArray n) ∈ news ∧ RowRep news us cells ∧ us.length ≤ 900) ∧
    (∃ k dk x, v2 = .ref k ∧ KeptAt news k dk (Str.ofString "var") (.ref x) ∧ Rep news (.agg false [.int 9, .agg true cells]) (.ref x)) ∧
    (∃ k dk t, v3 = .ref k ∧ KeptAt news k dk (Str.ofString "var") (.int num t)) ∧ (∃ k dk c, v4 = .ref k ∧ KeptAt news k dk (Str.ofString "chan") c) := by
  have HH := H.W.heapAt Keeps.refl
  have s1 := H.W.some_ (.inl 1) _ rfl
  have s2 := H.W.some_ (.inl 2) _ rfl
  have s3 := H.W.some_ (.inl 3) _ rfl
  have s4 := H.W.some_ (.inl 4) _ rfl
  rw [hkv] at HH s1 s2 s3 s4
  refine ⟨HH, ?_, ?_, ?_, ?_⟩
  · obtain ⟨kv, e, hW⟩ := s1
    obtain rfl : v1 = kv := Option.some.inj e
    generalize Xs (.inl 1) = Y at hW
    cases hW with
    | row h1 h2 h3 h4 h5 h6 h7 => exact ⟨_, _, _, _, _, rfl, h1, h5, h6, by rw [h6.len]; exact h7⟩
  · obtain ⟨kv, e, hW⟩ := s2
    obtain rfl : v2 = kv := Option.some.inj e
    generalize Xs (.inl 2) = Y at hW
    cases hW with
    | var h1 h2 h3 h4 h5 =>
      cases h5 with
      | agg a b c d e => exact ⟨_, _, _, rfl, ⟨_, _, _, _, _, _, _, _, _, h1, h4⟩, .agg a b c d e⟩
  · obtain ⟨kv, e, hW⟩ := s3
    obtain rfl : v3 = kv := Option.some.inj e
    generalize Xs (.inl 3) = Y at hW
    cases hW with
    | var h1 h2 h3 h4 h5 =>
      cases h5
      exact ⟨_, _, _, rfl, ⟨_, _, _, _, _, _, _, _, _, h1, h4⟩⟩
  · obtain ⟨kv, e, hW⟩ := s4
    obtain rfl : v4 = kv := Option.some.inj e
    generalize Xs (.inl 4) = Y at hW
    cases hW with
    | chan h1 h2 h3 => exact ⟨_, _, _, rfl, h1⟩
theorem ne_nums {prog : Program} {w : World} {A : Around} {E : Value → Shared → Prop} {s : Shared} {h₀ : Heap} {L : Addr} {news : List (Addr × Obj)} {Q : Value → Shared → Prop} {a b : Addr} {n n' : Nat} {t1 t2 t3 t4 t5 u1 u2 u3 u4 u5 : Tok} (N : News h₀ L s.heap news) (ha : (a, listOf #[.int 1 t1, .int 2 t2, .int 3 t3, .int 4 t4, .str (Str.ofString "main.x") t5] n) ∈ news) (hb : (b, listOf #[.int 1 u1, .int 2 u2, .int 3 u3, .int 4 u4, .str (Str.ofString "main.x") u5] n') ∈ news) (hu : A.units + 64 < cLine) (h : Q (.bool false) s) :
    wpAny (model prog w) A (compareOp .NotEq (.ref a) (.ref b)) Q E s :=
  ne_dataH (Reads.list (xs := [.int 1, .int 2, .int 3, .int 4, .str (Str.ofString "main.x")]) (N _ ha).1 rfl rfl (.cons (.int _ _) (.cons (.int _ _) (.cons (.int _ _) (.cons (.int _ _) (.cons (.str _ _) .nil)))))) (Reads.list (xs := [.int 1, .int 2, .int 3, .int 4, .str (Str.ofString "main.x")]) (N _ hb).1 rfl rfl (.cons (.int _ _) (.cons (.int _ _) (.cons (.int _ _) (.cons (.int _ _) (.cons (.str _ _) .nil)))))) (by decide +kernel) (by decide +kernel) hu (by simpa [PyData.eqv, PyData.eqvAll] using h)
theorem cells_dep : ∀ cells : List PV, (∀ c ∈ cells, Cell2 c) → PV.depAll cells ≤ 2
  | [], _ => by simp [PV.depAll]
  | c :: r, h => by
    have h1 := (h c (.head _)).dep
    have h2 := cells_dep r fun x hx => h x (.tail _ hx)
    simp only [PV.depAll]
    omega
theorem facts_kv {w : World} {hp kd hx : Addr} {kvs : List (Ky × Value)} {Fp : List Addr} {Xs : Ky → Addr} {cells : List PV} {num : Int} {news : List (Addr × Obj)} {v1 v2 v3 v4 v6 : Value} (H : WT w hp kd hx 5 kvs Fp Xs (cellsS cells num) news) (hkv : kvs = [(.inl 1, v1), (.inl 2, v2), (.inl 3, v3), (.inl 4, v4), (.inr (Str.ofString "main.x"), v6)]) :
    HeapAt w news hp kd 5 kvs ∧
    (∃ k dk X us n, valueAt kvs (.inl 1) = some (.ref k) ∧ KeptAt news k dk (Str.ofString "row") (.ref X) ∧ (X, listOf us.toArray n) ∈ news ∧ RowRep news us cells ∧ us.length ≤ 900) ∧
    (∃ k dk x, valueAt kvs (.inl 2) = some (.ref k) ∧ KeptAt news k dk (Str.ofString "var") (.ref x) ∧ Rep news (.agg false [.int 9, .agg true cells]) (.ref x)) ∧
    (∃ k dk t, valueAt kvs (.inl 3) = some (.ref k) ∧ KeptAt news k dk (Str.ofString "var") (.int num t)) ∧ (∃ k dk c, valueAt kvs (.inl 4) = some (.ref k) ∧ KeptAt news k dk (Str.ofString "chan") c) := by
  refine hide fun GG9 hG9 => ?_
  obtain ⟨HH, ⟨k1, dk1, lr1, us, n1, e1, a1⟩, ⟨k2, dk2, x2, e2, a2⟩, ⟨k3, dk3, tk3, e3, a3⟩, ⟨k4, dk4, c4, e4, a4⟩⟩ := facts_of H hkv
  refine hG9 ?_
  clear hG9 GG9
  subst hkv
  exact ⟨HH, ⟨k1, dk1, lr1, us, n1, by rw [← e1]; rfl, a1⟩, ⟨k2, dk2, x2, by rw [← e2]; rfl, a2⟩, ⟨k3, dk3, tk3, by rw [← e3]; rfl, a3⟩, ⟨k4, dk4, c4, by rw [← e4]; rfl, a4⟩⟩
theorem News.drop_two {h₀ h : Heap} {L : Addr} {x y : Addr × Obj} {news : List (Addr × Obj)} (N : News h₀ L h (x :: y :: news)) : News h₀ L h news := News.perm N fun p hp => .tail _ (.tail _ hp)
theorem News.drop_one {h₀ h : Heap} {L : Addr} {x : Addr × Obj} {news : List (Addr × Obj)} (N : News h₀ L h (x :: news)) : News h₀ L h news := News.perm N fun p hp => .tail _ hp
theorem Rep.upN {news news' : List (Addr × Obj)} {h₀ h : Heap} {L : Addr} {v : Value} {q : PV} (R : Rep news q v) (_N : News h₀ L h news') (hs : ∀ p ∈ news, p ∈ news') : Rep news' q v := R.up hs
theorem TT.nil {Fp : List Addr} {news : List (Addr × Obj)} (H : TT Fp news) : TT [] news := by
  refine hide fun GG9 hG9 => ?_
  obtain ⟨⟨p1, a1, b1⟩, p2, a2, b2⟩ := H
  refine hG9 ?_
  clear hG9 GG9
  have tab : ∀ {qual : Str} {P : Addr} {ps : Array Value}, TabInv (tabs Fp) P qual ps news → TabInv (tabs []) P qual ps news := fun H => ⟨H.tri, fun pos cv e => by
    refine hide fun GG9 hG9 => ?_
    obtain ⟨c', oc, vs, t, h1, h2, h3, h4, h5, h6⟩ := H.at_ pos cv e
    refine hG9 ?_
    clear hG9 GG9
    refine ⟨c', oc, vs, t, h1, h2, h3, h4, fun q => h5 ?_, h6⟩
    rcases List.mem_cons.mp q with q | q
    · exact q ▸ .head _
    rcases List.mem_cons.mp q with q | q
    · exact q ▸ .tail _ (.head _)
    · cases q⟩
  exact ⟨⟨p1, a1, tab b1⟩, p2, a2, tab b2⟩
end
local macro_rules | `(tactic| k_mem) => `(tactic| first | assumption | exact List.mem_cons_self | (refine List.mem_cons_of_mem _ ?_; k_mem) | (refine List.mem_append_right _ ?_; k_mem) | (refine Ph.sub (by assumption) _ ?_; k_mem))
theorem kw_M31 : True := by
  k_with "mine led" => (k_here; k_dflt (refine led_all (by k_asm) (by k_asm) (by k_asm) (by k_asm) (by k_asm) (by rfl) (by ktr_room) (by ktr_units) (by first | assumption | exact LocRep.up (by assumption) (fun _ hq => by k_mem)) ?_; intro zv' zh' ztk' zex' zfl' zxt' zF' zN'; obtain ⟨l', p', n1', n2', num', vs', ev', g1', g2', g3', g4', g5'⟩ := zfl'; subst ev'; (have gz' := Ints.le g4' g5'); (try dsimp only)))
  k_with "call ref" => walk_at "mine led"
  k_with "mine cell_all" => (k_here; k_dflt (refine cell_all (by k_asm) (by k_asm) (by k_asm) (by k_asm) (by k_asm) (by rfl) (by ktr_room) (by ktr_units) (by k_mem) (by assumption) (by k_mem) (by assumption) ?_ ?_; intros; (try dsimp only); rotate_left 1; walk_at "mine fail"))
  k_with "call ref" => walk_at "mine cell_all"
  k_with "mine part_all" => (k_here; k_dflt (refine part_all (by k_asm) (by k_asm) (by k_asm) (by k_asm) (by k_asm) (by rfl) (by ktr_room) (by ktr_units) (by walk_at "mine rep") (by k_mem) (by first | assumption | exact Ints.drop (by assumption) _) ?_ ?_; intros; (try dsimp only); rotate_left 1; walk_at "mine fail"))
  k_with "call ref" => walk_at "mine part_all"
  k_with "mine peek_all" => (k_here; k_dflt (refine peek_all (by k_asm) (by k_asm) (by k_asm) (by k_asm) (by k_asm) (by rfl) (by ktr_room) (by ktr_units) (by first | assumption | exact HeapAt.up (by assumption) (fun _ hq => by k_mem)) (by first | assumption | exact LocRep.up (by assumption) (fun _ hq => by k_mem)) (by first | assumption | exact KObjAt.up (by assumption) (fun _ hq => by k_mem)) ?_ ?_; intros; (try dsimp only); rotate_left 1; (intro k0; walk_at "mine fail")))
  k_with "call ref" => walk_at "mine peek_all"
  k_with "mine with_all" => (k_here; k_dflt (refine with_all (by k_asm) (by k_asm) (by k_asm) (by k_asm) (by k_asm) (by rfl) (by ktr_room) (by ktr_units) (by walk_at "mine rep") (by k_mem) (by first | assumption | exact Ints.drop (by assumption) _) (by first | assumption | omega | (simp only [List.length_drop]; omega)) (by walk_at "mine rep") (by first | assumption | exact peek_row_some (by assumption) (by assumption) (by assumption) (by assumption) (by assumption)) ?_; intros; (try dsimp only)))
  k_with "call ref" => walk_at "mine with_all"
  k_with "eval Name" => (k_here; k_dflt (refine name_free' (by k_asm) (by exact rfl) (by k_mem) (by assumption) ?_ (by exact rfl) (by exact rfl); k_whole))
  k_with "mine load_W" => (k_here; k_dflt (refine load_W (by k_asm) (by k_asm) (by k_asm) (by k_asm) (by k_asm) (by rfl) (by ktr_room) (by ktr_units) (by assumption) (by assumption) ?_ ?_; intros; (try dsimp only); rotate_left 1; (intro k0; walk_at "mine fail")))
  k_with "call ref" => walk_at "mine load_W"
  k_with "mine store_any" => (k_here; k_dflt (refine store_any (by k_asm) (by k_asm) (by k_asm) (by k_asm) (by k_asm) (by rfl) (by ktr_room) (by ktr_units) (by assumption) (by assumption) (by first | assumption | exact Rep.int) ?_ ?_; intros; (try dsimp only); rotate_left 1; (intro k0; walk_at "mine fail")))
  k_with "call ref" => walk_at "mine store_any"
  k_with "mine told_no" => (k_here; k_dflt (refine told_no (by assumption) (by assumption) (by assumption) (by assumption) (by assumption) (by rfl) (by ktr_room) (by ktr_units) (by assumption) (by assumption) (by assumption) (by assumption) (by assumption) ?_; k_whole; intros; (try dsimp only)))
  k_with "mine told_rep" => (k_here; k_dflt (refine told_rep (by assumption) (by assumption) (by assumption) (by assumption) (by assumption) (by rfl) (by ktr_room) (by ktr_units) (by assumption) (by assumption) (by assumption) (by assumption) (by assumption) ?_; k_whole; intros; (try dsimp only)))
  k_with "mine told_put" => (k_here; k_dflt (refine told_put (by assumption) (by assumption) (by assumption) (by assumption) (by assumption) (by rfl) (by ktr_room) (by ktr_units) (by assumption) (by assumption) (by assumption) (by assumption) (by assumption) ?_; k_whole; intros; (try dsimp only)))
  k_with "call ref" => walk_at "mine told_no"
  k_with "call ref" => walk_at "mine told_rep"
  k_with "call ref" => walk_at "mine told_put"
  k_with "mine load_int" => (k_here; k_dflt (refine load_int (by k_asm) (by k_asm) (by k_asm) (by k_asm) (by k_asm) (by rfl) (by ktr_room) (by ktr_units) (by assumption) (by assumption) (by assumption) ?_; intros; (try dsimp only)))
  k_with "call ref" => walk_at "mine load_int"
  k_with "mine store_yes" => (k_here; k_dflt (refine store_W (by k_asm) (by k_asm) (by k_asm) (by k_asm) (by k_asm) (by rfl) (by ktr_room) (by ktr_units) (by walk_at "mine W") (by walk_at "mine loc") (by walk_at "mine rep") (by assumption) (by assumption) ?_; intros; (try dsimp only)))
  k_with "call ref" => walk_at "mine store_yes"
  k_with "mine W" => first | assumption | exact Wd.up (by assumption) (fun _ hq => by k_mem)
  k_with "mine loc" => first | assumption | exact LocRep.up (by assumption) (fun _ hq => by k_mem)
  k_with "call ref" => walk_at "mine place"
  k_with "mine WT" => first | assumption | exact WT.up (by assumption) (fun _ hq => by k_mem)
  k_with "mine pok" => first | assumption | exact PlaceOk.up (by assumption) (fun _ hq => by k_mem)
  k_with "mine ints" => first | assumption | exact ints_nil | exact ints_one _ _ | exact ints_two _ _ _ _ | exact Ints.app (by assumption) (ints_one _ _) | exact Ints.app (by assumption) (ints_two _ _ _ _)
  k_with "mine beg" => first | assumption | exact LocRep.up (by assumption) (fun _ hq => by k_mem) | (refine BegRep.loc (BegRep.up (by assumption) (fun _ hq => by k_mem)) (by k_mem) (by k_mem) (by walk_at "mine ints") ?_; (simp only [List.length_append, List.length_cons, List.length_nil]; omega))
  k_with "mine plus" => first | assumption | (refine Ph.cons (by walk_at "mine plus") (by first | assumption | exact kst_ltOf (by assumption)))
  k_with "mine newP" => (k_here; k_dflt (refine new_P (by k_asm) (by k_asm) (by k_asm) (by k_asm) (by k_asm) (by rfl) (by ktr_room) (by ktr_units) ?_; intro zh' ztk' zhp' zhx' zkd' zall' zP' zF' zN'; (refine Ph.use zP' ?_; intros); (try dsimp only)))
  k_with "call ref" => walk_at "mine newP"
  k_with "mine makeP" => (k_here; k_dflt (refine make_P (by k_asm) (by k_asm) (by k_asm) (by k_asm) (by k_asm) (by rfl) (by ktr_room) (by ktr_units) (by walk_at "mine plus") (by exact Nat.le_of_ble_eq_true rfl) (by decide) (by decide) (by rfl) ?_; intro zh' ztk' zk' zdk' za1' za2' za3' zb1' zb2' zb3' zwh' znk' zu' zall' zl1' zl2' zl3' zl4' zP' zF' zN'; (refine Ph.use zP' ?_; intros); (try dsimp only)))
  k_with "call ref" => walk_at "mine makeP"
  k_with "mine namedP" => (k_here; k_dflt (refine named_P (by k_asm) (by k_asm) (by k_asm) (by k_asm) (by k_asm) (by rfl) (by ktr_room) (by ktr_units) (by walk_at "mine plus") (by exact Nat.le_of_ble_eq_true rfl) ?_; intro zh' ztk' zk' zdk' za1' za2' za3' zb1' zb2' zb3' ztv' zwh' znk' zall' zl1' zl2' zl3' zl4' zP' zF' zN'; (refine Ph.use zP' ?_; intros); (try dsimp only)))
  k_with "call ref" => walk_at "mine namedP"
  k_with "mine dropP" => (k_here; k_dflt (refine drop_P (by k_asm) (by k_asm) (by k_asm) (by k_asm) (by k_asm) (by rfl) (by ktr_room) (by ktr_units) (by walk_at "mine plus") ?_; intro zh' ztk' zall' zP' zF' zN'; (refine Ph.use zP' ?_; intros); (try dsimp only)))
  k_with "call ref" => walk_at "mine dropP"
  k_with "mine freeP" => (k_here; k_dflt (refine free_P (by k_asm) (by k_asm) (by k_asm) (by k_asm) (by k_asm) (by rfl) (by ktr_room) (by ktr_units) (by walk_at "mine plus") (by k_mem) (by exact ints_two _ _ _ _) ?_; intro zh' ztk' zall' zP' zF' zN'; (refine Ph.use zP' ?_; intros); (try dsimp only)))
  k_with "call ref" => walk_at "mine freeP"
  k_with "eval Name" => (k_here; k_dflt (refine nameX_C (by k_asm) (by exact rfl) (by k_mem) (by assumption) ?_ (by exact rfl) (by exact rfl); k_whole))
  k_with "mine chan" => (k_here; k_dflt (refine chan_new (by k_asm) (by k_asm) (by k_asm) (by k_asm) (by k_asm) (by rfl) (by ktr_room) (by ktr_units) ?_; intros; (try dsimp only)))
  k_with "call ref" => walk_at "mine chan"
  k_with "mine rowrep" => first | assumption | exact RowRep.up (by assumption) (fun _ hq => by k_mem)
  k_with "mine begrep" => first | assumption | exact BegRep.up (by assumption) (fun _ hq => by k_mem)
  k_with "mine elements" => (k_here; k_dflt (refine elements_all (by assumption) (by assumption) (by assumption) (by assumption) (by assumption) (by rfl) (by ktr_room) (by ktr_units) (by assumption) (by assumption) (by assumption) (by walk_at "mine WT") (by walk_at "mine begrep") (by k_mem) (by assumption) (by assumption) (by k_mem) (by assumption) (by walk_at "mine rowrep") (by assumption) (by omega) (by assumption) (by assumption) ?_; intros; (try dsimp only)))
  k_with "call ref" => walk_at "mine elements"
  k_with "mine storecell" => (k_here; k_dflt (refine store_cell (by k_asm) (by k_asm) (by exact rfl) (by k_mem) (by assumption) ?_ (by exact rfl) (by exact rfl); intros; (try dsimp only)))
  k_with "storeName" => walk_at "mine storecell"
  k_with "mine values" => (k_here; k_dflt (refine values_all (by k_asm) (by k_asm) (by k_asm) (by k_asm) (by k_asm) (by rfl) (by ktr_room) (by ktr_units) (by first | assumption | exact HeapAt.up (by assumption) (fun _ hq => by k_mem)) (by first | exact ky_int _ _ | exact ky_str _ _) (by assumption) (by first | assumption | exact KeptAt.up (by assumption) (fun _ hq => by k_mem)) (by k_mem) (by first | assumption | omega) ?_; intros; (try dsimp only)))
  k_with "call ref" => walk_at "mine values"
  k_with "mine content" => (k_here; k_dflt (refine content_all (by k_asm) (by k_asm) (by k_asm) (by k_asm) (by k_asm) (by rfl) (by ktr_room) (by ktr_units) (by first | assumption | exact HeapAt.up (by assumption) (fun _ hq => by k_mem)) (by first | exact ky_int _ _ | exact ky_str _ _) (by assumption) (by first | assumption | exact KeptAt.up (by assumption) (fun _ hq => by k_mem)) (by first | exact .inl ⟨_, rfl⟩ | exact .inr ⟨_, _, rfl⟩) ?_; intros; (try dsimp only)))
  k_with "call ref" => walk_at "mine content"
  k_with "mine kindof" => (k_here; k_dflt (refine kind_all (by k_asm) (by k_asm) (by k_asm) (by k_asm) (by k_asm) (by rfl) (by ktr_room) (by ktr_units) (by first | assumption | exact HeapAt.up (by assumption) (fun _ hq => by k_mem)) (by first | exact ky_int _ _ | exact ky_str _ _) (by assumption) (by first | assumption | exact KeptAt.up (by assumption) (fun _ hq => by k_mem)) ?_; intros; (try dsimp only)))
  k_with "call ref" => walk_at "mine kindof"
  trivial
section
local macro_rules | `(tactic| walk_at "exec For Tuple List cons nil") => `(tactic| (k_here; (rename Fr _ _ _ _ => lF'); (with_unfolding_all refine' For_go lF' ?_); k_whole))
local macro_rules | `(tactic| walk_at "exec For Name List cons nil") => `(tactic| (k_here; (rename Fr _ _ _ _ => lF'); (with_unfolding_all refine' For_go lF' ?_); k_whole))
local macro_rules | `(tactic| walk_at "exec For Name Name cons nil") => `(tactic| (k_here; (rename Fr _ _ _ _ => lF'); (with_unfolding_all refine' For_go lF' ?_); k_whole))
theorem numbers_kv {w : World} {mean : ExcName → Option Value} {mg mb : Str → Option Value} {dp un : Nat} {gd : Option (List Code)} {cn : Str} {cs : Scope} {a : Addr} {ccd : Value} {cl : List (Str × Addr)} {outer : List Env} {A₀ : Around} {base h₀ : Heap} {L : Addr} {m : Str → Option Value} {news : List (Addr × Obj)} {s : Shared} {Q E : Value → Shared → Prop}
    (B : Below A₀ base outer h₀) (F : Fr h₀ L s.heap m) (X : (hd.heap_39 w.params).In h₀) (N : News h₀ L s.heap news) (T : Top PP LL mean mg mb h₀) (hk : cs.kind = .function) (hdp : dp + 200 < recursionLimit) (hun : un + 2000 < cLine)
    {hp kd : Addr} {g : Int} {kvs : List (Ky × Value)} {v1 v2 v3 v4 v5 : Value} (H : HeapAt w news hp kd g kvs) (hkv : kvs = [(.inl 1, v1), (.inl 2, v2), (.inl 3, v3), (.inl 4, v4), (.inr (Str.ofString "main.x"), v5)])
    (hret : ∀ h' tk' r u1 u2 u3 u4 u5 n, Fr h₀ L h' m → News h₀ L h' ((r, listOf #[.int 1 u1, .int 2 u2, .int 3 u3, .int 4 u4, .str (Str.ofString "main.x") u5] n) :: news) → Q (.ref r) { s with heap := h', toks := tk' }) :
    wpAny (model Prg w) (ktrTop dp un gd cn cs L a ccd cl outer) (call (.ref 171) [.ref hp]) Q E s := by
  subst hkv
  exact numbers_all B F X N T hk hdp hun H hret
theorem facts_use {w : World} {hp hx kd : Addr} {kvs : List (Ky × Value)} {Fp : List Addr} {Xs : Ky → Addr} {cells : List PV} {num : Int} {news : List (Addr × Obj)} {v1 v2 v3 v4 v6 : Value} {C : Prop} (H : WT w hp kd hx 5 kvs Fp Xs (cellsS cells num) news) (hkv : kvs = [(.inl 1, v1), (.inl 2, v2), (.inl 3, v3), (.inl 4, v4), (.inr (Str.ofString "main.x"), v6)])
    (h : HeapAt w news hp kd 5 kvs → ∀ k1 dk1 lr1 us n1, valueAt kvs (.inl 1) = some (.ref k1) → KeptAt news k1 dk1 (Str.ofString "row") (.ref lr1) → (lr1, listOf us.toArray n1) ∈ news → RowRep news us cells → us.length ≤ 900 →
      ∀ k2 dk2 x2, valueAt kvs (.inl 2) = some (.ref k2) → KeptAt news k2 dk2 (Str.ofString "var") (.ref x2) → Rep news (.agg false [.int 9, .agg true cells]) (.ref x2) → ∀ k3 dk3 t3, valueAt kvs (.inl 3) = some (.ref k3) → KeptAt news k3 dk3 (Str.ofString "var") (.int num t3) →
      ∀ k4 dk4 c4, valueAt kvs (.inl 4) = some (.ref k4) → KeptAt news k4 dk4 (Str.ofString "chan") c4 → C) : C := by
  refine hide fun GG9 hG9 => ?_
  obtain ⟨HH, ⟨k1, dk1, lr1, us, n1, hv1, ka1, kl1, kr1, kz1⟩, ⟨k2, dk2, x2, hv2, ka2, kr2⟩, ⟨k3, dk3, tk3, hv3, ka3⟩, ⟨k4, dk4, c4, hv4, ka4⟩⟩ := facts_kv H hkv
  refine hG9 ?_
  clear hG9 GG9
  exact h HH k1 dk1 lr1 us n1 hv1 ka1 kl1 kr1 kz1 k2 dk2 x2 hv2 ka2 kr2 k3 dk3 tk3 hv3 ka3 k4 dk4 c4 hv4 ka4
theorem right_all {w : World} {mean : ExcName → Option Value} {mg mb : Str → Option Value} {dp un : Nat} {gd : Option (List Code)} {cn : Str} {cs : Scope} {a : Addr} {ccd : Value} {cl : List (Str × Addr)} {outer : List Env} {A₀ : Around} {base h₀ : Heap} {L : Addr} {m : Str → Option Value} {news : List (Addr × Obj)} {s : Shared} {Q E : Value → Shared → Prop}
    (B : Below A₀ base outer h₀) (F : Fr h₀ L s.heap m) (X : (hd.heap_39 w.params).In h₀) (N : News h₀ L s.heap news) (T : Top PP LL mean mg mb h₀) (hk : cs.kind = .function) (hdp : dp + 690 < recursionLimit) (hun : un + 9000 < cLine) (XB : (hd.heap_39 w.params).In base) (TB : Top PP LL mean mg mb base) (D : KtsDicts (outer.filterMap (·.frame)) h₀)
    {vs : List Value} {cells : List PV} {lc : Addr} {nc : Nat} {num : Int} {tn : Tok} (hc : (lc, listOf vs.toArray nc) ∈ news) (hrow : RowRep news vs cells) (hc2 : ∀ c ∈ cells, Cell2 c) (hcl : cells.length ≤ 600) (hTT : TT [] news) {xa : Addr} {xo : Obj} (hxm : (xa, xo) ∈ news) (hxt : ∀ ps, xo ≠ tabObj ps)
    (hret : ∀ h' tk' h₀' news', KtsTurn (outer.filterMap (·.frame)) h₀ h₀' → Below A₀ base outer h₀' → (hd.heap_39 w.params).In h₀' → Top PP LL mean mg mb h₀' → KtsDicts (outer.filterMap (·.frame)) h₀' → Fr h₀' L h' m → News h₀' L h' news' → TT [] news' → (xa, xo) ∈ news' → Q (.bool true) { s with heap := h', toks := tk' }) :
    wpAny (model Prg w) (ktrTop dp un gd cn cs L a ccd cl outer) (call (.ref 393) [.ref lc, .int num tn]) Q E s := by
  have hfill : (hd.heap_39 = hd.heap_39 ∧ PySem.Challenge.rw_pf0075_01 = PySem.Challenge.rw_pf0075_01) → True := by
    k_fill
    intro _; trivial
  clear hfill
  have hvl : vs.length ≤ 1000 := by rw [hrow.len]; omega
  refine wpAny_call ?_
  k_dflt (refine' code_TC ?k1 ?k2 ?k3 ?k4 ?k5 ?kD ?kA ?kF ?kK ?k6 ?k7 ?k8 ?k9 ?kB ?kN ?_ ?c2 ?c3 ?c4; (case kA => exact rfl); (case kF => exact rfl); (case kK => first | exact rfl | assumption); (case k1 => k_asm); (case k2 => k_asm); (case k3 => k_asm); (case k4 => k_asm); (case k5 => k_asm); (case kD => assumption); (case k6 => k_is); (case k7 => k_is); (case k8 => ktr_room); (case k9 => first | exact BindsTo.of_eq rfl | exact binds_K (by k_in) rfl (by k_is) rfl rfl rfl); (case kB => exact rfl); (case kN => decide +kernel); (case c2 => exact rfl); (case c3 => exact rfl); (case c4 => exact rfl); k_whole); intro g1 L1 h1 tk1 cells1 FG1 F1 N1 Y1 B1 X1 T1 l1 D1
  k_fold
  k_cells Y1
  simp only [List.cons_append, List.nil_append] at N1
  rename_i oL oH dL dH
  replace dH : oH.data = .cell none := dH
  replace dL : oL.data = .cell none := dL
  replace F1 : Fr _ _ _ (fun y => if y = Str.ofString "number" then some (.int num tn) else if y = Str.ofString "cells" then some (.ref lc) else none) := F1
  iterate 5 (first | (k_unfold; (try dsimp only)) | walk1)
  refine' heap_new ?B ?F ?X ?N ?T ?hk ?d1 ?d2 ?ret
  case B => k_asm
  case F => k_asm
  case X => k_asm
  case N => k_asm
  case T => k_asm
  case hk => rfl
  case d1 => ktr_room
  case d2 => ktr_units
  case' ret => intro h2 tk2 hp hx kd ko q1 q2 q3 q4 q5 t1 t2 t3 t4 t5 tg t0 nh lo lt hd0 n1 n2 F2 N2
  have e1 : hp ≠ L1 + 1 := News.apart N2 (.tail _ (.tail _ (.head _))) (.tail _ (.tail _ (.tail _ (.tail _ (.head _))))) (fun e => by rw [← e] at dH; cases dH)
  have e2 : ∀ p ∈ news, p.1 ≠ L1 + 1 := fun p hp => Nat.ne_of_lt (Nat.lt_succ_of_lt (l1 p hp))
  have e3 : kd ≠ L1 + 1 := fun e => n2 _ (.tail _ (.tail _ (.tail _ (.head _)))) e.symm
  have e4 : hx ≠ L1 + 1 := fun e => n1 _ (.tail _ (.tail _ (.head _))) e.symm
  have e5 : L1 + 1 + 1 ≠ L1 + 1 := Nat.succ_ne_self _
  refine' storeX_C (c := L1 + 1) ?F ?N rfl ?U dH ?ret2 rfl rfl
  case F => exact F2
  case N => exact N2
  case U => exact .tail e3 (.tail e4 (.tail e1 (.tail e5 (.head e2))))
  intro h3 oH3 F3 N3 dH3
  have P : Ph w hp hx kd 0 [] 0 ((hp, instObj 244 hx) :: (L1 + 1 + 1, oL) :: (L1 + 1, oH3) :: news) _ := Ph.of (h1 := q1) (h2 := q2) (h3 := q3) (h4 := q4) (h5 := q5) (t1 := t1) (t2 := t2) (t3 := t3) (t4 := t4) (t5 := t5) (tg := tg) (t0 := t0) (n := nh) (ko := ko) (no := 0) trivial lo lt (by simp) hd0 (.head _) (fun p hp => by
      rcases List.mem_cons.mp hp with rfl | hp
      · exact n1 _ (.head _)
      rcases List.mem_cons.mp hp with rfl | hp
      · exact n1 _ (.tail _ (.head _))
      rcases List.mem_cons.mp hp with rfl | hp
      · exact fun q => e4 q.symm
      · exact n1 _ (.tail _ (.tail _ (.tail _ hp)))) (fun p hp => by
      rcases List.mem_cons.mp hp with rfl | hp
      · exact n2 _ (.tail _ (.head _))
      rcases List.mem_cons.mp hp with rfl | hp
      · exact n2 _ (.tail _ (.tail _ (.head _)))
      rcases List.mem_cons.mp hp with rfl | hp
      · exact fun q => e3 q.symm
      · exact n2 _ (.tail _ (.tail _ (.tail _ (.tail _ hp)))))
  obtain ⟨rest0, hrest0⟩ : ∃ r, r = (L1 + 1 + 1, oL) :: (L1 + 1, oH3) :: news := ⟨_, rfl⟩
  have mL : (L1 + 1 + 1, oL) ∈ rest0 := by rw [hrest0]; exact .head _
  have mH : (L1 + 1, oH3) ∈ rest0 := by rw [hrest0]; exact .tail _ (.head _)
  have sub0 : ∀ p ∈ news, p ∈ rest0 := fun p hp => by rw [hrest0]; exact .tail _ (.tail _ hp)
  have mc0 := sub0 _ hc
  have mx0 := sub0 _ hxm
  have nxL : xa ≠ L1 + 1 + 1 := Nat.ne_of_lt (Nat.lt_succ_of_lt (Nat.lt_succ_of_lt (l1 _ hxm)))
  rw [← hrest0] at P
  generalize hall : ((kd, ko) :: (hx, hpO q1 q2 q3 q4 q5 t1 t2 t3 t4 t5 kd 0 tg t0 nh) :: (hp, instObj 244 hx) :: rest0) = all at P
  replace N3 : News g1 L1 h3 all := by rw [← hall, hrest0]; exact N3
  have k1 := P.lt
  refine Ph.use P fun _ _ _ _ _ _ _ _ _ _ _ _ _ mx => ?_
  clear F1 N1 F2 N2 e1 e2 e3 e4 e5 n1 n2 hd0 dH hall
  dsimp only
  iterate 174 (first | (k_unfold; (try dsimp only)) | walk1)
  rename Ph _ _ _ _ _ _ _ _ _ => PE
  rename News _ _ _ _ => N5
  rename Fr _ _ _ (fun y => _) => F5
  have PE' : Ph w hp hx kd 5 [(.inl 1, .ref _), (.inl 2, .ref _), (.inl 3, .ref _), (.inl 4, .ref _), (.inr (Str.ofString "main.x"), .ref _)] 21 _ _ := PE
  obtain ⟨kvs, Fp, Xs, ⟨v1, v2, v3, v4, v6, hkv⟩, H5, off5⟩ : ∃ kvs Fp Xs, (∃ v1 v2 v3 v4 v6, kvs = [((.inl 1 : Ky), v1), (.inl 2, v2), (.inl 3, v3), (.inl 4, v4), (.inr (Str.ofString "main.x"), v6)]) ∧ WT w hp kd hx 5 kvs Fp Xs (cellsS cells num) _ ∧ ∀ a o, (a, o) ∈ rest0 → a ∉ Fp := by
    obtain ⟨H5, off5⟩ := world_of PE' (hrow.up sub0) hcl (hTT.up sub0)
    exact ⟨_, _, _, ⟨_, _, _, _, _, rfl⟩, H5, off5⟩
  have F6 : ∃ u1 u2 u3 u4 u5, Fr g1 L1 _ (fun y => if y = Str.ofString "plain" then some (.int 3 u3) else if y = Str.ofString "line" then some (.int 4 u4) else if y = Str.ofString "gone" then some (.int 5 u5) else if y = Str.ofString "row" then some (.int 1 u1) else if y = Str.ofString "array" then some (.int 2 u2) else if y = Str.ofString "number" then some (.int num tn) else if y = Str.ofString "cells" then some (.ref lc) else none) := ⟨_, _, _, _, _, F5⟩
  refine hide fun GG9 hG9 => ?_
  obtain ⟨u1, u2, u3, u4, u5, F7⟩ := F6
  refine hG9 ?_
  clear hG9 GG9
  have sub5 : ∀ p ∈ rest0, p ∈ _ := fun p h => PE.sub p (by k_mem)
  clear P mx PE PE' F5 lo lt k1
  have offT : ∀ a o, (a, o) ∈ rest0 → (∀ ps, o ≠ tabObj ps) → a ∉ tabs Fp := fun a o h ht q => by
    rcases List.mem_cons.mp q with e | q
    · obtain ⟨ps, h1, _⟩ := H5.T.a
      subst e
      exact ht ps (News.obj_eq N5 (sub5 _ h) h1)
    rcases List.mem_cons.mp q with e | q
    · obtain ⟨ps, h1, _⟩ := H5.T.b
      subst e
      exact ht ps (News.obj_eq N5 (sub5 _ h) h1)
    · exact off5 _ _ h q
  have cLn := offT _ _ mL (fun ps e => by rw [e] at dL; cases dL)
  have cHn := offT _ _ mH (fun ps e => by rw [e] at dH3; cases dH3)
  have lcn := offT _ _ mc0 (fun ps e => by cases e)
  have xn := offT _ _ mx0 hxt
  have hrow5 := hrow.up fun p h => sub5 p (sub0 p h)
  replace mL := sub5 _ mL
  replace mH := sub5 _ mH
  have mc5 := sub5 _ mc0
  have mx5 := sub5 _ mx0
  have ncL : lc ≠ L1 + 1 + 1 := News.apart N5 mc5 mL (fun e => by rw [← e] at dL; cases dL)
  clear sub5 sub0 off5 offT mc0 mx0 hxm hrest0 l1
  iterate 46 (first | (k_unfold; (try dsimp only)) | walk1)
  rename News _ _ _ (_ :: _) => N8
  rename Fr _ _ _ (fun y => _) => F8
  rename _ < _ ∧ _ < _ ∧ _ < _ ∧ _ < _ ∧ _ < _ ∧ _ < _ ∧ _ < _ ∧ _ < _ ∧ AllLt _ _ => l8
  have items := beg_items (cells := cells) (num := num) N8 (.tail _ (.tail _ (.tail _ (.tail _ (.tail _ (.tail _ (.tail _ (.head _)))))))) (.tail _ (.tail _ (.tail _ (.tail _ (.tail _ (.tail _ (.tail _ (.tail _ (.head _))))))))) (.tail _ (.tail _ (.tail _ (.tail _ (.tail _ (.head _)))))) (.tail _ (.tail _ (.tail _ (.tail _ (.tail _ (.tail _ (.head _))))))) (.tail _ (.head _)) (.tail _ (.tail _ (.head _))) (.tail _ (.tail _ (.tail _ (.head _)))) (.tail _ (.tail _ (.tail _ (.tail _ (.head _)))))
  have nlx := H5.lt (kst_ltOf l8.2.2.2.2.2.2.2.2) (Nat.le_refl _)
  have tup8 : ∀ news', KO Fp _ news' → ∀ a o, (a, o) ∈ _ → o.cls = .type "tuple" → (a, o) ∈ news' := fun _ K => (H5.up (fun _ h => .tail _ (.tail _ (.tail _ (.tail _ (.tail _ (.tail _ (.tail _ (.tail _ (.tail _ h)))))))))).tups N8 K
  have up8 := up_nine N8
  refine iter_listT (vs := [_, _, _]) F8 N8 (Gd (ktrTop dp un gd cn cs L a ccd cl outer) base (envX cn cs L a ccd cl :: outer) g1) (fun g h b e => h.none_ b e) ⟨KtsTurn.refl, B1, D1⟩
    (fun m₀ i m' news' => (∀ y, y ≠ Str.ofString "begin" → y ≠ Str.ofString "path" → m' y = m₀ y) ∧ (_, listOf _ 0) ∈ news' ∧ WT w hp kd hx 5 kvs Fp Xs (cellsS cells num) news' ∧ KO Fp _ news') ⟨fun _ _ _ => rfl, .head _, H5.up (fun _ h => .tail _ (.tail _ (.tail _ (.tail _ (.tail _ (.tail _ (.tail _ (.tail _ (.tail _ h))))))))), KO.refl⟩ (fun i m news hJ => hJ.2.1) ?_ ?_ rfl
  · intro I2 g2 i2 v2' m2 news2 h6 tk6 o2 hG2 hv2 hJ2 ho2 hn2 F9 N9
    have hm2 := hJ2.1
    have ml2 := hJ2.2.1
    have H2 := hJ2.2.2.1
    have K2 := hJ2.2.2.2
    clear hJ2
    have hm' := m_two _ _ hm2
    generalize m2 (Str.ofString "begin") = y1 at hm'
    generalize m2 (Str.ofString "path") = y2 at hm'
    rw [hm'] at F9
    clear hm' hm2
    have t2 := hG2.turn
    have B2 := hG2.below
    have D2 := hG2.dicts
    have X2 := XB.keeps B2.stays
    have T2 := TB.keeps B2.stays
    have it := (items i2 v2' hv2).mono (tup8 _ K2)
    have nI2 := H2.notit hn2
    obtain ⟨all2, hall2⟩ : ∃ all2, all2 = (I2, o2) :: news2 := ⟨_, rfl⟩
    have sub2 : ∀ p ∈ news2, p ∈ all2 := fun p hp => by rw [hall2]; exact .tail _ hp
    have mI2 : (I2, o2) ∈ all2 := by rw [hall2]; exact .head _
    rw [← hall2] at N9
    have mH2 := sub2 _ (K2 _ _ (up8 _ mH) cHn)
    have mc2 := sub2 _ (K2 _ _ (up8 _ mc5) lcn)
    have row2 := ((hrow5.up up8).mono (tup8 _ K2)).up sub2
    have HA := H2.up sub2
    clear F8 N8
    cases it with
    | mk i1 i2' i3 i4 i5 i6 i7 =>
      replace i1 := sub2 _ i1
      replace i2' := i2'.up sub2
      replace i3 := sub2 _ i3
      k_steps
      rename Below _ _ _ _ => B10
      rename Fr _ _ _ (fun y => _) => F10
      rename News _ _ _ _ => N10
      rename KtsTurn _ _ _ => t10
      rename KtsDicts _ _ => D10
      rename WT _ _ _ _ _ _ _ _ _ _ => H10
      rename KO _ _ _ => K10
      exact end_turn ⟨t2.trans t10, B10, D10⟩ F10 N10 K10 H10 hall2 ho2 (by decide) nI2 K2 hn2 fun W K => ⟨fun y a b => by simp only [if_neg a, if_neg b], rest_in (K10 _ _ (sub2 _ ml2) nlx) (fun e => hn2 _ ml2 e), W, K⟩
  · intro g2 m2 news2 h6 tk6 hG2 hJ2 F9 N9
    have hm2 := hJ2.1
    have ml2 := hJ2.2.1
    have H2 := hJ2.2.2.1
    have K2 := hJ2.2.2.2
    clear hJ2
    have hm' := m_two _ _ hm2
    generalize m2 (Str.ofString "begin") = y1 at hm'
    generalize m2 (Str.ofString "path") = y2 at hm'
    rw [hm'] at F9
    have t2 := hG2.turn
    have B2 := hG2.below
    have D2 := hG2.dicts
    have X2 := XB.keeps B2.stays
    have T2 := TB.keeps B2.stays
    have mH2 := K2 _ _ (up8 _ mH) cHn
    have mL2 := K2 _ _ (up8 _ mL) cLn
    have mc2 := K2 _ _ (up8 _ mc5) lcn
    have mx2 := K2 _ _ (up8 _ mx5) xn
    have row2 := (hrow5.up up8).mono (tup8 _ K2)
    clear hm' hm2 items tup8 up8 nlx ml2 K2 F8 N8 mH mL mc5 mx5 hrow5 H5 l8
    dsimp only
    iterate 92 (first | (k_unfold; (try dsimp only)) | walk1)
    rename News _ _ _ (_ :: _) => N8
    rename Fr _ _ _ (fun y => _) => F8
    rename _ < _ ∧ _ < _ ∧ _ < _ ∧ _ < _ ∧ _ < _ ∧ _ < _ ∧ _ < _ ∧ _ < _ ∧ _ < _ ∧ _ < _ ∧ _ < _ ∧ _ < _ ∧ _ < _ ∧ _ < _ ∧ AllLt _ _ => l8
    have items := wrong_items (cells := cells) (num := num) N8 (.tail _ (.tail _ (.tail _ (.tail _ (.tail _ (.tail _ (.tail _ (.tail _ (.tail _ (.tail _ (.tail _ (.tail _ (.tail _ (.head _)))))))))))))) (.tail _ (.tail _ (.tail _ (.tail _ (.tail _ (.tail _ (.tail _ (.tail _ (.tail _ (.tail _ (.tail _ (.tail _ (.tail _ (.tail _ (.head _))))))))))))))) (.tail _ (.tail _ (.tail _ (.tail _ (.tail _ (.tail _ (.tail _ (.tail _ (.tail _ (.tail _ (.tail _ (.head _)))))))))))) (.tail _ (.tail _ (.tail _ (.tail _ (.tail _ (.tail _ (.tail _ (.tail _ (.tail _ (.tail _ (.tail _ (.tail _ (.head _))))))))))))) (.tail _ (.tail _ (.tail _ (.tail _ (.tail _ (.tail _ (.tail _ (.tail _ (.tail _ (.head _)))))))))) (.tail _ (.tail _ (.tail _ (.tail _ (.tail _ (.tail _ (.tail _ (.tail _ (.tail _ (.tail _ (.head _))))))))))) (.tail _ (.tail _ (.tail _ (.tail _ (.tail _ (.tail _ (.tail _ (.head _)))))))) (.tail _ (.tail _ (.tail _ (.tail _ (.tail _ (.tail _ (.tail _ (.tail _ (.head _))))))))) (.tail _ (.tail _ (.tail _ (.tail _ (.tail _ (.head _)))))) (.tail _ (.tail _ (.tail _ (.tail _ (.tail _ (.tail _ (.head _))))))) (.tail _ (.tail _ (.tail _ (.head _)))) (.tail _ (.tail _ (.tail _ (.tail _ (.head _))))) (.tail _ (.head _)) (.tail _ (.tail _ (.head _)))
    have up8 := up_fourteen N8
    have lt8 := lt_of_news N8 l8
    have H8 := H2.upN N8 fun p h => .tail _ (up8 p h)
    have nlx := H2.lt (fun p hp => lt8 p (up8 p hp)) (Nat.le_refl _)
    have nlc := Nat.ne_of_gt (lt8 _ (up8 _ mL2))
    have tup8 := fun news' => KC.tup (news' := news') H8 N8 (.tail _ (up8 _ mL2)) dL
    refine iter_listT (vs := [_, _, _, _, _, _, _]) F8 N8 (Gd (ktrTop dp un gd cn cs L a ccd cl outer) base (envX cn cs L a ccd cl :: outer) g2) (fun g h b e => h.none_ b e) ⟨KtsTurn.refl, B2, D2⟩
      (fun m₀ i m' news' => m' = m₀ ∧ (_, listOf _ 0) ∈ news' ∧ (∃ oc vc, (L1 + 1 + 1, oc) ∈ news' ∧ oc.data = .cell vc) ∧ WT w hp kd hx 5 kvs Fp Xs (cellsS cells num) news' ∧ KC (L1 + 1 + 1) Fp _ news') ⟨rfl, .head _, ⟨_, _, .tail _ (up8 _ mL2), dL⟩, H8, KC.refl⟩ (fun i m news hJ => hJ.2.1) ?_ ?_ rfl
    · intro I3 g3 i3 v3' m3 news3 h7 tk7 o3 hG3 hv3 hJ3 ho3 hn3 F9 N9
      obtain rfl := hJ3.1
      have ml3 := hJ3.2.1
      have H3 := hJ3.2.2.2.1
      have K3 := hJ3.2.2.2.2
      obtain ⟨oc, vc, mL3, dc⟩ := hJ3.2.2.1
      clear hJ3
      have t3 := hG3.turn
      have B3 := hG3.below
      have D3 := hG3.dicts
      have X3 := XB.keeps B3.stays
      have T3 := TB.keeps B3.stays
      have it := (items i3 v3' hv3).monoT (tup8 _ K3)
      have nI3 := H3.notit hn3
      have nIc : I3 ≠ L1 + 1 + 1 := fun e => hn3 _ mL3 e.symm
      obtain ⟨all3, hall3⟩ : ∃ all3, all3 = (I3, o3) :: news3 := ⟨_, rfl⟩
      have sub3 : ∀ p ∈ news3, p ∈ all3 := fun p hp => by rw [hall3]; exact .tail _ hp
      have mI3 : (I3, o3) ∈ all3 := by rw [hall3]; exact .head _
      rw [← hall3] at N9
      have mH3 := sub3 _ (K3 _ _ (.tail _ (up8 _ mH2)) cHn (Nat.ne_of_lt (Nat.lt_succ_self _)))
      have mL3' := sub3 _ mL3
      have HA := H3.up sub3
      clear F8 N8
      iterate 2 (first | (k_unfold; (try dsimp only)) | walk1)
      rename_i hh4 o4 d4 F10 N10
      (try k_fold)
      have H4 := HA.cellN N9 mL3' dc cLn N10
      have it4 := (it.up sub3).cellN HA N9 mL3' dc N10
      obtain ⟨all4, hall4⟩ : ∃ all4, all4 = (L1 + 1 + 1, o4) :: all3.filter (fun p => decide (p.1 ≠ L1 + 1 + 1)) := ⟨_, rfl⟩
      have mH4 : (L1 + 1, oH3) ∈ all4 := by rw [hall4]; exact .tail _ (rest_in mH3 (Nat.ne_of_lt (Nat.lt_succ_self _)))
      have mL4 : (L1 + 1 + 1, o4) ∈ all4 := by rw [hall4]; exact .head _
      have K4 : KC (L1 + 1 + 1) Fp all3 all4 := by rw [hall4]; exact KC.cell
      rw [← hall4] at N10 H4 it4
      clear hall4 N9
      cases it4 with
      | mk q1 q2 =>
        have pok : PlaceOk all4 (cellsS cells num) _ _ .none := .no q2
        k_steps
        rename Below _ _ _ _ => B5
        rename Fr _ _ _ (fun y => _) => F11
        rename News _ _ _ _ => N11
        rename KtsTurn _ _ _ => t5
        rename KtsDicts _ _ => D5
        rename WT _ _ _ _ _ _ _ _ _ _ => H6
        rename KO _ _ _ => K6
        exact end_turnC ⟨t3.trans t5, B5, D5⟩ F11 N11 (K4.trans (KC.of K6)) H6 hall3 ho3 (by decide) nI3 nIc K3 hn3 fun W K => ⟨rfl, rest_in ((K4.trans (KC.of K6)) _ _ (sub3 _ ml3) nlx nlc) (fun e => hn3 _ ml3 e), ⟨o4, _, rest_in (K6 _ _ mL4 cLn) nIc.symm, d4⟩, W, K⟩
    · intro g3 m3 news3 h7 tk7 hG3 hJ3 F9 N9
      obtain rfl := hJ3.1
      have ml3 := hJ3.2.1
      have H3 := hJ3.2.2.2.1
      have K3 := hJ3.2.2.2.2
      obtain ⟨oc, vc, mL3, dc⟩ := hJ3.2.2.1
      clear hJ3
      have t3 := hG3.turn
      have B3 := hG3.below
      have D3 := hG3.dicts
      have X3 := XB.keeps B3.stays
      have T3 := TB.keeps B3.stays
      have nc1 : L1 + 1 ≠ L1 + 1 + 1 := Nat.ne_of_lt (Nat.lt_succ_self _)
      have mH3 := K3 _ _ (.tail _ (up8 _ mH2)) cHn nc1
      have mc3 := K3 _ _ (.tail _ (up8 _ mc2)) lcn ncL
      have mx3 := K3 _ _ (.tail _ (up8 _ mx2)) xn nxL
      have row3 := (row2.upN N8 fun p h => .tail _ (up8 p h)).monoT (tup8 _ K3)
      replace t3 := t2.trans t3
      clear items tup8 up8 lt8 nlx nlc ml3 K3 F8 N8 mH2 mL2 mc2 mx2 row2 H2 H8 l8 dL B2 D2 X2 T2 t2
      dsimp only
      iterate 47 (first | (k_unfold; (try dsimp only)) | walk1)
      rename News _ _ _ (_ :: _) => N8
      rename Fr _ _ _ (fun y => _) => F8
      rename _ < _ ∧ _ < _ ∧ _ < _ ∧ _ < _ ∧ _ < _ ∧ _ < _ ∧ _ < _ ∧ _ < _ ∧ AllLt _ _ => l8
      have items := gone_items (cells := cells) (num := num) N8 (.tail _ (.tail _ (.tail _ (.tail _ (.tail _ (.tail _ (.tail _ (.head _)))))))) (.tail _ (.tail _ (.tail _ (.tail _ (.tail _ (.tail _ (.tail _ (.tail _ (.head _))))))))) (.tail _ (.tail _ (.tail _ (.tail _ (.tail _ (.head _)))))) (.tail _ (.tail _ (.tail _ (.tail _ (.tail _ (.tail _ (.head _))))))) (.tail _ (.tail _ (.tail _ (.head _)))) (.tail _ (.tail _ (.tail _ (.tail _ (.head _))))) (.tail _ (.head _)) (.tail _ (.tail _ (.head _)))
      have up8 := up_eight N8
      have lt8 := lt_of_news N8 l8
      have H8 := H3.upN N8 fun p h => .tail _ (up8 p h)
      have nlx := H3.lt (fun p hp => lt8 p (up8 p hp)) (Nat.le_refl _)
      have nlc := Nat.ne_of_gt (lt8 _ (up8 _ mL3))
      have tup8 := fun news' => KC.tup (news' := news') H8 N8 (.tail _ (up8 _ mL3)) dc
      refine iter_listT (vs := [_, _, _, _]) F8 N8 (Gd (ktrTop dp un gd cn cs L a ccd cl outer) base (envX cn cs L a ccd cl :: outer) g3) (fun g h b e => h.none_ b e) ⟨KtsTurn.refl, B3, D3⟩
        (fun m₀ i m' news' => (∀ y, y ≠ Str.ofString "told" → m' y = m₀ y) ∧ (_, listOf _ 0) ∈ news' ∧ (∃ oc vc, (L1 + 1 + 1, oc) ∈ news' ∧ oc.data = .cell vc) ∧ WT w hp kd hx 5 kvs Fp Xs (cellsS cells num) news' ∧ KC (L1 + 1 + 1) Fp _ news') ⟨fun _ _ => rfl, .head _, ⟨_, _, .tail _ (up8 _ mL3), dc⟩, H8, KC.refl⟩ (fun i m news hJ => hJ.2.1) ?_ ?_ rfl
      · intro I4 g4 i4 v4' m4 news4 h8 tk8 o4 hG4 hv4 hJ4 ho4 hn4 F9 N9
        have hm4 := hJ4.1
        have ml4 := hJ4.2.1
        have H4 := hJ4.2.2.2.1
        have K4 := hJ4.2.2.2.2
        obtain ⟨oc4, vc4, mL4, dc4⟩ := hJ4.2.2.1
        clear hJ4
        have hm' := m_one _ hm4
        generalize m4 (Str.ofString "told") = y3 at hm'
        rw [hm'] at F9
        have t4 := hG4.turn
        have B4 := hG4.below
        have D4 := hG4.dicts
        have X4 := XB.keeps B4.stays
        have T4 := TB.keeps B4.stays
        have it := (items i4 v4' hv4).monoT (tup8 _ K4)
        have nI4 := H4.notit hn4
        have nIc : I4 ≠ L1 + 1 + 1 := fun e => hn4 _ mL4 e.symm
        obtain ⟨all4, hall4⟩ : ∃ all4, all4 = (I4, o4) :: news4 := ⟨_, rfl⟩
        have sub4 : ∀ p ∈ news4, p ∈ all4 := fun p hp => by rw [hall4]; exact .tail _ hp
        have mI4 : (I4, o4) ∈ all4 := by rw [hall4]; exact .head _
        rw [← hall4] at N9
        have mH4 := sub4 _ (K4 _ _ (.tail _ (up8 _ mH3)) cHn nc1)
        have mL4' := sub4 _ mL4
        have HA := H4.up sub4
        clear F8 N8 hm' hm4
        iterate 2 (first | (k_unfold; (try dsimp only)) | walk1)
        rename_i hh5 o5 d5 F10 N10
        (try k_fold)
        have H5 := HA.cellN N9 mL4' dc4 cLn N10
        have it5 := (it.up sub4).cellN HA N9 mL4' dc4 N10
        obtain ⟨all5, hall5⟩ : ∃ all5, all5 = (L1 + 1 + 1, o5) :: all4.filter (fun p => decide (p.1 ≠ L1 + 1 + 1)) := ⟨_, rfl⟩
        have mH5 : (L1 + 1, oH3) ∈ all5 := by rw [hall5]; exact .tail _ (rest_in mH4 nc1)
        have mL5 : (L1 + 1 + 1, o5) ∈ all5 := by rw [hall5]; exact .head _
        have K5 : KC (L1 + 1 + 1) Fp all4 all5 := by rw [hall5]; exact KC.cell
        rw [← hall5] at N10 H5 it5
        clear hall5 N9 it
        cases it5 with
        | mk q1 q2 =>
          iterate 8 (first | (k_unfold; (try dsimp only)) | walk1)
          have C := codeHd_of_K (c := 392) (P := 388) X4 (by kernel_rfl)
          refine kla_eval rfl ?_
          refine lam388 F10 N10 T4 C rfl H5 rfl ?_
          intro f6 c6 ctv6 oc6 vs6 t6 h9 tk9 all6 F11 N11 H6 K6 mf mc e1 e2 l6
          have S6 : AskSpec w mean mg mb base f6 all6 (fun _ _ => False) (fun k => k = Str.ofString "escaped") := AskSpec.load_no (ask_load3 H6.W (q1.ko H5 N10 K6) mf mc e1 e2 (K6 _ _ mH5 cHn) dH3 (K6 _ _ mL5 cLn) d5) q2
          have q6 := q1.ko H5 N10 K6
          have mH6 := K6 _ _ mH5 cHn
          have mL6 := K6 _ _ mL5 cLn
          have K06 := K5.trans (KC.of (c := L1 + 1 + 1) K6)
          clear N10 C H5 mH5 mL5 K6 mc e1 e2 F10
          iterate 8 (first | (k_unfold; (try dsimp only)) | walk1)
          rename Below _ _ _ _ => B6
          rename Frag.In _ _ => X6
          rename Fr _ _ _ (fun y => _) => F12
          rename News _ _ _ all6 => N12
          rename KtsTurn _ _ _ => t7
          rename KtsDicts _ _ => D6
          rename Top _ _ _ _ _ _ => T6
          clear S6 mf
          have C := codeHd_of_K (c := 392) (P := 388) X6 (by kernel_rfl)
          refine kla_eval rfl ?_
          refine lam388 F12 N12 T6 C rfl H6 rfl ?_
          intro f7 c7 ctv7 oc7 vs7 t8 h10 tk10 all7 F13 N13 H7 K7 mf mc e1 e2 l7
          have S7 : AskSpec w mean mg mb base f7 all7 (fun _ _ => False) (fun k => k = Str.ofString "escaped") := AskSpec.store_no (ask_store3 H7.W (q6.ko H6 N12 K7) mf mc e1 e2 (K7 _ _ mH6 cHn) dH3 (K7 _ _ mL6 cLn) d5) q2
          have K07 := K06.trans (KC.of (c := L1 + 1 + 1) K7)
          have mL7 := K7 _ _ mL6 cLn
          clear C N12 H6 q6 mH6 mL6 K06 K7 mc e1 e2 F12
          iterate 18 (first | (k_unfold; (try dsimp only)) | walk1)
          rename News _ _ _ (_ :: _ :: all7) => N14
          refine ne_esc N14 (.tail _ (.head _)) (.head _) (by ktr_units) ?_
          replace N14 : News _ _ _ all7 := News.perm N14 fun p hp => .tail _ (.tail _ hp)
          k_steps
          rename Below _ _ _ _ => B7
          rename Fr _ _ _ (fun y => _) => F14
          rename KtsTurn _ _ _ => t9
          rename KtsDicts _ _ => D7
          exact end_turnC ⟨t4.trans (t7.trans t9), B7, D7⟩ F14 N14 K07 H7 hall4 ho4 (by decide) nI4 nIc K4 hn4 fun W K => ⟨fun y a => by simp only [if_neg a], rest_in (K07 _ _ (sub4 _ ml4) nlx nlc) (fun e => hn4 _ ml4 e), ⟨o5, _, rest_in mL7 nIc.symm, d5⟩, W, K⟩
      · intro g4 m4 news4 h8 tk8 hG4 hJ4 F9 N9
        have hm4 := hJ4.1
        have ml4 := hJ4.2.1
        have H4 := hJ4.2.2.2.1
        have K4 := hJ4.2.2.2.2
        clear hJ4
        have hm' := m_one _ hm4
        generalize m4 (Str.ofString "told") = y3 at hm'
        rw [hm'] at F9
        have t4 := hG4.turn
        have B4 := hG4.below
        have D4 := hG4.dicts
        have X4 := XB.keeps B4.stays
        have T4 := TB.keeps B4.stays
        have mH4 := K4 _ _ (.tail _ (up8 _ mH3)) cHn nc1
        have mc4 := K4 _ _ (.tail _ (up8 _ mc3)) lcn ncL
        have mx4 := K4 _ _ (.tail _ (up8 _ mx3)) xn nxL
        have row4 := (row3.upN N8 fun p h => .tail _ (up8 p h)).monoT (tup8 _ K4)
        replace t4 := t3.trans t4
        clear items tup8 up8 lt8 nlx nlc ml4 K4 F8 N8 mH3 mL3 mc3 mx3 row3 H3 H8 l8 B3 D3 X3 T3 t3 hm' hm4 dc
        have pok : PlaceOk news4 (cellsS cells num) (.inl 3) [] (.int num tn) := .yes rfl rfl .int (by simp [PV.dep])
        dsimp only
        iterate 20 (first | (k_unfold; (try dsimp only)) | walk1)
        rename News _ _ _ (_ :: _ :: news4) => N20
        have loc1 := loc_top (n := 0) (n' := 0) N20 (ky_int 3 u3)
        have tup20 := fun news' => (H4.upN N20 (fun p h => .tail _ (.tail _ h))).tups (news' := news') N20
        have row20 := row4.upN N20 (fun p h => .tail _ (.tail _ h))
        iterate 12 (first | (k_unfold; (try dsimp only)) | walk1)
        rename Below _ _ _ _ => B5
        rename Frag.In _ _ => X5
        rename Fr _ _ _ (fun y => _) => F21
        rename News _ _ _ _ => N21
        rename KtsTurn _ _ _ => t5
        rename KtsDicts _ _ => D5
        rename Top _ _ _ _ _ _ => T5
        rename WT _ _ _ _ _ _ _ _ _ _ => H5
        rename KO _ _ _ => K5
        have row5 := row20.mono (tup20 _ K5)
        have mH5 := K5 _ _ (.tail _ (.tail _ mH4)) cHn
        have mc5 := K5 _ _ (.tail _ (.tail _ mc4)) lcn
        have mx5 := K5 _ _ (.tail _ (.tail _ mx4)) xn
        replace t5 := t4.trans t5
        have pok2 : PlaceOk _ (cellsS cells num) (.inr (Str.ofString "main.x")) [] (.int num tn) := PlaceOk.yesN N21 (main_x cells num) rfl
        clear K5 row20 tup20 loc1 N20 H4 row4 mc4 mx4 mH4 t4 B4 X4 T4 D4 pok
        iterate 15 (first | (k_unfold; (try dsimp only)) | walk1)
        rename News _ _ _ (_ :: _ :: _) => N22
        have loc2 := loc_top (n := 0) (n' := 0) N22 (ky_str (Str.ofString "main.x") _)
        have tup22 := fun news' => (H5.upN N22 (fun p h => .tail _ (.tail _ h))).tups (news' := news') N22
        have row22 := row5.upN N22 (fun p h => .tail _ (.tail _ h))
        iterate 7 (first | (k_unfold; (try dsimp only)) | walk1)
        rename Below _ _ _ _ => B6
        rename Frag.In _ _ => X6
        rename Fr _ _ _ (fun y => _) => F23
        rename News _ _ _ _ => N23
        rename KtsTurn _ _ _ => t6
        rename KtsDicts _ _ => D6
        rename Top _ _ _ _ _ _ => T6
        rename WT _ _ _ _ _ _ _ _ _ _ => H6
        rename KO _ _ _ => K6
        have row6 := row22.mono (tup22 _ K6)
        have mH6 := K6 _ _ (.tail _ (.tail _ mH5)) cHn
        have mc6 := K6 _ _ (.tail _ (.tail _ mc5)) lcn
        have mx6 := K6 _ _ (.tail _ (.tail _ mx5)) xn
        replace t6 := t5.trans t6
        refine facts_use H6 hkv fun HH k1 dk1 lr1 us n1 hv1 ka1 kl1 kr1 kz1 k2 dk2 x2 hv2 ka2 kr2 k3 dk3 tk3 hv3 ka3 k4 dk4 c4 hv4 ka4 => ?_
        refine HeapAt.use HH fun _ _ _ _ _ _ _ _ _ _ _ _ _ _ w1 w2 => ?_
        clear K6 row22 tup22 loc2 N22 H5 row5 mc5 mx5 mH5 t5 B5 X5 T5 D5 pok2
        iterate 12 (first | (k_unfold; (try dsimp only)) | walk1)
        dsimp only
        refine' callWith_K0 (K := hd.heap_39 w.params) ?k1 ?k2 ?_
        case k1 => exact X6.keeps F23.keep
        case k2 => k_is
        dsimp only [List.cons_append, List.nil_append]
        refine numbers_kv (v1 := v1) (v2 := v2) (v3 := v3) (v4 := v4) (v5 := v6) B6 F23 X6 N23 T6 rfl ?_ ?_ HH hkv ?_
        · ktr_room
        · ktr_units
        intro h24 tk24 r24 y1' y2' y3' y4' y5' n24 F24 N24
        dsimp only
        iterate 13 (first | (k_unfold; (try dsimp only)) | walk1)
        rename News _ _ _ (_ :: _ :: _) => N25
        refine ne_nums N25 (.tail _ (.head _)) (.head _) (by ktr_units) ?_
        iterate 12 (first | (k_unfold; (try dsimp only)) | walk1)
        rename Fr _ _ _ (fun y => _) => F26
        have N26 := News.drop_two N25
        clear N25
        refine values_all (key := .inl 1) B6 F26 X6 N26 T6 rfl ?_ ?_ HH (ky_int 1 u1) hv1 ka1 kl1 kz1 ?_
        · ktr_room
        · ktr_units
        intro h27 tk27 r27 n27 F27 N27
        dsimp only
        iterate 1 (first | (k_unfold; (try dsimp only)) | walk1)
        refine ne_rows (cells := cells) N27 (.head _) (.tail _ mc6) (kr1.upN N27 fun _ h => .tail _ h) (row6.upN N27 fun _ h => .tail _ h) (Nat.le_trans (cells_dep cells hc2) (by omega)) (by ktr_units) ?_
        have N28 := News.drop_one N27
        clear N27 N26 F26
        iterate 17 (first | (k_unfold; (try dsimp only)) | walk1)
        rename Fr _ _ _ (fun y => _) => F28
        refine content_all (key := .inl 2) B6 F28 X6 N28 T6 rfl ?_ ?_ HH (ky_int 2 u2) hv2 ka2 (.inl ⟨_, rfl⟩) ?_
        · ktr_room
        · ktr_units
        intro h29 tk29 F29 N29
        clear N28
        dsimp only
        iterate 25 (first | (k_unfold; (try dsimp only)) | walk1)
        rename News _ _ _ (_ :: _ :: _ :: _ :: _) => N30
        have row30 := row6.upN N30 (fun _ h => .tail _ (.tail _ (.tail _ (.tail _ h))))
        refine ne_PV N30 (kr2.upN N30 fun _ h => .tail _ (.tail _ (.tail _ (.tail _ h)))) (rep_array (.head _) (.tail _ (.head _)) (.tail _ (.tail _ (.head _))) (.tail _ (.tail _ (.tail _ (.head _)))) row30 hcl) (by have := cells_dep cells hc2; simp only [PV.dep, PV.depAll]; omega) (by ktr_units) ?_
        have N31 := News.drop_two (News.drop_two N30)
        clear N30 row30
        iterate 12 (first | (k_unfold; (try dsimp only)) | walk1)
        rename Fr _ _ _ (fun y => _) => F32
        refine content_all (key := .inl 3) B6 F32 X6 N31 T6 rfl ?_ ?_ HH (ky_int 3 u3) hv3 ka3 (.inr ⟨_, _, rfl⟩) ?_
        · ktr_room
        · ktr_units
        intro h33 tk33 F33 N33
        clear N31 F32
        dsimp only
        iterate 2 (first | (k_unfold; (try dsimp only)) | walk1)
        rw [show (num != num) = false from bne_self_eq_false num]
        iterate 16 (first | (k_unfold; (try dsimp only)) | walk1)
        rename Fr _ _ _ (fun y => _) => F34
        refine kind_all (key := .inl 4) B6 F34 X6 N33 T6 rfl ?_ ?_ HH (ky_int 4 u4) hv4 ka4 ?_
        · ktr_room
        · ktr_units
        intro h35 tk35 t35 F35 N35
        clear N33 F34
        dsimp only
        iterate 2 (first | (k_unfold; (try dsimp only)) | walk1)
        exact LeaveT.intro t6 F35 N35 fun h₀' t f n b d => hret _ _ _ _ t b (XB.keeps b.stays) (TB.keeps b.stays) d f n H6.T.nil mx6
end
theorem kw_M34 : True := by
  k_with_none
  k_with "exec Raise some none" => (k_here; refine Raise_any rfl ?_)
  k_with "mine fault_made" => (k_here; k_dflt (refine fault_made (by k_asm) (by k_asm) (by k_asm) (by k_asm) (by k_asm) (by rfl) (by ktr_room) (by ktr_units) ?_; k_whole; intros))
  k_with "call ref" => walk_at "mine fault_made"
  k_with "MadeThen" => (refine madeThen_intro (by k_asm) (by k_asm) (by k_asm) ?_)
  k_with "call builtin:len" => (k_here; (with_reducible show wpAny _ _ (call (Value.builtin "len") [Value.ref _]) _ _ _); k_dflt (refine len_T (by exact News.isTup (by k_asm) (by k_mem)) (by first | assumption | decide) ?_; k_whole))
  k_with "subscriptTail" => (k_here; (with_reducible show wpAny _ _ (subscriptTail _ _ (Value.ref _) (Value.int _ _)) _ _ _); k_dflt (refine item_tupleT (by exact News.isTup (by k_asm) (by k_mem)) (by first | decide | omega) (by first | decide | omega) (by first | rfl | assumption | exact seq0 _ _) (by first | rfl | assumption) ?_; k_whole))
  k_with "mine fail" => (intros; unfold FailP; intros; (try dsimp only))
  k_with "mine rep" => first | assumption | exact Rep.up (by assumption) (fun _ hq => by k_mem) | exact Rep.up (RowRep.item (by assumption) (by assumption)) (fun _ hq => by k_mem)
  k_with "mine inner_all" => (k_here; k_dflt (refine inner_all (by k_asm) (by k_asm) (by k_asm) (by k_asm) (by k_asm) (by rfl) (by ktr_room) (by ktr_units) (by walk_at "mine rep") ?_ ?_; intros; (try dsimp only); rotate_left 1; walk_at "mine fail"))
  k_with "call ref" => walk_at "mine inner_all"
  k_with "subscriptTail" => (k_here; (with_reducible show wpAny _ _ (subscriptTail _ _ (Value.ref _) (Value.int _ _)) _ _ _); k_dflt (refine item_litK (by exact News.isList (by k_asm) (by k_mem)) (by first | decide | omega) (by first | decide | omega) (by first | rfl | assumption) ?_ (by with_unfolding_all rfl); k_whole))
  k_with "mine cut" => first | (refine cut_to (by k_asm) (by k_asm) (by k_mem) (by first | assumption | omega) (by first | assumption | omega) (by first | assumption | omega) ?_ (by with_unfolding_all rfl) (by (intro _; with_unfolding_all rfl)); k_whole; intros; (try dsimp only)) | (refine cut_from (by k_asm) (by k_asm) (by k_mem) (by first | assumption | omega) (by first | assumption | omega) (by first | assumption | omega) ?_ (by with_unfolding_all rfl) (by (intro _; with_unfolding_all rfl)); k_whole; intros; (try dsimp only))
  k_with "subscriptTail Name Slice ref ref" => (k_here; k_dflt (walk_at "mine cut"))
  k_with "subscriptTail Subscript" => (k_here; (with_reducible show wpAny _ _ (subscriptTail _ _ (Value.ref _) (Value.ref _)) _ _ _); k_dflt (walk_at "mine cut"))
  k_with "binaryOp Add ref ref" => (k_here; k_dflt (refine add_T (by k_asm) (by k_asm) (by k_mem) (by k_mem) (by first | omega | (simp; done) | (simp; omega) | (simp only [List.length_append, List.length_take, List.length_drop, List.length_cons, List.length_nil]; omega)) ?_; k_whole); intros; (try dsimp only))
  k_with "mine notin" => (k_here; k_dflt (first | (refine mix_out (by k_asm) (by k_mem) (by assumption) (by assumption) (by assumption) (by assumption) ?_; k_whole) | (refine mix_in (by k_asm) (by k_mem) (by assumption) (by assumption) (by assumption) (by assumption) ?_; k_whole)))
  k_with "compareOp NotIn int ref" => walk_at "mine notin"
  k_with "compareOp NotIn str ref" => walk_at "mine notin"
  k_with "mine item" => (k_here; k_dflt (refine mix_item (by k_asm) (by k_mem) (by assumption) (by assumption) (by assumption) ?_ (by with_unfolding_all rfl) (by (intro _; with_unfolding_all rfl)); k_whole))
  k_with "subscriptTail" => walk_at "mine item"
  k_with "subscriptTail Attribute" => walk_at "mine item"
  k_with "compareOp Eq ref ref" => (k_here; k_dflt (refine eq_nil (by k_asm) (by k_mem) (by k_mem) (by ktr_units) ?_; k_whole); (try dsimp only [List.isEmpty]))
  k_with "call builtin:len" => (k_here; (with_reducible show wpAny _ _ (call (Value.builtin "len") [Value.ref _]) _ _ _); k_dflt (refine len_L (by k_asm) (by k_mem) (by first | assumption | decide) ?_; k_whole))
  k_with "mine fail0" => (unfold FailP; intros; (try dsimp only))
  k_with "mine setattr" => (k_here; k_dflt (refine set_dict (by k_asm) (by k_asm) (by k_asm) (by k_inst) (by exact rfl) (by k_is) (by k_is) (by k_is) (by k_is) (by k_get) (by exact rfl) (by k_upd) (by exact Nat.le_of_ble_eq_true rfl) ?_; k_whole; intros; (try k_sweep)))
  k_with "setAttr ref" => walk_at "mine setattr"
  k_with "noteFrame ref" => (k_here; k_dflt (refine caughtD (by assumption) (by assumption) (by assumption) (by assumption) (by assumption) (by assumption) (by exact KtsTurn.refl) (by k_is) (by kts_isx) ?_; k_whole); intros; (try k_fold))
  k_with "mine ask" => (k_here; k_dflt (refine AskSpec.use (by assumption) (by k_asm) (by k_asm) (by k_asm) (by k_asm) (by k_asm) (by rfl) (by ktr_room) (by ktr_units) ?_ ?_; intros; (try dsimp only); rotate_left 1; (intro k0; walk_at "mine fail")))
  k_with "call ref" => walk_at "mine ask"
  k_with "getAttr ref" => (k_here; (with_reducible show wpAny _ _ (getAttr (Value.ref _) (Str.ofString "kind") _) _ _ _); (rename Obj.cls _ = Value.ref 59 => hc59); k_dflt (refine get_kind (by k_asm) (by k_asm) (by k_asm) (by k_mem) (by k_mem) (by assumption) (by assumption) (by assumption) (by assumption) ?_; k_whole))
  k_with "mine mixset" => (k_here; k_dflt (refine mix_set (by k_asm) (by k_asm) (by k_updF) (by assumption) (by first | exact mix_int _ _ _ _ | exact mix_str _ _ _ _) (by assumption) ?_; k_whole); intro zh' zo' zF' zN' zhd'; (try dsimp only at zN'))
  k_with "mine copylist" => (k_here; (with_reducible show wpAny _ _ (call (Value.type "list") [Value.ref _]) _ _ _); k_dflt (refine copy_list (by k_asm) (by k_asm) (by k_mem) (by first | assumption | omega) ?_; k_whole); intro zD' zc' zh' zF' zN' zl1; (try k_lt zl1))
  k_with "call type:list" => walk_at "mine copylist"
  k_with "mine copytuple" => (k_here; (with_reducible show wpAny _ _ (call (Value.type "tuple") [Value.ref _]) _ _ _); k_dflt (refine copy_tuple (by k_asm) (by k_asm) (by k_mem) (by first | assumption | omega) ?_; k_whole); intro zD' zh' zF' zN' zl1; (try k_lt zl1))
  k_with "call type:tuple" => walk_at "mine copytuple"
  k_with "mine mixmeth" => (k_here; (with_reducible show wpAny _ _ (getMethod (Value.ref _) (Str.ofString "pop") _) _ _ _); k_dflt (refine kdl_method (K := Ky) (knd := mixKind _ _) PySem.F.slot_dict_pop PySem.F.type_dict_pop (by k_asm) (by k_mem) (by assumption) ?_; k_whole))
  k_with "getMethod ref" => walk_at "mine mixmeth"
  k_with "mine mixpop" => (k_here; k_dflt (refine mix_pop (by k_asm) (by k_asm) (by k_updF) (by assumption) (by first | exact mix_int _ _ _ _ | exact mix_str _ _ _ _) rfl (by assumption) (by assumption) ?_; k_whole); intro zh' zo' zF' zN' zhd'; (try dsimp only at zN'))
  k_with "call builtin:dict.pop" => walk_at "mine mixpop"
  k_with "mine mixin" => (k_here; k_dflt (first | (refine mix_has (by k_asm) (by k_mem) (by assumption) (by assumption) (by first | exact mix_int _ _ _ _ | exact mix_str _ _ _ _) (by assumption) ?_; k_whole) | (refine mix_hasnt (by k_asm) (by k_mem) (by assumption) (by assumption) (by first | exact mix_int _ _ _ _ | exact mix_str _ _ _ _) (by assumption) ?_; k_whole)))
  k_with "compareOp In int ref" => walk_at "mine mixin"
  k_with "compareOp In str ref" => walk_at "mine mixin"
  k_with "setItem ref int" => walk_at "mine mixset"
  k_with "setItem ref str" => walk_at "mine mixset"
  trivial
section
theorem fm_bits (x y : Int) : Builtin.Int.intBits ([x, y.fmod 2147483647].getD (Int.toNat 1) 0) ≤ 64 := by
  show Builtin.Int.intBits (y.fmod 2147483647) ≤ 64
  rw [intBits_le_iff]
  have h1 := Int.fmod_nonneg_of_pos y (show (0 : Int) < 2147483647 by decide)
  have h2 := Int.fmod_lt_of_pos y (show (0 : Int) < 2147483647 by decide)
  omega
local macro_rules | `(tactic| walk_at "binaryOp Mult int int") => `(tactic| (k_here; k_dflt (refine' mul_int ?_ ?m; (case m => exact IntMulOk.of_left (fm_bits _ _)); k_whole)))
theorem News.drop_one' {h₀ h : Heap} {L : Addr} {x : Addr × Obj} {news : List (Addr × Obj)} (N : News h₀ L h (x :: news)) : News h₀ L h news := News.perm N fun p hp => .tail _ hp
theorem take_all {w : World} {mean : ExcName → Option Value} {mg mb : Str → Option Value} {dp un : Nat} {gd : Option (List Code)} {cn : Str} {cs : Scope} {a : Addr} {ccd : Value} {cl : List (Str × Addr)} {outer : List Env} {A₀ : Around} {base h₀ : Heap} {L : Addr} {m : Str → Option Value} {news : List (Addr × Obj)} {s : Shared} {Q E : Value → Shared → Prop}
    (B : Below A₀ base outer h₀) (F : Fr h₀ L s.heap m) (X : (hd.heap_39 w.params).In h₀) (N : News h₀ L s.heap news) (T : Top PP LL mean mg mb h₀) (hk : cs.kind = .function) (hdp : dp + 200 < recursionLimit) (hun : un + 2000 < cLine)
    {l : Addr} {a0 b0 top : Int} {ta tb tt : Tok} {n : Nat} (N1 : News h₀ L s.heap ((l, listOf #[.int a0 ta, .int b0 tb] n) :: news)) (hap : ∀ p ∈ news, p.1 ≠ l) (ha : 0 ≤ a0) (hb0 : 0 ≤ b0) (hb1 : b0 < 2147483647) (ht0 : 1 ≤ top) (ht1 : top ≤ 90)
    (hret : ∀ h' tk' a' b' r ta' tb' u n', 0 ≤ r → r < top → 0 ≤ a' → 0 ≤ b' → b' < 2147483647 → Fr h₀ L h' m → News h₀ L h' ((l, listOf #[.int a' ta', .int b' tb'] n') :: news) → Q (.int r u) { s with heap := h', toks := tk' }) :
    wpAny (model Prg w) (ktrTop dp un gd cn cs L a ccd cl outer) (call (.ref 351) [.ref l, .int top tt]) Q E s := by
  have hfill : (hd.heap_39 = hd.heap_39 ∧ PySem.Challenge.rw_pf0075_01 = PySem.Challenge.rw_pf0075_01) → True := by
    k_fill
    intro _; trivial
  clear hfill
  clear N
  refine wpAny_call ?_
  k_dflt cell_enter
  k_steps
  all_goals rename Fr h₀ L _ m => kF
  all_goals rename News h₀ L _ (_ :: _) => kN
  all_goals refine hret _ _ _ _ _ _ _ _ _ ?_ ?_ ?_ ?_ ?_ kF kN
  all_goals first
    | exact ha
    | exact hb0
    | exact hb1
    | exact Int.fmod_nonneg_of_pos _ (by omega)
    | exact Int.fmod_lt_of_pos _ (by omega)
    | exact Int.fdiv_nonneg ha (by omega)
end
theorem kw_M35 : True := by
  k_with "mine take" => (k_here; k_dflt (refine take_all (by k_asm) (by k_asm) (by k_asm) (by exact News.drop_one' (by k_asm)) (by k_asm) (by rfl) (by ktr_room) (by ktr_units) (by k_asm) (by assumption) (by assumption) (by assumption) (by assumption) (by decide) (by decide) ?_; intros; (try dsimp only)))
  k_with "call ref" => walk_at "mine take"
  trivial
section
theorem News.swap2 {h₀ h : Heap} {L : Addr} {x y : Addr × Obj} {news : List (Addr × Obj)} (N : News h₀ L h (x :: y :: news)) : News h₀ L h (y :: x :: news) := News.perm N fun p hp => by
  rcases List.mem_cons.mp hp with rfl | hp
  · exact .tail _ (.head _)
  rcases List.mem_cons.mp hp with rfl | hp
  · exact .head _
  · exact .tail _ (.tail _ hp)
theorem ap_tup {h₀ h : Heap} {L l x : Addr} {vs : Array Value} {ws : List Value} {n k : Nat} {news : List (Addr × Obj)} (N : News h₀ L h ((l, listOf vs n) :: (x, tupO ws k) :: news)) (hap : ∀ p ∈ news, p.1 ≠ l) : ∀ p ∈ (x, tupO ws k) :: news, p.1 ≠ l := fun p hp => by
  rcases List.mem_cons.mp hp with rfl | hp
  · exact News.apart N (.tail _ (.head _)) (.head _) (fun e => by have h : Value.type "tuple" = Value.type "list" := congrArg Obj.cls e; injection h with h; exact absurd h (by decide))
  · exact hap p hp
theorem ends_two {h₀ h : Heap} {L l x y : Addr} {vs : Array Value} {ws us : List Value} {n k j : Nat} {news : List (Addr × Obj)} {C : Prop} (N : News h₀ L h ((y, tupO us j) :: (l, listOf vs n) :: (x, tupO ws k) :: news)) (hap : ∀ p ∈ (x, tupO ws k) :: news, p.1 ≠ l)
    (lA : l < x ∧ AllLt x news) (lB : l < y ∧ x < y ∧ AllLt y news)
    (hC : (∀ p ∈ [(y, tupO us j), (x, tupO ws k)], p.1 ≠ l ∧ ∀ q ∈ news, q.1 ≠ p.1) → News h₀ L h ((l, listOf vs n) :: (y, tupO us j) :: (x, tupO ws k) :: news) → C) : C := by
  refine hC (fun p hp => ?_) (News.swap2 N)
  rcases List.mem_cons.mp hp with rfl | hp
  · exact ⟨Ne.symm (Nat.ne_of_lt lB.1), fun q hq => Nat.ne_of_lt (kst_ltOf lB.2.2 q hq)⟩
  · rw [List.mem_singleton.mp hp]
    exact ⟨Ne.symm (Nat.ne_of_lt lA.1), fun q hq => Nat.ne_of_lt (kst_ltOf lA.2 q hq)⟩
theorem rep_two {news : List (Addr × Obj)} {x y : Addr} {i j : Int} {t u v : Tok} {n k : Nat} (m1 : (x, tupO [.str (Str.ofString "struct") t, .ref y] n) ∈ news) (m2 : (y, tupO [.int i u, .int j v] k) ∈ news) : Rep news (.agg false [.int i, .int j]) (.ref x) := by
  refine .agg m1 m2 rfl (by simp) fun a v q hv hq => ?_
  rcases a with _ | _ | a
  · cases hv; cases hq; exact .int
  · cases hv; cases hq; exact .int
  · cases hv
theorem element_all {w : World} {mean : ExcName → Option Value} {mg mb : Str → Option Value} {dp un : Nat} {gd : Option (List Code)} {cn : Str} {cs : Scope} {a : Addr} {ccd : Value} {cl : List (Str × Addr)} {outer : List Env} {A₀ : Around} {base h₀ : Heap} {L : Addr} {m : Str → Option Value} {news : List (Addr × Obj)} {s : Shared} {Q E : Value → Shared → Prop}
    (B : Below A₀ base outer h₀) (F : Fr h₀ L s.heap m) (X : (hd.heap_39 w.params).In h₀) (N : News h₀ L s.heap news) (T : Top PP LL mean mg mb h₀) (hk : cs.kind = .function) (hdp : dp + 300 < recursionLimit) (hun : un + 3000 < cLine)
    {l : Addr} {a0 b0 : Int} {ta tb : Tok} {n : Nat} (N1 : News h₀ L s.heap ((l, listOf #[.int a0 ta, .int b0 tb] n) :: news)) (hap : ∀ p ∈ news, p.1 ≠ l) (ha : 0 ≤ a0) (hb0 : 0 ≤ b0) (hb1 : b0 < 2147483647)
    (hret : ∀ h' tk' a' b' ta' tb' n' u c tups, 0 ≤ a' → 0 ≤ b' → b' < 2147483647 → Rep tups c u → ((∃ i, c = .int i) ∨ ∃ b i j, c = .agg b [.int i, .int j]) → (∀ p ∈ tups, p.1 ≠ l ∧ ∀ q ∈ news, q.1 ≠ p.1) → Fr h₀ L h' m → News h₀ L h' ((l, listOf #[.int a' ta', .int b' tb'] n') :: (tups ++ news)) → Q u { s with heap := h', toks := tk' }) :
    wpAny (model Prg w) (ktrTop dp un gd cn cs L a ccd cl outer) (call (.ref 372) [.ref l]) Q E s := by
  have hfill : (hd.heap_39 = hd.heap_39 ∧ PySem.Challenge.rw_pf0075_01 = PySem.Challenge.rw_pf0075_01) → True := by
    k_fill
    intro _; trivial
  clear hfill
  clear N
  refine wpAny_call ?_
  k_dflt cell_enter
  iterate 43 (first | (k_unfold; (try dsimp only)) | walk1)
  rename News _ _ _ (_ :: _ :: news) => N5
  have N6 := News.swap2 N5
  have hap6 := ap_tup N6 hap
  refine' take_all ?B ?F ?X ?N ?T ?hk ?d1 ?d2 ?N1 ?ap ?a ?b ?c ?t0 ?t1 ?ret
  case B => k_asm
  case F => k_asm
  case X => k_asm
  case N => exact News.drop_one' N6
  case T => k_asm
  case N1 => exact N6
  case ap => exact hap6
  case hk => rfl
  case d1 => ktr_room
  case d2 => ktr_units
  case a => assumption
  case b => assumption
  case c => assumption
  case t0 => decide
  case t1 => decide
  case' ret => intro h' tk' a' b' r' ta' tb' u' n' q1 q2 q3 q4 q5 F' N'; (try dsimp only)
  k_steps
  all_goals rename Fr h₀ L _ m => kF
  all_goals rename News h₀ L _ _ => kN
  · exact hret _ _ _ _ _ _ _ _ _ [] q3 q4 q5 .int (.inl ⟨_, rfl⟩) (fun _ h => nomatch h) kF (News.perm kN fun p hp => by
      rcases List.mem_cons.mp hp with rfl | hp
      · exact .head _
      · exact .tail _ (.tail _ hp))
  · rename _ < _ ∧ AllLt _ news => lA
    rename _ < _ ∧ _ < _ ∧ AllLt _ news => lB
    exact ends_two kN hap6 lA lB fun hap7 kN' => hret _ _ _ _ _ _ _ _ _ [_, _] q3 q4 q5 (rep_two (.head _) (.tail _ (.head _))) (.inr ⟨_, _, _, rfl⟩) hap7 kF kN'
end
section
theorem pool_pos (i : Int) {c : Prop} [Decidable c] : 0 ≤ (if -1 - i > i then -1 - i else i) * (if c then 1 else 0) := by
  refine Int.mul_nonneg ?_ ?_
  · split <;> omega
  · split <;> omega
theorem pool_all {w : World} {mean : ExcName → Option Value} {mg mb : Str → Option Value} {dp un : Nat} {gd : Option (List Code)} {cn : Str} {cs : Scope} {a : Addr} {ccd : Value} {cl : List (Str × Addr)} {outer : List Env} {A₀ : Around} {base h₀ : Heap} {L : Addr} {m : Str → Option Value} {news : List (Addr × Obj)} {s : Shared} {Q E : Value → Shared → Prop}
    (B : Below A₀ base outer h₀) (F : Fr h₀ L s.heap m) (X : (hd.heap_39 w.params).In h₀) (N : News h₀ L s.heap news) (T : Top PP LL mean mg mb h₀) (hk : cs.kind = .function) (hdp : dp + 200 < recursionLimit) (hun : un + 2000 < cLine)
    {ax : Addr} {vs : List Value} {is : List Int} {t0 : Tok} (hl : base.IsList ax vs.toArray) (hi : IntsAre vs is) (hlen : is.length ≤ 63)
    (hret : ∀ h' tk' a' b' ta' tb' n' l, 0 ≤ a' → 0 ≤ b' → b' < 2147483647 → (∀ p ∈ news, p.1 ≠ l) → Fr h₀ L h' m → News h₀ L h' ((l, listOf #[.int a' ta', .int b' tb'] n') :: news) → Q (.ref l) { s with heap := h', toks := tk' }) :
    wpAny (model Prg w) (ktrTop dp un gd cn cs L a ccd cl outer) (call (.ref 344) [.ref ax, .int 0 t0]) Q E s := by
  have hfill : (hd.heap_39 = hd.heap_39 ∧ PySem.Challenge.rw_pf0075_01 = PySem.Challenge.rw_pf0075_01) → True := by
    k_fill
    intro _; trivial
  clear hfill
  refine wpAny_call ?_
  k_dflt cell_enter
  rename Below _ _ (_ :: _) _ => B'
  k_lift B'
  k_steps
  all_goals rename Fr h₀ L _ m => kF
  all_goals rename News h₀ L _ (_ :: news) => kN
  all_goals rename (∀ p : Addr × Obj, p ∈ news → p.1 < _) => l1
  all_goals refine hret _ _ _ _ _ _ _ _ ?_ ?_ ?_ (fun p hp => Nat.ne_of_lt (l1 p hp)) kF kN
  all_goals first
    | exact pool_pos _
    | exact Int.fmod_nonneg_of_pos _ (by omega)
    | exact Int.fmod_lt_of_pos _ (by omega)
end
theorem kw_M37 : True := by
  k_with "mine led" => (k_here; k_dflt (refine led_all (by k_asm) (by k_asm) (by k_asm) (by k_asm) (by k_asm) (by rfl) (by ktr_room) (by ktr_units) (by first | assumption | exact LocRep.up (by assumption) (fun _ hq => by k_mem)) ?_; intro zv' zh' ztk' zex' zfl' zxt' zF' zN'; obtain ⟨l', p', n1', n2', num', vs', ev', g1', g2', g3', g4', g5'⟩ := zfl'; subst ev'; (have gz' := Ints.le g4' g5'); (try dsimp only)))
  k_with "call ref" => walk_at "mine led"
  k_with "mine kept_ok" => (k_here; k_dflt (refine kept_ok (by k_asm) (by k_asm) (by k_asm) (by k_asm) (by k_asm) (by rfl) (by ktr_room) (by ktr_units) (by first | assumption | exact HeapAt.up (by assumption) (fun _ hq => by k_mem)) (by assumption) (by assumption) ?_; intros; (try dsimp only)))
  k_with "call ref" => walk_at "mine kept_ok"
  k_with "mine kept_no" => (k_here; k_dflt (refine kept_no (by k_asm) (by k_asm) (by k_asm) (by k_asm) (by k_asm) (by rfl) (by ktr_room) (by ktr_units) (by first | assumption | exact HeapAt.up (by assumption) (fun _ hq => by k_mem)) (by assumption) (by assumption) ?_; walk_at "mine fail0"))
  k_with "call ref" => walk_at "mine kept_no"
  k_with "mine cell_all" => (k_here; k_dflt (refine cell_all (by k_asm) (by k_asm) (by k_asm) (by k_asm) (by k_asm) (by rfl) (by ktr_room) (by ktr_units) (by k_mem) (by assumption) (by k_mem) (by assumption) ?_ ?_; intros; (try dsimp only); rotate_left 1; walk_at "mine fail"))
  k_with "call ref" => walk_at "mine cell_all"
  k_with "mine part_all" => (k_here; k_dflt (refine part_all (by k_asm) (by k_asm) (by k_asm) (by k_asm) (by k_asm) (by rfl) (by ktr_room) (by ktr_units) (by walk_at "mine rep") (by k_mem) (by first | assumption | exact Ints.drop (by assumption) _) ?_ ?_; intros; (try dsimp only); rotate_left 1; walk_at "mine fail"))
  k_with "call ref" => walk_at "mine part_all"
  k_with "mine peek_all" => (k_here; k_dflt (refine peek_all (by k_asm) (by k_asm) (by k_asm) (by k_asm) (by k_asm) (by rfl) (by ktr_room) (by ktr_units) (by first | assumption | exact HeapAt.up (by assumption) (fun _ hq => by k_mem)) (by first | assumption | exact LocRep.up (by assumption) (fun _ hq => by k_mem)) (by first | assumption | exact KObjAt.up (by assumption) (fun _ hq => by k_mem)) ?_ ?_; intros; (try dsimp only); rotate_left 1; (intro k0; walk_at "mine fail")))
  k_with "call ref" => walk_at "mine peek_all"
  k_with "mine with_all" => (k_here; k_dflt (refine with_all (by k_asm) (by k_asm) (by k_asm) (by k_asm) (by k_asm) (by rfl) (by ktr_room) (by ktr_units) (by walk_at "mine rep") (by k_mem) (by first | assumption | exact Ints.drop (by assumption) _) (by first | assumption | omega | (simp only [List.length_drop]; omega)) (by walk_at "mine rep") (by first | assumption | exact peek_row_some (by assumption) (by assumption) (by assumption) (by assumption) (by assumption)) ?_; intros; (try dsimp only)))
  k_with "call ref" => walk_at "mine with_all"
  k_with "eval Name" => (k_here; k_dflt (refine name_free' (by k_asm) (by exact rfl) (by k_mem) (by assumption) ?_ (by exact rfl) (by exact rfl); k_whole))
  k_with "mine load_W" => (k_here; k_dflt (refine load_W (by k_asm) (by k_asm) (by k_asm) (by k_asm) (by k_asm) (by rfl) (by ktr_room) (by ktr_units) (by assumption) (by assumption) ?_ ?_; intros; (try dsimp only); rotate_left 1; (intro k0; walk_at "mine fail")))
  k_with "call ref" => walk_at "mine load_W"
  k_with "mine store_any" => (k_here; k_dflt (refine store_any (by k_asm) (by k_asm) (by k_asm) (by k_asm) (by k_asm) (by rfl) (by ktr_room) (by ktr_units) (by assumption) (by assumption) (by first | assumption | exact Rep.int) ?_ ?_; intros; (try dsimp only); rotate_left 1; (intro k0; walk_at "mine fail")))
  k_with "call ref" => walk_at "mine store_any"
  k_with "mine told_no" => (k_here; k_dflt (refine told_no (by assumption) (by assumption) (by assumption) (by assumption) (by assumption) (by rfl) (by ktr_room) (by ktr_units) (by assumption) (by assumption) (by assumption) (by assumption) (by assumption) ?_; k_whole; intros; (try dsimp only)))
  k_with "mine told_rep" => (k_here; k_dflt (refine told_rep (by assumption) (by assumption) (by assumption) (by assumption) (by assumption) (by rfl) (by ktr_room) (by ktr_units) (by assumption) (by assumption) (by assumption) (by assumption) (by assumption) ?_; k_whole; intros; (try dsimp only)))
  k_with "mine told_put" => (k_here; k_dflt (refine told_put (by assumption) (by assumption) (by assumption) (by assumption) (by assumption) (by rfl) (by ktr_room) (by ktr_units) (by assumption) (by assumption) (by assumption) (by assumption) (by assumption) ?_; k_whole; intros; (try dsimp only)))
  k_with "call ref" => walk_at "mine told_no"
  k_with "call ref" => walk_at "mine told_rep"
  k_with "call ref" => walk_at "mine told_put"
  k_with "mine load_int" => (k_here; k_dflt (refine load_int (by k_asm) (by k_asm) (by k_asm) (by k_asm) (by k_asm) (by rfl) (by ktr_room) (by ktr_units) (by assumption) (by assumption) (by assumption) ?_; intros; (try dsimp only)))
  k_with "call ref" => walk_at "mine load_int"
  k_with "mine store_yes" => (k_here; k_dflt (refine store_W (by k_asm) (by k_asm) (by k_asm) (by k_asm) (by k_asm) (by rfl) (by ktr_room) (by ktr_units) (by walk_at "mine W") (by walk_at "mine loc") (by walk_at "mine rep") (by assumption) (by assumption) ?_; intros; (try dsimp only)))
  k_with "call ref" => walk_at "mine store_yes"
  k_with "mine W" => first | assumption | exact Wd.up (by assumption) (fun _ hq => by k_mem)
  k_with "mine loc" => first | assumption | exact LocRep.up (by assumption) (fun _ hq => by k_mem)
  k_with "call ref" => walk_at "mine place"
  k_with "mine WT" => first | assumption | exact WT.up (by assumption) (fun _ hq => by k_mem)
  k_with "mine pok" => first | assumption | exact PlaceOk.up (by assumption) (fun _ hq => by k_mem)
  k_with "mine ints" => first | assumption | exact ints_nil | exact ints_one _ _ | exact ints_two _ _ _ _ | exact Ints.app (by assumption) (ints_one _ _) | exact Ints.app (by assumption) (ints_two _ _ _ _)
  k_with "mine beg" => first | assumption | exact LocRep.up (by assumption) (fun _ hq => by k_mem) | (refine BegRep.loc (BegRep.up (by assumption) (fun _ hq => by k_mem)) (by k_mem) (by k_mem) (by walk_at "mine ints") ?_; (simp only [List.length_append, List.length_cons, List.length_nil]; omega))
  trivial
section
abbrev lawScope : Scope := { kind := ScopeKind.function, names := [(Str.ofString "script", NameKind.local), (Str.ofString "source", NameKind.cell), (Str.ofString "_law_right", NameKind.globalImplicit), (Str.ofString "_law_pool", NameKind.globalImplicit), (Str.ofString "range", NameKind.globalImplicit), (Str.ofString "_law_take", NameKind.globalImplicit)], isGenerator := false, isCoroutine := false, more := [(Str.ofString "fast", Const.str (Str.ofString "script")), (Str.ofString "fast", Const.str (Str.ofString "source")), (Str.ofString "fast", Const.str (Str.ofString "turn"))] }
abbrev lcScope : Scope := { kind := ScopeKind.function, names := [(Str.ofString ".0", NameKind.local), (Str.ofString "turn", NameKind.local), (Str.ofString "_law_element", NameKind.globalImplicit), (Str.ofString "source", NameKind.free)], isGenerator := false, isCoroutine := false }
theorem RowRep.snoc {news : List (Addr × Obj)} {ys : List Value} {cells : List PV} {u : Value} {c : PV} (R : RowRep news ys cells) (h : Rep news c u) : RowRep news (ys ++ [u]) (cells ++ [c]) := ⟨by rw [List.length_append, List.length_append, R.len]; rfl, fun {i v} e => by
  by_cases hi : i < ys.length
  · rw [List.getElem?_append_left hi] at e
    rw [List.getD_eq_getElem?_getD, List.getElem?_append_left (by rw [← R.len]; exact hi), ← List.getD_eq_getElem?_getD]
    exact R.item e
  · rw [List.getElem?_append_right (Nat.not_lt.mp hi)] at e
    rw [List.getD_eq_getElem?_getD, List.getElem?_append_right (by rw [← R.len]; exact Nat.not_lt.mp hi), ← R.len]
    cases hj : i - ys.length with
    | zero => rw [hj] at e; cases e; exact h
    | succ j => rw [hj] at e; cases e⟩
structure SrcInv (l c : Addr) (ys : List Value) (news : List (Addr × Obj)) : Prop where
  ex : ∃ a b ta tb n rest cells oc, news = (l, listOf #[.int a ta, .int b tb] n) :: rest ∧ 0 ≤ a ∧ 0 ≤ b ∧ b < 2147483647 ∧ (∀ p ∈ rest, p.1 ≠ l) ∧ (c, oc) ∈ rest ∧ oc.data = .cell (some (.ref l)) ∧ TT [] rest ∧ RowRep rest ys cells ∧ (∀ x ∈ cells, Cell2 x)
theorem comp_rest {p1 p2 p3 : Pos} {Fin : List Value → List (Addr × Obj) → Prop} {P : Nat → Value → Prop} {l c : Addr} {x : Str} {w : World} {mean : ExcName → Option Value} {mg mb : Str → Option Value} {dp un : Nat} {gd : Option (List Code)} {cn : Str} {a : Addr} {ccd : Value} {outer : List Env} {A₀ : Around} {base h₀ : Heap} {L : Addr} {m : Str → Option Value} {s : Shared}
    (B : Below A₀ base outer h₀) (X : (hd.heap_39 w.params).In h₀) (T : Top PP LL mean mg mb h₀) (hdp : dp + 400 < recursionLimit) (hun : un + 4000 < cLine) (fin : ∀ ys news, SrcInv l c ys news → ys.length ≤ 4 → Fin ys news) :
    ∀ (k i : Nat) (ys : List Value) (news : List (Addr × Obj)), SrcInv l c ys news → ys.length + k ≤ 4 →
      LCg.CompRest Prg w (ktrTop dp un gd cn lawScope L a ccd [(Str.ofString "source", c)] outer) h₀ L m (envX cn lawScope L a ccd [(Str.ofString "source", c)]) ((Expr.Name (Str.ofString "_law_element") p1).Call [Expr.Name (Str.ofString "source") p2] [] p3) x lcScope [(Str.ofString "source", c)] s (fun _ => True) P Fin k i ys news
  | 0, i, ys, news, hI, hk => LCg.CompRest.zero (fin ys news hI (by omega))
  | k + 1, i, ys, news, hI, hk => by
    have ih := comp_rest (L := L) (p1 := p1) (p2 := p2) (p3 := p3) (P := P) (x := x) (dp := dp) (un := un) (gd := gd) (cn := cn) (a := a) (ccd := ccd) (m := m) (s := s) B X T hdp hun fin k (i + 1)
    refine LCg.CompRest.succ fun v I oI C oC D m₂ h tk E' hP hC hx F N off ne => ?_
    obtain ⟨a0, b0, ta, tb, n, rest, cells, oc, rfl, ha, hb0, hb1, hap, hc, hoc, tt, row, c2⟩ := hI
    have hfill : (hd.heap_39 = hd.heap_39 ∧ PySem.Challenge.rw_pf0075_01 = PySem.Challenge.rw_pf0075_01) → True := by
      k_fill
      intro _; trivial
    clear hfill
    have mc : (c, oc) ∈ (I, oI) :: (C, oC) :: (D, LCg.lst ys) :: (l, listOf #[.int a0 ta, .int b0 tb] n) :: rest := .tail _ (.tail _ (.tail _ (.tail _ hc)))
    have ol := off.1
    have orest := LCg.Off3.mem off.2
    have N2 : News h₀ L h ((l, listOf #[.int a0 ta, .int b0 tb] n) :: (I, oI) :: (C, oC) :: (D, LCg.lst ys) :: rest) := News.perm N fun p hp => by
      rcases List.mem_cons.mp hp with rfl | hp
      · exact .tail _ (.tail _ (.tail _ (.head _)))
      rcases List.mem_cons.mp hp with rfl | hp
      · exact .head _
      rcases List.mem_cons.mp hp with rfl | hp
      · exact .tail _ (.head _)
      rcases List.mem_cons.mp hp with rfl | hp
      · exact .tail _ (.tail _ (.head _))
      · exact .tail _ (.tail _ (.tail _ (.tail _ hp)))
    have hap2 : ∀ p ∈ (I, oI) :: (C, oC) :: (D, LCg.lst ys) :: rest, p.1 ≠ l := fun p hp => by
      rcases List.mem_cons.mp hp with rfl | hp
      · exact Ne.symm ol.1
      rcases List.mem_cons.mp hp with rfl | hp
      · exact Ne.symm ol.2.1
      rcases List.mem_cons.mp hp with rfl | hp
      · exact Ne.symm ol.2.2
      · exact hap p hp
    have N3 := News.drop_one' N2
    iterate 8 (first | (k_unfold; (try dsimp only)) | walk1)
    first
      | refine' element_all ?B ?F ?X ?N ?T ?hk ?d1 ?d2 ?N1 ?ap ?a ?b ?c ?ret
      | fail "not there"
    case B => exact B
    case F => exact F
    case X => exact X
    case N => exact N3
    case T => exact T
    case hk => rfl
    case d1 => omega
    case d2 => omega
    case N1 => exact N2
    case ap => exact hap2
    case a => exact ha
    case b => exact hb0
    case c => exact hb1
    intro h' tk' a' b' ta' tb' n' u pv tups q1 q2 q3 q4 q5 q6 F' N'
    dsimp only
    refine LCg.CompEnd.intro (all := _) F' N' ((l, listOf #[.int a' ta', .int b' tb'] n') :: (tups ++ rest)) (fun p hp => ?_) ⟨ol, LCg.Off3.of fun p hp => ?_⟩ trivial (ih (ys ++ [u]) _ ⟨_, _, _, _, _, _, cells ++ [pv], oc, rfl, q1, q2, q3, fun p hp => ?_, List.mem_append_right _ hc, hoc, tt.up fun p hp => List.mem_append_right _ hp, (row.up fun p hp => List.mem_append_right _ hp).snoc (q4.up fun p hp => List.mem_append_left _ hp), fun y hy => ?_⟩ (by rw [List.length_append, List.length_singleton]; omega))
    · rcases List.mem_cons.mp hp with rfl | hp
      · exact .tail _ (List.mem_append_right _ (.head _))
      rcases List.mem_cons.mp hp with rfl | hp
      · exact .tail _ (List.mem_append_right _ (.tail _ (.head _)))
      rcases List.mem_cons.mp hp with rfl | hp
      · exact .tail _ (List.mem_append_right _ (.tail _ (.tail _ (.head _))))
      rcases List.mem_cons.mp hp with rfl | hp
      · exact .head _
      rcases List.mem_append.mp hp with hp | hp
      · exact .tail _ (List.mem_append_left _ hp)
      · exact .tail _ (List.mem_append_right _ (.tail _ (.tail _ (.tail _ hp))))
    · rcases List.mem_append.mp hp with hp | hp
      · have z := (q6 p hp).2
        exact ⟨Ne.symm (z _ (.head _)), Ne.symm (z _ (.tail _ (.head _))), Ne.symm (z _ (.tail _ (.tail _ (.head _))))⟩
      · exact orest p hp
    · rcases List.mem_append.mp hp with hp | hp
      · exact (q6 p hp).1
      · exact hap p hp
    · rcases List.mem_append.mp hy with hy | hy
      · exact c2 y hy
      · rw [List.mem_singleton.mp hy]; exact q5
end
theorem kw_M38 : True := by
  k_with "mine plus" => first | assumption | (refine Ph.cons (by walk_at "mine plus") (by first | assumption | exact kst_ltOf (by assumption)))
  k_with "mine newP" => (k_here; k_dflt (refine new_P (by k_asm) (by k_asm) (by k_asm) (by k_asm) (by k_asm) (by rfl) (by ktr_room) (by ktr_units) ?_; intro zh' ztk' zhp' zhx' zkd' zall' zP' zF' zN'; (refine Ph.use zP' ?_; intros); (try dsimp only)))
  k_with "call ref" => walk_at "mine newP"
  k_with "mine makeP" => (k_here; k_dflt (refine make_P (by k_asm) (by k_asm) (by k_asm) (by k_asm) (by k_asm) (by rfl) (by ktr_room) (by ktr_units) (by walk_at "mine plus") (by exact Nat.le_of_ble_eq_true rfl) (by decide) (by decide) (by rfl) ?_; intro zh' ztk' zk' zdk' za1' za2' za3' zb1' zb2' zb3' zwh' znk' zu' zall' zl1' zl2' zl3' zl4' zP' zF' zN'; (refine Ph.use zP' ?_; intros); (try dsimp only)))
  k_with "call ref" => walk_at "mine makeP"
  k_with "mine namedP" => (k_here; k_dflt (refine named_P (by k_asm) (by k_asm) (by k_asm) (by k_asm) (by k_asm) (by rfl) (by ktr_room) (by ktr_units) (by walk_at "mine plus") (by exact Nat.le_of_ble_eq_true rfl) ?_; intro zh' ztk' zk' zdk' za1' za2' za3' zb1' zb2' zb3' ztv' zwh' znk' zall' zl1' zl2' zl3' zl4' zP' zF' zN'; (refine Ph.use zP' ?_; intros); (try dsimp only)))
  k_with "call ref" => walk_at "mine namedP"
  k_with "mine dropP" => (k_here; k_dflt (refine drop_P (by k_asm) (by k_asm) (by k_asm) (by k_asm) (by k_asm) (by rfl) (by ktr_room) (by ktr_units) (by walk_at "mine plus") ?_; intro zh' ztk' zall' zP' zF' zN'; (refine Ph.use zP' ?_; intros); (try dsimp only)))
  k_with "call ref" => walk_at "mine dropP"
  k_with "mine freeP" => (k_here; k_dflt (refine free_P (by k_asm) (by k_asm) (by k_asm) (by k_asm) (by k_asm) (by rfl) (by ktr_room) (by ktr_units) (by walk_at "mine plus") (by k_mem) (by exact ints_two _ _ _ _) ?_; intro zh' ztk' zall' zP' zF' zN'; (refine Ph.use zP' ?_; intros); (try dsimp only)))
  k_with "call ref" => walk_at "mine freeP"
  k_with "eval Name" => (k_here; k_dflt (refine nameX_C (by k_asm) (by exact rfl) (by k_mem) (by assumption) ?_ (by exact rfl) (by exact rfl); k_whole))
  k_with "mine chan" => (k_here; k_dflt (refine chan_new (by k_asm) (by k_asm) (by k_asm) (by k_asm) (by k_asm) (by rfl) (by ktr_room) (by ktr_units) ?_; intros; (try dsimp only)))
  k_with "call ref" => walk_at "mine chan"
  k_with "mine rowrep" => first | assumption | exact RowRep.up (by assumption) (fun _ hq => by k_mem)
  k_with "mine begrep" => first | assumption | exact BegRep.up (by assumption) (fun _ hq => by k_mem)
  k_with "mine elements" => (k_here; k_dflt (refine elements_all (by assumption) (by assumption) (by assumption) (by assumption) (by assumption) (by rfl) (by ktr_room) (by ktr_units) (by assumption) (by assumption) (by assumption) (by walk_at "mine WT") (by walk_at "mine begrep") (by k_mem) (by assumption) (by assumption) (by k_mem) (by assumption) (by walk_at "mine rowrep") (by assumption) (by omega) (by assumption) (by assumption) ?_; intros; (try dsimp only)))
  k_with "call ref" => walk_at "mine elements"
  k_with "mine storecell" => (k_here; k_dflt (refine store_cell (by k_asm) (by k_asm) (by exact rfl) (by k_mem) (by assumption) ?_ (by exact rfl) (by exact rfl); intros; (try dsimp only)))
  k_with "storeName" => walk_at "mine storecell"
  trivial
section
theorem rows_first {news : List (Addr × Obj)} {d e : Addr} {t t0 u v : Tok} {n k : Nat} (m1 : (d, tupO [.str (Str.ofString "struct") t, .ref e] n) ∈ news) (m2 : (e, tupO [.int 3 u, .int 4 v] k) ∈ news) : RowRep news [.int 7 t0, .ref d] [.int 7, .agg false [.int 3, .int 4]] := ⟨rfl, fun {i x} h => by
  rcases i with _ | _ | i
  · cases h; exact .int
  · cases h; exact rep_two m1 m2
  · cases h⟩
theorem cells_first : ∀ c ∈ [PV.int 7, .agg false [.int 3, .int 4]], Cell2 c := fun c hc => by
  rcases List.mem_cons.mp hc with rfl | hc
  · exact .inl ⟨_, rfl⟩
  · rw [List.mem_singleton.mp hc]; exact .inr ⟨_, _, _, rfl⟩
theorem tt_first {news : List (Addr × Obj)} (m1 : (374, tabObj #[]) ∈ news) (m2 : (388, tabObj #[]) ∈ news) : TT [] news :=
  ⟨⟨_, m1, trivial, fun _ _ h => by cases h⟩, ⟨_, m2, trivial, fun _ _ h => by cases h⟩⟩
theorem TT.cell {all : List (Addr × Obj)} {h₀ h : Heap} {L c : Addr} {o o' : Obj} {v₀ : Option Value} (H : TT [] all) (N : News h₀ L h all) (hm : (c, o) ∈ all) (hd : o.data = .cell v₀) : TT [] ((c, o') :: all.filter (fun p => decide (p.1 ≠ c))) := by
  obtain ⟨⟨p1, a1, b1⟩, p2, a2, b2⟩ := H
  have tab : ∀ {qual : Str} {P : Addr} {ps : Array Value}, TabInv (tabs []) P qual ps all → TabInv (tabs []) P qual ps ((c, o') :: all.filter (fun p => decide (p.1 ≠ c))) := fun B => ⟨B.tri, fun pos cv e => by
    obtain ⟨c', oc, vs, t, h1, h2, h3, h4, h5, h6⟩ := B.at_ pos cv e
    exact ⟨c', oc, vs, t, h1, cell_in N hm hd h2 (fun u q => by rw [h3] at q; cases q), h3, h4, h5, h6⟩⟩
  exact ⟨⟨p1, cell_in N hm hd a1 (fun u q => by cases q), tab b1⟩, ⟨p2, cell_in N hm hd a2 (fun u q => by cases q), tab b2⟩⟩
theorem not_tab {o : Obj} {v : Option Value} (h : o.data = .cell v) : ∀ ps, o ≠ tabObj ps := fun ps e => by subst e; cases h
theorem list_not_tab {vs : Array Value} {n : Nat} : ∀ ps, listOf vs n ≠ tabObj ps := fun ps e => by have h := congrArg Obj.data e; cases h
theorem turn_fr {g g' h : Heap} {L : Addr} {m : Str → Option Value} (t : KtsTurn [] g g') (F : Fr g' L h m) : Fr g L h m := ⟨F.ns, fun b o e => F.keep b o (t.other b o e (fun q => nomatch q)), by have z := F.above; rw [t.size] at z; exact z⟩
theorem turn_news {g g' h : Heap} {L : Addr} {news : List (Addr × Obj)} (t : KtsTurn [] g g') (N : News g' L h news) : News g L h news := fun p hp => ⟨(N p hp).1, (N p hp).2.1, by
  cases e : g.get? p.1 with
  | none => rfl
  | some o => have z := t.other _ _ e (fun q => nomatch q); rw [(N p hp).2.2] at z; cases z⟩
theorem cell_news {h₀ h : Heap} {L l c : Addr} {x o' : Obj} {n1 : List (Addr × Obj)} (N : News h₀ L h ((c, o') :: ((l, x) :: n1).filter (fun p => decide (p.1 ≠ c)))) (hne : l ≠ c) : News h₀ L h ((l, x) :: (c, o') :: n1.filter (fun p => decide (p.1 ≠ c))) := News.perm N fun p hp => by
  rcases List.mem_cons.mp hp with rfl | hp
  · exact .tail _ (List.mem_filter.mpr ⟨.head _, by simpa using hne⟩)
  rcases List.mem_cons.mp hp with rfl | hp
  · exact .head _
  · exact .tail _ (List.mem_filter.mpr ⟨.tail _ (List.mem_filter.mp hp).1, (List.mem_filter.mp hp).2⟩)
theorem cell_ap {l c : Addr} {o o' : Obj} {n1 : List (Addr × Obj)} (ap : ∀ p ∈ n1, p.1 ≠ l) (hm : (c, o) ∈ n1) : ∀ p ∈ (c, o') :: n1.filter (fun p => decide (p.1 ≠ c)), p.1 ≠ l := fun p hp => by
  rcases List.mem_cons.mp hp with rfl | hp
  · exact ap (c, o) hm
  · exact ap p (List.mem_filter.mp hp).1
theorem range_facts (r : Int) (h0 : 0 ≤ r) (h1 : r < 4) : Builtin.Range.small 0 (1 + r) 1 = true ∧ ∃ n : Nat, n ≤ 4 ∧ Builtin.Range.rangeSize 0 (1 + r) 1 = ((n : Nat) : Int) := by
  have h : r = 0 ∨ r = 1 ∨ r = 2 ∨ r = 3 := by omega
  rcases h with rfl | rfl | rfl | rfl
  · exact ⟨by decide, 1, by decide, by decide⟩
  · exact ⟨by decide, 2, by decide, by decide⟩
  · exact ⟨by decide, 3, by decide, by decide⟩
  · exact ⟨by decide, 4, by decide, by decide⟩
theorem t1 : PySem.Challenge.rw_pf0075_01.Holds := hd (by
  k_go0
  all_goals try k_fold
  rename_i w s0 s1 mg mb G Y fa o pm cd doc ho hcd hg X1 V T1 B1 TE TW w5 hs hlay hL1 hr1 hl2 w4 w3 ax vs w0 hL ra w1 r0 hI hr hc1 hc2 hD h1 tk1 oS right X0 X T B F cH1 N l0
  replace right : oS.data = .cell none := right
  replace F : Fr _ _ _ (fun y => if y = Str.ofString "script" then some (.ref ax) else none) := F
  have hlen : w5.length ≤ 63 := by omega
  clear X0 hD hr r0 w1 ra hc1 hc2 hl2 hr1 hL1 hlay hs TW TE B1 T1 V X1 hcd hL
  clear Y G
  dsimp only
  iterate 31 (first | (k_unfold; (try dsimp only)) | walk1)
  refine' right_all ?B ?F ?X ?N ?T ?hk ?d1 ?d2 ?XB ?TB ?D ?hc ?row ?c2 ?cl ?tt ?mx ?nt ?ret
  case B => k_asm
  case F => k_asm
  case X => k_asm
  case N => k_asm
  case T => k_asm
  case hk => rfl
  case d1 => decide
  case d2 => decide
  case XB => exact X
  case TB => exact T
  case D => exact ktsDicts_nil
  case hc => exact .head _
  case row => exact rows_first (.tail _ (.head _)) (.tail _ (.tail _ (.head _)))
  case c2 => exact cells_first
  case cl => decide
  case tt => exact tt_first (.tail _ (.tail _ (.tail _ (.tail _ (.head _))))) (.tail _ (.tail _ (.tail _ (.tail _ (.tail _ (.head _))))))
  case mx => exact .tail _ (.tail _ (.tail _ (.head _)))
  case nt => exact not_tab right
  case' ret => intro h2 tk2 g1 news1 t1 B1 X1 T1 D1 F1 N1 TT1 mx1
  dsimp only
  iterate 14 (first | (k_unfold; (try dsimp only)) | walk1)
  refine' pool_all ?B2 ?F2 ?X2 ?N2 ?T2 ?hk2 ?d12 ?d22 ?hl2 ?hi2 ?hlen2 ?ret2
  case B2 => exact B1
  case F2 => exact F1
  case X2 => exact X1
  case N2 => exact N1
  case T2 => exact T1
  case hk2 => rfl
  case d12 => decide
  case d22 => decide
  case hl2 => assumption
  case hi2 => assumption
  case hlen2 => exact hlen
  case' ret2 => intro h3 tk3 a3 b3 ta3 tb3 n3 l3 q3 q4 q5 ap3 F3 N3
  have mx3 : (s1.heap.objs.size + 1, oS) ∈ (l3, listOf #[.int a3 ta3, .int b3 tb3] n3) :: news1 := .tail _ mx1
  clear F1
  dsimp only
  iterate 1 (first | (k_unfold; (try dsimp only)) | walk1)
  rename_i h4 o4 d4 F4 N4
  have N5 := cell_news N4 (fun e => ap3 _ mx1 e.symm)
  have ap5 := cell_ap (o' := o4) ap3 mx1
  have TT5 := TT.cell (o' := o4) TT1 (News.drop_one' N3) mx1 right
  have mc5 : (s1.heap.objs.size + 1, o4) ∈ (s1.heap.objs.size + 1, o4) :: news1.filter (fun p => decide (p.1 ≠ s1.heap.objs.size + 1)) := .head _
  generalize (s1.heap.objs.size + 1, o4) :: news1.filter (fun p => decide (p.1 ≠ s1.heap.objs.size + 1)) = rest at N5 ap5 TT5 mc5
  clear N4 N3 mx3 N1 TT1
  iterate 6 (first | (k_unfold; (try dsimp only)) | walk1)
  refine LCg.ListComp_U (F₀ := F4) (by with_unfolding_all rfl) (by decide) (by rfl) (by decide) (by rfl) ?_
  repeat ((fail_if_success (with_reducible (show LCg.CompSrc _ _ _ _ _ _ _ _ _ _ _ _ _ _))); (first | (k_unfold; (try dsimp only)) | walk1 | (dsimp only; walk1)))
  rename _ < (4 : Int) => hr4
  obtain ⟨sm, n, hn4, hn⟩ := range_facts _ (by assumption) hr4
  refine LCg.CompSrc.range (n := n) (by rfl) (by k_asm) (by k_asm) (by assumption) sm hn (by rw [sizeLine_eq]; omega) ?_
  intro g'
  refine comp_rest (l := l3) (c := s1.heap.objs.size + 1) B1 X1 T1 (by decide) (by decide) (fun ys news hI hy => ?_) n 0 [] _ ⟨_, _, _, _, _, rest, [], o4, rfl, by assumption, by assumption, by assumption, ap5, mc5, d4, TT5, ⟨rfl, fun h => nomatch h⟩, fun _ h => nomatch h⟩ (by simpa using hn4)
  obtain ⟨a5, b5, ta5, tb5, n5, rest5, cells, oc5, rfl, z1, z2, z3, ap6, mc6, d6, TT6, row6, c26⟩ := hI
  unfold LCg.FinE
  intro D6 h6 tk6 F6 N6 o6
  have N7 := News.swap2 N6
  have ap7 : ∀ p ∈ (D6, LCg.lst ys) :: rest5, p.1 ≠ l3 := fun p hp => by
    rcases List.mem_cons.mp hp with rfl | hp
    · exact Ne.symm o6.1
    · exact ap6 p hp
  have mc7 : (s1.heap.objs.size + 1, oc5) ∈ (D6, LCg.lst ys) :: rest5 := .tail _ mc6
  clear N6 N5 F4 ap5 mc5 TT5
  dsimp only
  repeat ((fail_if_success (with_reducible (show wpAny _ _ (call (Value.ref 393) _) _ _ _))); (first | (k_unfold; (try dsimp only)) | walk1))
  refine' right_all ?B3 ?F3 ?X3 ?N3 ?T3 ?hk3 ?d13 ?d23 ?XB3 ?TB3 ?D3 ?hc3 ?row3 ?c23 ?cl3 ?tt3 ?mx3 ?nt3 ?ret3
  case B3 => exact B1
  case F3 => k_asm
  case X3 => exact X1
  case N3 => k_asm
  case T3 => exact T1
  case hk3 => rfl
  case d13 => decide
  case d23 => decide
  case XB3 => exact X
  case TB3 => exact T
  case D3 => exact ktsDicts_nil
  case hc3 => exact .tail _ (.head _)
  case row3 => exact row6.up fun p hp => .tail _ (.tail _ hp)
  case c23 => exact c26
  case cl3 => rw [← row6.len]; omega
  case tt3 => exact TT6.up fun p hp => .tail _ (.tail _ hp)
  case mx3 => exact .tail _ (.head _)
  case nt3 => exact list_not_tab
  intro h9 tk9 g9 news9 t9 B9 X9 T9 D9 F9 N9 TT9 _
  have F10 := turn_fr (KtsTurn.trans t1 t9) F9
  have N10 := turn_news (KtsTurn.trans t1 t9) N9
  obtain ⟨⟨ps1, m1, _⟩, ps2, m2, _⟩ := TT9
  clear F9 N9 B9 X9 T9 D9 N7 F6
  dsimp only
  k_steps)
end
end Mine
theorem PySem.Challenge.cw_pf0075_01_holds : PySem.Challenge.rw_pf0075_01.Holds :=
  Mine.t1
