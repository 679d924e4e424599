import PyProof.Rows.All
import Wide.All
import OpenK.AllK
import Wide.FinOn
import Lean
import PySem.Challenge.RW_nz0409_01
open PySem PySem.W PyProof.Rows PySem.Spec PySem.Calls
set_option Elab.async false
set_option maxRecDepth 100000
set_option compiler.extract_closed false
set_option maxHeartbeats 8000000
set_option rowWalk.seconds 0
-- twins of the head that are kept out: they serve speed alone, and their proofs are quadratic in the number of objects
name_quick tw12813236842856870187 for PySem.W.S.findZ by PySem.W.S.findZ_eq
name_quick tw15158043598476960053 for PySem.W.S.findZ by PySem.W.S.findZ_eq
name_quick tw16145008321745377990 for PySem.W.S.findZ by PySem.W.S.findZ_eq
name_quick tw3424931102881643321 for PySem.W.S.findZ by PySem.W.S.findZ_eq
name_quick tw18345786424863182364 for PySem.W.S.findZ by PySem.W.S.findZ_eq
name_quick tw5529568453561195837 for PySem.W.S.findZ by PySem.W.S.findZ_eq
name_quick tw9594665118957945026 for PySem.W.S.findZ by PySem.W.S.findZ_eq
name_quick tw14073706353221006472 for PySem.W.S.findZ by PySem.W.S.findZ_eq
name_quick tw5701610774189311196 for PySem.W.S.findZ by PySem.W.S.findZ_eq
name_quick tw4658958612460137192 for PySem.W.S.findZ by PySem.W.S.findZ_eq
name_quick tw9407582987413476825 for PySem.W.S.findZ by PySem.W.S.findZ_eq
name_quick tw14126943448341045398 for PySem.W.S.findZ by PySem.W.S.findZ_eq
name_quick tw17000155066101142889 for PySem.W.S.findZ by PySem.W.S.findZ_eq
name_quick tw7232422423428716515 for PySem.W.S.findZ by PySem.W.S.findZ_eq
name_quick tw878741703135273975 for PySem.W.S.findZ by PySem.W.S.findZ_eq
name_quick tw10833955939284561965 for PySem.W.S.findZ by PySem.W.S.findZ_eq
name_quick tw11796506867022685745 for PySem.W.S.findZ by PySem.W.S.findZ_eq
name_quick tw3577408171920636059 for PySem.W.S.findZ by PySem.W.S.findZ_eq
name_quick tw4921902886906138986 for PySem.W.S.findZ by PySem.W.S.findZ_eq
name_quick tw8047484207015712433 for PySem.W.S.findZ by PySem.W.S.findZ_eq
name_quick tw13814175508184223724 for PySem.W.S.findZ by PySem.W.S.findZ_eq
name_quick tw3315324234476444515 for PySem.W.S.findZ by PySem.W.S.findZ_eq
name_quick tw2711585505577850959 for PySem.W.S.findZ by PySem.W.S.findZ_eq
name_quick tw7323676302269181137 for PySem.W.S.findZ by PySem.W.S.findZ_eq
name_quick tw219737044198020058 for PySem.W.S.findZ by PySem.W.S.findZ_eq
name_quick tw12334156363619760483 for PySem.W.S.findZ by PySem.W.S.findZ_eq
name_quick tw10919533547850550483 for PySem.W.S.findZ by PySem.W.S.findZ_eq
name_quick tw11788150170368784547 for PySem.W.S.findZ by PySem.W.S.findZ_eq
name_quick tw9011979029575296479 for PySem.W.S.findZ by PySem.W.S.findZ_eq
name_quick tw7392212959928792091 for PySem.W.S.findZ by PySem.W.S.findZ_eq
name_quick tw6135381517318000843 for PySem.W.S.findZ by PySem.W.S.findZ_eq
name_quick tw8693227569615203950 for PySem.W.S.findZ by PySem.W.S.findZ_eq
name_quick tw5823794197072137003 for PySem.W.S.findZ by PySem.W.S.findZ_eq
name_quick tw7308088844700927037 for PySem.W.S.findZ by PySem.W.S.findZ_eq
name_quick tw8058711392134626093 for PySem.W.S.findZ by PySem.W.S.findZ_eq
name_quick tw9800571698397750058 for PySem.W.S.findZ by PySem.W.S.findZ_eq
name_quick tw5721027456603625697 for PySem.W.S.findZ by PySem.W.S.findZ_eq
name_quick tw4679858250743294509 for PySem.W.S.findZ by PySem.W.S.findZ_eq
name_quick tw9763268239775435451 for PySem.W.S.findZ by PySem.W.S.findZ_eq
name_quick tw6245536207120538393 for PySem.W.S.findZ by PySem.W.S.findZ_eq
name_quick tw4292500188555128830 for PySem.W.S.findZ by PySem.W.S.findZ_eq
name_quick tw2039238271031011813 for PySem.W.S.findZ by PySem.W.S.findZ_eq
name_quick tw11985326045990495214 for PySem.W.S.findZ by PySem.W.S.findZ_eq
name_quick tw6004533443673955352 for PySem.W.S.findZ by PySem.W.S.findZ_eq
name_quick tw10010936943081839664 for PySem.W.S.findZ by PySem.W.S.findZ_eq
name_quick tw1772237422875290029 for PySem.W.S.findZ by PySem.W.S.findZ_eq
name_quick tw6122645084068987007 for PySem.W.S.findZ by PySem.W.S.findZ_eq
name_quick tw313226197891681235 for PySem.W.S.findZ by PySem.W.S.findZ_eq
name_quick tw7397068168572129948 for PySem.W.S.findZ by PySem.W.S.findZ_eq
name_quick tw662354867322794072 for PySem.W.S.findZ by PySem.W.S.findZ_eq
name_quick tw14210447440969649564 for PySem.W.S.findZ by PySem.W.S.findZ_eq
name_quick tw667198328695590252 for PySem.W.S.findZ by PySem.W.S.findZ_eq
name_quick tw14333388528381170442 for PySem.W.S.findZ by PySem.W.S.findZ_eq
name_quick tw15766043655864335149 for PySem.W.S.findZ by PySem.W.S.findZ_eq
name_quick tw7496433998918960881 for PySem.W.S.findZ by PySem.W.S.findZ_eq
name_quick tw11108263761283441063 for PySem.W.S.findZ by PySem.W.S.findZ_eq
name_quick tw8708707556590381134 for PySem.W.S.findZ by PySem.W.S.findZ_eq
name_quick tw7299951869573292228 for PySem.W.S.findZ by PySem.W.S.findZ_eq
name_quick tw12233582284571471492 for PySem.W.S.findZ by PySem.W.S.findZ_eq
name_quick tw8376441433122354887 for PySem.W.S.findZ by PySem.W.S.findZ_eq
name_quick tw9467589175468403638 for PySem.W.S.findZ by PySem.W.S.findZ_eq
name_quick tw7783732958741208154 for PySem.W.S.findZ by PySem.W.S.findZ_eq
name_quick tw9136488742655976645 for PySem.W.S.findZ by PySem.W.S.findZ_eq
name_quick tw5396446701170858492 for PySem.W.S.findZ by PySem.W.S.findZ_eq
name_quick tw12450158673883907302 for PySem.W.S.findZ by PySem.W.S.findZ_eq
name_quick tw11317593695737139937 for PySem.W.S.findZ by PySem.W.S.findZ_eq
name_quick tw7788680626742099145 for PySem.W.S.findZ by PySem.W.S.findZ_eq
name_quick tw724751600484774222 for PySem.W.S.findZ by PySem.W.S.findZ_eq
name_quick tw13180171748994924942 for PySem.W.S.findZ by PySem.W.S.findZ_eq
name_quick tw11013792430000457035 for PySem.W.S.findZ by PySem.W.S.findZ_eq
name_quick tw7581816359482902497 for PySem.W.S.findZ by PySem.W.S.findZ_eq
name_quick tw7299303143086499733 for PySem.W.S.findZ by PySem.W.S.findZ_eq
name_quick tw12268644228514654432 for PySem.W.S.findZ by PySem.W.S.findZ_eq
name_quick tw4275521005467322725 for PySem.W.S.findZ by PySem.W.S.findZ_eq
name_quick tw16172888661194304596 for PySem.W.S.findZ by PySem.W.S.findZ_eq
name_quick tw3976722010076183465 for PySem.W.S.findZ by PySem.W.S.findZ_eq
name_quick tw8642067239939848140 for PySem.W.S.findZ by PySem.W.S.findZ_eq
name_quick tw12835720964997663042 for PySem.W.S.findZ by PySem.W.S.findZ_eq
name_quick tw1537898542681612871 for PySem.W.S.findZ by PySem.W.S.findZ_eq
name_quick tw7276740287692124622 for PySem.W.S.findZ by PySem.W.S.findZ_eq
name_quick tw3560238982266916124 for PySem.W.S.findZ by PySem.W.S.findZ_eq
name_quick tw11277716924127702174 for PySem.W.S.findZ by PySem.W.S.findZ_eq
name_quick tw951843321253372498 for PySem.W.S.findZ by PySem.W.S.findZ_eq
name_quick tw10029231156530900338 for PySem.W.S.findZ by PySem.W.S.findZ_eq
name_quick tw4407734736301137906 for PySem.W.S.findZ by PySem.W.S.findZ_eq
name_quick tw6380047634161181297 for PySem.W.S.findZ by PySem.W.S.findZ_eq
name_quick tw4676167742431795270 for PySem.W.S.findZ by PySem.W.S.findZ_eq
name_quick tw11161088081135249708 for PySem.W.S.findZ by PySem.W.S.findZ_eq
name_quick tw4319705520415482375 for PySem.W.S.findZ by PySem.W.S.findZ_eq
name_quick tw8075568018651887793 for PySem.W.S.findZ by PySem.W.S.findZ_eq
name_quick tw11838138170533393997 for PySem.W.S.findZ by PySem.W.S.findZ_eq
name_quick tw16180582048198870337 for PySem.W.S.findZ by PySem.W.S.findZ_eq
name_quick tw16966814322356759819 for PySem.W.S.findZ by PySem.W.S.findZ_eq
name_quick tw13215998728584607739 for PySem.W.S.findZ by PySem.W.S.findZ_eq
name_quick tw11939915149646268982 for PySem.W.S.findZ by PySem.W.S.findZ_eq
name_quick tw16349804527192203551 for PySem.W.S.findZ by PySem.W.S.findZ_eq
name_quick tw6711915476519705758 for PySem.W.S.findZ by PySem.W.S.findZ_eq
name_quick tw1620339239838986703 for PySem.W.S.findZ by PySem.W.S.findZ_eq
name_quick tw4549333791460862111 for PySem.W.S.findZ by PySem.W.S.findZ_eq
name_quick tw16869277618539721502 for PySem.W.S.findZ by PySem.W.S.findZ_eq
name_quick tw7504490480230193789 for PySem.W.S.findZ by PySem.W.S.findZ_eq
name_quick tw13776390136698705113 for PySem.W.S.findZ by PySem.W.S.findZ_eq
name_quick tw16018607276475445134 for PySem.W.S.findZ by PySem.W.S.findZ_eq
name_quick tw5111356299099525756 for PySem.W.S.findZ by PySem.W.S.findZ_eq
name_quick tw11994158751524154303 for PySem.W.S.findZ by PySem.W.S.findZ_eq
name_quick tw8989982439271903415 for PySem.W.S.findZ by PySem.W.S.findZ_eq
name_quick tw17434858337260393937 for PySem.W.S.findZ by PySem.W.S.findZ_eq
name_quick tw8579058602437062094 for PySem.W.S.findZ by PySem.W.S.findZ_eq
name_quick tw9151444980202551346 for PySem.W.S.findZ by PySem.W.S.findZ_eq
name_quick tw16979880578912567463 for PySem.W.S.findZ by PySem.W.S.findZ_eq
name_quick tw17476080006546285661 for PySem.W.S.findZ by PySem.W.S.findZ_eq
name_quick tw1402947280878808549 for PySem.W.S.findZ by PySem.W.S.findZ_eq
name_quick tw3292988265063385152 for PySem.W.S.findZ by PySem.W.S.findZ_eq
name_quick tw9948023125614773506 for PySem.W.S.findZ by PySem.W.S.findZ_eq
name_quick tw2611137233208623240 for PySem.W.S.findZ by PySem.W.S.findZ_eq
name_quick tw18346915751181221439 for PySem.W.S.findZ by PySem.W.S.findZ_eq
name_quick tw16374537267813192141 for PySem.W.S.findZ by PySem.W.S.findZ_eq
name_quick tw6722154040420286063 for PySem.W.S.findZ by PySem.W.S.findZ_eq
name_quick tw16349216596472256690 for PySem.W.S.findZ by PySem.W.S.findZ_eq
name_quick tw4933834842325187142 for PySem.W.S.findZ by PySem.W.S.findZ_eq
name_quick tw16414604833108395602 for PySem.W.S.findZ by PySem.W.S.findZ_eq
name_quick tw8017206721242287953 for PySem.W.S.findZ by PySem.W.S.findZ_eq
name_quick tw6817277305950994716 for PySem.W.S.findZ by PySem.W.S.findZ_eq
name_quick tw11625766737575182897 for PySem.W.S.findZ by PySem.W.S.findZ_eq
name_quick tw17517737089405305841 for PySem.W.S.findZ by PySem.W.S.findZ_eq
name_quick tw8032284361305108907 for PySem.W.S.findZ by PySem.W.S.findZ_eq
name_quick tw6426273055680023932 for PySem.W.S.findZ by PySem.W.S.findZ_eq
name_quick tw1503297043503765363 for PySem.W.S.findZ by PySem.W.S.findZ_eq
name_quick tw3972328310683599613 for PySem.W.S.findZ by PySem.W.S.findZ_eq
name_quick tw5135500740108067664 for PySem.W.S.findZ by PySem.W.S.findZ_eq
name_quick tw16531745337717519161 for PySem.W.S.findZ by PySem.W.S.findZ_eq
name_quick tw558745408833754511 for PySem.W.S.findZ by PySem.W.S.findZ_eq
name_quick tw15663404670287596823 for PySem.W.S.findZ by PySem.W.S.findZ_eq
name_quick tw13145125596335152023 for PySem.W.S.findZ by PySem.W.S.findZ_eq
name_quick tw13016732220969518872 for PySem.W.S.findZ by PySem.W.S.findZ_eq
name_quick tw17057272898397164401 for PySem.W.S.findZ by PySem.W.S.findZ_eq
name_quick tw13254397897704925713 for PySem.W.S.findZ by PySem.W.S.findZ_eq
name_quick tw2719445374943340272 for PySem.W.S.findZ by PySem.W.S.findZ_eq
name_quick tw12898947447245864913 for PySem.W.S.findZ by PySem.W.S.findZ_eq
name_quick tw8400853705098224536 for PySem.W.S.findZ by PySem.W.S.findZ_eq
name_quick tw4797165386629745026 for PySem.W.S.findZ by PySem.W.S.findZ_eq
name_quick tw387338674003428930 for PySem.W.S.findZ by PySem.W.S.findZ_eq
name_quick tw12635297910168745909 for PySem.W.S.findZ by PySem.W.S.findZ_eq
name_quick tw16947794391021106201 for PySem.W.S.findZ by PySem.W.S.findZ_eq
name_quick tw10007627690174824804 for PySem.W.S.findZ by PySem.W.S.findZ_eq
name_quick tw17532718790514356516 for PySem.W.S.findZ by PySem.W.S.findZ_eq
name_quick tw16643706677886111943 for PySem.W.S.findZ by PySem.W.S.findZ_eq
name_quick tw11420187438672877268 for PySem.W.S.findZ by PySem.W.S.findZ_eq
name_quick tw5706481520468235054 for PySem.W.S.findZ by PySem.W.S.findZ_eq
name_quick tw5697894365363955025 for PySem.W.S.findZ by PySem.W.S.findZ_eq
name_quick tw9315938663221665524 for PySem.W.S.findZ by PySem.W.S.findZ_eq
name_quick tw6679490504615227074 for PySem.W.S.findZ by PySem.W.S.findZ_eq
name_quick tw1333364371103165705 for PySem.W.S.findZ by PySem.W.S.findZ_eq
name_quick tw16160506729595742640 for PySem.W.S.findZ by PySem.W.S.findZ_eq
name_quick tw11186114360453789277 for PySem.W.S.findZ by PySem.W.S.findZ_eq
name_quick tw17988542015724977305 for PySem.W.S.findZ by PySem.W.S.findZ_eq
name_quick tw4224760802259116069 for PySem.W.S.findZ by PySem.W.S.findZ_eq
name_quick tw13789449189825218787 for PySem.W.S.findZ by PySem.W.S.findZ_eq
name_quick tw15112985482279097393 for PySem.W.S.findZ by PySem.W.S.findZ_eq
name_quick tw12177639751122801600 for PySem.W.S.findZ by PySem.W.S.findZ_eq
name_quick tw15450981722951097364 for PySem.W.S.findZ by PySem.W.S.findZ_eq
name_quick tw17964007177503468958 for PySem.W.S.findZ by PySem.W.S.findZ_eq
name_quick tw15490439104401381959 for PySem.W.S.findZ by PySem.W.S.findZ_eq
name_quick tw18416463498863911781 for PySem.W.S.findZ by PySem.W.S.findZ_eq
name_quick tw12827158375178065980 for PySem.W.S.findZ by PySem.W.S.findZ_eq
name_quick tw10205541121877940668 for PySem.W.S.findZ by PySem.W.S.findZ_eq
name_quick tw1829445100760108279 for PySem.W.S.findZ by PySem.W.S.findZ_eq
name_quick tw3698559305507148144 for PySem.W.S.findZ by PySem.W.S.findZ_eq
name_quick tw16643379632663270332 for PySem.W.S.findZ by PySem.W.S.findZ_eq
name_quick tw900395245841561262 for PySem.W.S.findZ by PySem.W.S.findZ_eq
name_quick tw11333186260410459676 for PySem.W.S.findZ by PySem.W.S.findZ_eq
name_quick tw17730428716208468724 for PySem.W.S.findZ by PySem.W.S.findZ_eq
name_quick tw6019396324639902685 for PySem.W.S.findZ by PySem.W.S.findZ_eq
name_quick tw9376109419431680627 for PySem.W.S.findZ by PySem.W.S.findZ_eq
name_quick tw14168537005229113720 for PySem.W.S.findZ by PySem.W.S.findZ_eq
name_quick tw17111948838632640456 for PySem.W.S.findZ by PySem.W.S.findZ_eq
name_quick tw10470071008263537045 for PySem.W.S.findZ by PySem.W.S.findZ_eq
name_quick tw6792406925840432001 for PySem.W.S.findZ by PySem.W.S.findZ_eq
name_quick tw18263319221461684349 for PySem.W.S.findZ by PySem.W.S.findZ_eq
name_quick tw12945451867199242903 for PySem.W.S.findZ by PySem.W.S.findZ_eq
name_quick tw1041845030581493396 for PySem.W.S.findZ by PySem.W.S.findZ_eq
name_quick tw11378322030455005005 for PySem.W.S.findZ by PySem.W.S.findZ_eq
name_quick tw912392155897948271 for PySem.W.S.findZ by PySem.W.S.findZ_eq
name_quick tw3105397867545767578 for PySem.W.S.findZ by PySem.W.S.findZ_eq
name_quick tw12635813782599140982 for PySem.W.S.findZ by PySem.W.S.findZ_eq
name_quick tw7275051467321613617 for PySem.W.S.findZ by PySem.W.S.findZ_eq
name_quick tw5882768191206486792 for PySem.W.S.findZ by PySem.W.S.findZ_eq
name_quick tw8450942572126056277 for PySem.W.S.findZ by PySem.W.S.findZ_eq
name_quick tw6448080314894763839 for PySem.W.S.findZ by PySem.W.S.findZ_eq
name_quick tw10706342367453228570 for PySem.W.S.findZ by PySem.W.S.findZ_eq
name_quick tw4302124980754421698 for PySem.W.S.findZ by PySem.W.S.findZ_eq
name_quick tw10996506086634736982 for PySem.W.S.findZ by PySem.W.S.findZ_eq
name_quick tw18350330562280901221 for PySem.W.S.findZ by PySem.W.S.findZ_eq
name_quick tw282004115355043989 for PySem.W.S.findZ by PySem.W.S.findZ_eq
name_quick tw2408619945344806742 for PySem.W.S.findZ by PySem.W.S.findZ_eq
name_quick tw6434265647005701932 for PySem.W.S.findZ by PySem.W.S.findZ_eq
name_quick tw13642483538084851733 for PySem.W.S.findZ by PySem.W.S.findZ_eq
name_quick tw12392613427281201732 for PySem.W.S.findZ by PySem.W.S.findZ_eq
name_quick tw14834023430324568649 for PySem.W.S.findZ by PySem.W.S.findZ_eq
name_quick tw5349121933718820234 for PySem.W.S.findZ by PySem.W.S.findZ_eq
name_quick tw7009043117176579089 for PySem.W.S.findZ by PySem.W.S.findZ_eq
name_quick tw1617757218408452269 for PySem.W.S.findZ by PySem.W.S.findZ_eq
name_quick tw3527409393049130627 for PySem.W.S.findZ by PySem.W.S.findZ_eq
name_quick tw10938465397075749097 for PySem.W.S.findZ by PySem.W.S.findZ_eq
name_quick tw8796240567053077481 for PySem.W.S.findZ by PySem.W.S.findZ_eq
name_quick tw11130039905162102590 for PySem.W.S.findZ by PySem.W.S.findZ_eq
name_quick tw14224011070414065920 for PySem.W.S.findZ by PySem.W.S.findZ_eq
name_quick tw15423634916342008072 for PySem.W.S.findZ by PySem.W.S.findZ_eq
name_quick tw15079194523842364033 for PySem.W.S.findZ by PySem.W.S.findZ_eq
name_quick tw2862820112641550484 for PySem.W.S.findZ by PySem.W.S.findZ_eq
name_quick tw7892128664451923741 for PySem.W.S.findZ by PySem.W.S.findZ_eq
name_quick tw16296994325663420285 for PySem.W.S.findZ by PySem.W.S.findZ_eq
name_quick tw2283851925072248500 for PySem.W.S.findZ by PySem.W.S.findZ_eq
name_quick tw682011567655089306 for PySem.W.S.findZ by PySem.W.S.findZ_eq
name_quick tw13236226663087606529 for PySem.W.S.findZ by PySem.W.S.findZ_eq
name_quick tw151948405760981731 for PySem.W.S.findZ by PySem.W.S.findZ_eq
name_quick tw7094674258960923220 for PySem.W.S.findZ by PySem.W.S.findZ_eq
name_quick tw8206430501311747189 for PySem.W.S.findZ by PySem.W.S.findZ_eq
name_quick tw8727135674562949291 for PySem.W.S.findZ by PySem.W.S.findZ_eq
name_quick tw17001327861769816259 for PySem.W.S.findZ by PySem.W.S.findZ_eq
name_quick tw16413264400604254196 for PySem.W.S.findZ by PySem.W.S.findZ_eq
name_quick tw1749818173716722547 for PySem.W.S.findZ by PySem.W.S.findZ_eq
name_quick tw1355338860687761863 for PySem.W.S.findZ by PySem.W.S.findZ_eq
name_quick tw15034313371233782410 for PySem.W.S.findZ by PySem.W.S.findZ_eq
name_quick tw8537084889766193716 for PySem.W.S.findZ by PySem.W.S.findZ_eq
name_quick tw3118938333895590913 for PySem.W.S.findZ by PySem.W.S.findZ_eq
name_quick tw11964429278604863157 for PySem.W.S.findZ by PySem.W.S.findZ_eq
name_quick tw16439824349840649037 for PySem.W.S.findZ by PySem.W.S.findZ_eq
name_quick tw12825359941727978080 for PySem.W.S.findZ by PySem.W.S.findZ_eq
name_quick tw6434138532213402376 for PySem.W.S.findZ by PySem.W.S.findZ_eq
name_quick tw12290603225136948437 for PySem.W.S.findZ by PySem.W.S.findZ_eq
name_quick tw117213463901210413 for PySem.W.S.findZ by PySem.W.S.findZ_eq
name_quick tw17300597898927385350 for PySem.W.S.findZ by PySem.W.S.findZ_eq
name_quick tw15980859228951719591 for PySem.W.S.findZ by PySem.W.S.findZ_eq
name_quick tw9979284746773624096 for PySem.W.S.findZ by PySem.W.S.findZ_eq
name_quick tw15195428891847259777 for PySem.W.S.findZ by PySem.W.S.findZ_eq
name_quick tw5770868932273138760 for PySem.W.S.findZ by PySem.W.S.findZ_eq
name_quick tw14714103240675001986 for PySem.W.S.findZ by PySem.W.S.findZ_eq
name_quick tw5978237884098788730 for PySem.W.S.findZ by PySem.W.S.findZ_eq
name_quick tw43969757491396457 for PySem.W.S.findZ by PySem.W.S.findZ_eq
name_quick tw14979626087600564940 for PySem.W.S.findZ by PySem.W.S.findZ_eq
name_quick tw3264259588550801142 for PySem.W.S.findZ by PySem.W.S.findZ_eq
name_quick tw4011157648589011858 for PySem.W.S.findZ by PySem.W.S.findZ_eq
name_quick tw3880421473898291048 for PySem.W.S.findZ by PySem.W.S.findZ_eq
name_quick tw4775785305629353868 for PySem.W.S.findZ by PySem.W.S.findZ_eq
name_quick tw14433975572909055671 for PySem.W.S.findZ by PySem.W.S.findZ_eq
name_quick tw10227693086864044499 for PySem.W.S.findZ by PySem.W.S.findZ_eq
name_quick tw9759809726879904816 for PySem.W.S.findZ by PySem.W.S.findZ_eq
name_quick tw13882240740372668763 for PySem.W.S.findZ by PySem.W.S.findZ_eq
open_top Mine.hd for PySem.Challenge.rw_nz0409_01
namespace Mine
theorem rm2 {a b c i j : Nat} (h : a + b < c) (e : Nat.ble (i + j) b = true) : a + i + j < c := by
  rw [Nat.add_assoc]; exact Nat.lt_of_le_of_lt (Nat.add_le_add_left (Nat.le_of_ble_eq_true e) a) h
theorem rmk {a b i : Nat} (h : a + b < 900) (e : Nat.ble i 100 = true) : a + i < 1000 := by have := Nat.le_of_ble_eq_true e; omega
theorem rm_ord {a c s s' : Nat} (h : a + 4 * s < c) (e : s' + 1 ≤ s) : a + 1 + 4 * s' < c := by omega
theorem rm_ordu {a c s s' : Nat} (h : a + 5 * (4 * s) < c) (e : s' + 1 ≤ s) : a + 3 + 5 * (4 * s') < c := by omega
theorem rm_tree {a c d : Nat} (h : a + (3 * (d + 1) + 3) < c) : a + 1 + (3 * d + 3) < c := by omega
theorem rm_treeu {a c d : Nat} (h : a + 5 * (3 * (d + 1) + 3) < c) : a + 3 + 5 * (3 * d + 3) < c := by omega
abbrev pw : Program := PySem.Challenge.pw_nz0409_01
abbrev top (dp un : Nat) (gd : Option (List Code)) (outer : List Env) : Around := { handled := none, depth := dp, frames := some outer, guards := gd, units := un }

/-- what a called def may lean on: g is what it leaves as it is, P the objects that it may turn -/
structure Ready (w : World) (dp un : Nat) (gd : Option (List Code)) (outer : List Env) (base g : Heap) (s : Shared) (P : List (Addr × Obj)) : Prop where
  below : Below (top dp un gd outer) base outer g
  known : (Mine.hd.heap_39 w.params).In g
  top : ∃ p loose mean mg mb, Top p loose mean mg mb g
  sub : ∀ b o, g.get? b = some o → s.heap.get? b = some o
  size : g.objs.size ≤ s.heap.objs.size
  led : ∀ q ∈ P, s.heap.get? q.1 = some q.2 ∧ g.get? q.1 = none

/-- how it comes back -/
noncomputable def Back (g : Heap) (s : Shared) (Post : Value → List (Addr × Obj) → Prop) (R : Result → Shared → Prop) : Prop :=
  ∀ r h' tk' P', (∀ b o, g.get? b = some o → h'.get? b = some o) → (∀ q ∈ P', h'.get? q.1 = some q.2 ∧ g.get? q.1 = none) → Post r P' → R (.ok (.ret r)) { s with heap := h', toks := tk' }

/-- a def's contract -/
noncomputable def FS (w : World) (f : Addr) (dep : Nat) (args : List Value) (Pre : Heap → Prop) (P : List (Addr × Obj)) (Post : Value → List (Addr × Obj) → Prop) : Prop :=
  ∀ (dp un : Nat) (gd : Option (List Code)) (outer : List Env) (base g : Heap) (s : Shared) (R : Result → Shared → Prop),
    Ready w dp un gd outer base g s P → Pre g → dp + dep < 900 → un + 5 * dep < 3000 → Back g s Post R →
    codeAny (model pw w) (top dp un gd outer) (.call (.ref f) ⟨args, []⟩) R s

noncomputable def Done (g : Heap) (s : Shared) (Post : Value → List (Addr × Obj) → Prop) (v : Value) (s' : Shared) : Prop :=
  ∃ L' m' P', Fr g L' s'.heap m' ∧ News g L' s'.heap P' ∧ Post v P' ∧ s' = { s with heap := s'.heap, toks := s'.toks }
theorem Done.back {g : Heap} {s s' : Shared} {Post : Value → List (Addr × Obj) → Prop} {R : Result → Shared → Prop} {v : Value} (D : Done g s Post v s') (B : Back g s Post R) : R (.ok (.ret v)) s' := by
  obtain ⟨L', m', P', F, N, hp, e⟩ := D
  rw [e]
  exact B v _ _ P' F.keep (fun q hq => ⟨(N q hq).1, (N q hq).2.2⟩) hp

section
variable {w : World} {dep : Nat} {Args : List Value} {Pre : Heap → Prop} {P : List (Addr × Obj)} {Post : Value → List (Addr × Obj) → Prop}
  {name qual : Str} {params : Arguments} {body : List Stmt} {scope : Scope} {dV kV doc pm cdv ct oc : Value} {an od : Option Addr} {osl : Array (Option Value)} {f : Addr} {binds : List (Str × Value)}

theorem fs_plain (ho : ∀ P, (Mine.hd.heap_39 P).lookup f = some ⟨oc, od, .func (fnOf name qual params body scope dV kV doc pm an cdv ct), osl⟩) (hcd : ∀ P, codeIn (Mine.hd.heap_39 P) cdv qual = true)
    (hbind : ∀ s, BindsTo s (fnOf name qual params body scope dV kV doc pm an cdv ct) ⟨Args, []⟩ binds) (hloc : ∀ y ∈ binds, scope.names.lookup y.1 = some .local)
    (h : ∀ (dp un : Nat) (gd : Option (List Code)) (outer : List Env) (base g : Heap) (s : Shared) (p : Program) (loose : List Str) (mean : ExcName → Option Value) (mg mb : Str → Option Value) (L : Addr) (h₁ : Heap) (tk : Nat),
      Below (top dp un gd outer) base outer g → (Mine.hd.heap_39 w.params).In g → Top p loose mean mg mb g → Fr g L h₁ (fun y => binds.reverse.lookup y) → News g L h₁ P → Pre g → dp + dep < 900 → un + 5 * dep < 3000 →
      wpAny (model pw w) ((top dp un gd outer).deeper (envOf qual scope L f cdv)) (execs body (envOf qual scope L f cdv))
        (fun fl s' => Done g s Post (match fl with | .ret v => v | _ => .none) s') (fun _ _ => False) ⟨h₁, s.gens, s.drawn, tk, s.os⟩)
    (hco : scope.isCoroutine = false) (hgen : scope.isGenerator = false) (hk : scope.kind = .function) (hcell : ∀ x ∈ scope.names, x.2 ≠ .cell) : FS w f dep Args Pre P Post := by
  intro dp un gd outer base g s R rd pre hd hu back
  obtain ⟨p, loose, mean, mg, mb, T⟩ := rd.top
  have hsub := rd.sub
  refine codeAny_call_def (fd := fnOf name qual params body scope dV kV doc pm an cdv ct) (body := body) (binds := binds) (by show dp < recursionLimit; simp only [recursionLimit]; omega) (hsub _ _ (rd.known _ _ (ho _))) rfl
    (T.nolimit.keeps hsub) (codeRec_of (rd.known.keeps hsub) (hcd _)) rfl (hbind s) hcell hloc (fun h₁ hns hk₁ => ?_) hco hgen hk
  refine wpAny_mono (h dp un gd outer base g s p loose mean mg mb s.heap.objs.size h₁ _ rd.below rd.known T ⟨hns, fun b o e => hk₁ b o (hsub b o e), rd.size⟩
    (fun q hq => ⟨hk₁ _ _ (rd.led q hq).1, Nat.ne_of_lt (Heap.lt_size (rd.led q hq).1), (rd.led q hq).2⟩) pre hd hu) (fun fl s' D => D.back back) fun _ _ x => x.elim
end

section
variable {w : World} {A : Around} {base h₀ : Heap} {outer : List Env} {L : Addr} {m : Str → Option Value} {env : Env} {news P R : List (Addr × Obj)} {hp : Heap} {gs : Array GenState} {dr : Drawn} {tk : Nat} {os : OsState} {p : Program} {loose : List Str} {mean : ExcName → Option Value} {mg mb : Str → Option Value}
  {f : Addr} {dep : Nat} {args : List Value} {Pre : Heap → Prop} {Post : Value → List (Addr × Obj) → Prop} {A₀ : Around} {dp un : Nat} {gd : Option (List Code)} {Q E : Value → Shared → Prop}

/-- a call by a contract: P is what the def turns, R what the caller keeps -/
theorem call_fs (S : FS w f dep args Pre P Post) (B : Below A₀ base outer h₀) (F : Fr h₀ L hp m) (X : (Mine.hd.heap_39 w.params).In h₀) (N : News h₀ L hp news) (T : Top p loose mean mg mb h₀)
    (hf : env.frame = some L) (hke : env.scope.kind = .function)
    (hP : ∀ q ∈ P, q ∈ news) (hR : ∀ q ∈ R, q ∈ news ∧ ∀ r ∈ P, q.1 ≠ r.1)
    (hd : dp + dep < 900) (hu : un + 5 * dep < 3000)
    (hpre : ∀ g, (∀ q ∈ R, g.get? q.1 = some q.2) → (∀ b o, h₀.get? b = some o → g.get? b = some o) → Pre g)
    (ret : ∀ r h' tk' P', Fr h₀ L h' m → News h₀ L h' (P' ++ R) → (∀ q ∈ P', ∀ r ∈ R, q.1 ≠ r.1) → (∀ q ∈ P', (∃ r ∈ P, q.1 = r.1) ∨ ∀ r ∈ news, q.1 ≠ r.1) → Post r P' → Q r ⟨h', gs, dr, tk', os⟩) :
    wpAny (model pw w) (top dp un gd (env :: outer)) (call (.ref f) args) Q E ⟨hp, gs, dr, tk, os⟩ := by
  refine wpAny_call ?_
  have NP : News h₀ L hp P := fun q hq => N q (hP q hq)
  obtain ⟨FG, BG, st, _⟩ := groundX (s := ⟨hp, gs, dr, tk, os⟩) (R := fun _ _ => True) (A := top dp un gd (env :: outer)) B F NP rfl hf hke
  have XG : (Mine.hd.heap_39 w.params).In (hideAll hp (P.map (·.1))) := X.keeps st
  have keepR : ∀ q ∈ R, (hideAll hp (P.map (·.1))).get? q.1 = some q.2 := fun q hq => hideAll_get _ (N q (hR q hq).1).1 fun z => by
    obtain ⟨r, hr, e⟩ := List.mem_map.mp z
    exact (hR q hq).2 r hr e.symm
  refine S dp un gd (env :: outer) base (hideAll hp (P.map (·.1))) ⟨hp, gs, dr, tk, os⟩ _ ⟨BG, XG, ⟨_, _, _, _, _, T.keeps (fun b o e => st b o e)⟩, fun b o e => of_hideAll _ e, Nat.le_of_eq (hideAll_size _ _), fun q hq => ⟨(NP q hq).1, hideAll_none _ (List.mem_map_of_mem hq)⟩⟩
    (hpre _ keepR (fun b o e => st b o e)) hd hu ?_
  intro r h' tk' P' hk hl hp
  obtain ⟨oL, es, ep, hL, hLd, hLk, hLf⟩ := FG.ns
  have ap : ∀ q ∈ P', ∀ r ∈ R, q.1 ≠ r.1 := fun q hq r hr e => by
    have := (hl q hq).2
    rw [e, keepR r hr] at this; cases this
  refine ret r h' tk' P' ⟨⟨oL, es, ep, hk L oL hL, hLd, hLk, hLf⟩, fun b o e => hk b o (st b o e), F.above⟩ (fun q hq => ?_) ap (fun q hq => ?_) hp
  · rcases List.mem_append.mp hq with hq | hq
    · refine ⟨(hl q hq).1, fun e => ?_, ?_⟩
      · have := (hl q hq).2; rw [e, hL] at this; cases this
      · cases z : h₀.get? q.1 with
        | none => rfl
        | some o => have := (hl q hq).2; rw [st _ _ z] at this; cases this
    · exact ⟨hk _ _ (keepR q hq), (N q (hR q hq).1).2⟩
  · by_cases z : q.1 ∈ P.map (·.1)
    · obtain ⟨r, hr, e⟩ := List.mem_map.mp z
      exact .inl ⟨r, hr, e.symm⟩
    · refine .inr fun r hr e => ?_
      have := (hl q hq).2
      rw [hideAll_get (P.map (·.1)) (e ▸ (N r hr).1) z] at this; cases this
theorem isTup_of {h : Heap} {a : Addr} {l : List Value} (e : h.get? a = some { cls := .type "tuple", data := .seq l.toArray }) : IsTup h a l.toArray := ⟨_, e, rfl, _, rfl⟩
end
end Mine
namespace Mine
/-- the expressions that the law draws, and the rows of them -/
inductive T where
  | name (x : Str) | text | whole | join (a b : T) | plus (a b : T) | bar (a b : T) | dot (a b : T)
  | neg (a : T) | ques (a : T) | minus (a : T) | doll (a : T) | at (a : T) | item (a r : T) | call (r : T)
  | r0 | r1 (a : T) | r2 (a b : T)
noncomputable def T.size : T → Nat
  | .name _ => 1 | .text => 1 | .whole => 1 | .join a b => a.size + b.size + 1 | .plus a b => a.size + b.size + 1 | .bar a b => a.size + b.size + 1 | .dot a b => a.size + b.size + 1
  | .neg a => a.size + 1 | .ques a => a.size + 1 | .minus a => a.size + 1 | .doll a => a.size + 1 | .at a => a.size + 1 | .item a r => a.size + r.size + 1 | .call r => r.size + 1
  | .r0 => 1 | .r1 a => a.size + 1 | .r2 a b => a.size + b.size + 1
/-- 0: a value; 1: a name; 2: a row -/
noncomputable def T.wf : Nat → T → Prop
  | 0, .name _ => True | 0, .text => True | 0, .whole => True
  | 0, .join a b => a.wf 0 ∧ b.wf 0
  | 0, .plus a b => a.wf 0 ∧ b.wf 0
  | 0, .bar a b => a.wf 0 ∧ b.wf 0
  | 0, .dot a b => a.wf 0 ∧ b.wf 1
  | 0, .neg a => a.wf 0
  | 0, .ques a => a.wf 0
  | 0, .minus a => a.wf 0
  | 0, .doll a => a.wf 0
  | 0, .at a => a.wf 1
  | 0, .item a r => a.wf 0 ∧ r.wf 2
  | 0, .call r => r.wf 2
  | 1, .name _ => True
  | 1, .doll a => a.wf 0
  | 2, .r0 => True
  | 2, .r1 a => a.wf 0
  | 2, .r2 a b => a.wf 0 ∧ b.wf 0
  | _, _ => False
noncomputable def T.len : T → Nat
  | .r0 => 0 | .r1 _ => 1 | .r2 _ _ => 2 | _ => 0
noncomputable def T.negs : T → Nat
  | .name _ => 0 | .text => 0 | .whole => 0 | .join a b => a.negs + b.negs | .plus a b => a.negs + b.negs | .bar a b => a.negs + b.negs | .dot a b => a.negs + b.negs
  | .neg a => 1 + a.negs | .ques a => a.negs | .minus a => a.negs | .doll a => a.negs | .at a => a.negs | .item a r => a.negs + r.negs | .call r => r.negs
  | .r0 => 0 | .r1 a => a.negs | .r2 a b => a.negs + b.negs
/-- what stands on the stack -/
inductive SV where
  | s (x : Str) | i (n : Int)
  deriving DecidableEq
inductive O where
  | push (v : SV) | var | ref | value | indirect | call (n : Nat) | item (n : Nat) | unary | binary | join | given | cursor | guard (n : Nat) | unguard | fail | drop
noncomputable def ords : Nat → T → List O
  | 0, .name _ => [.var]
  | 0, .text => [.push (.s "t")]
  | 0, .whole => [.push (.i 2)]
  | 0, .join a b => ords 0 a ++ ords 0 b ++ [.join]
  | 0, .plus a b => ords 0 a ++ ords 0 b ++ [.binary]
  | 0, .bar a b => ords 0 a ++ ords 0 b ++ [.binary]
  | 0, .dot a b => ords 0 a ++ ords 1 b ++ [.given]
  | 0, .neg a => [.guard ((ords 0 a).length + 3)] ++ ords 0 a ++ [.unguard, .fail, .push (.s "")]
  | 0, .ques a => ords 0 a ++ [.drop, .push (.s "")]
  | 0, .minus a => ords 0 a ++ [.unary]
  | 0, .doll a => ords 0 a ++ [.indirect, .value]
  | 0, .at a => ords 1 a ++ [.cursor]
  | 0, .item a r => ords 0 a ++ ords 2 r ++ [.item r.len]
  | 0, .call r => ords 2 r ++ [.call r.len]
  | 1, .name _ => [.ref]
  | 1, .doll a => ords 0 a ++ [.indirect]
  | 2, .r1 a => ords 0 a
  | 2, .r2 a b => ords 0 a ++ ords 0 b
  | _, _ => []

section
variable {x : Str} {a b r : T}
theorem ords_nm0 : ords 0 (.name x) = [.var] := rfl
theorem ords_tx : ords 0 .text = [.push (.s "t")] := rfl
theorem ords_wh : ords 0 .whole = [.push (.i 2)] := rfl
theorem ords_jo : ords 0 (.join a b) = ords 0 a ++ ords 0 b ++ [.join] := rfl
theorem ords_pl : ords 0 (.plus a b) = ords 0 a ++ ords 0 b ++ [.binary] := rfl
theorem ords_ba : ords 0 (.bar a b) = ords 0 a ++ ords 0 b ++ [.binary] := rfl
theorem ords_do : ords 0 (.dot a b) = ords 0 a ++ ords 1 b ++ [.given] := rfl
theorem ords_ne : ords 0 (.neg a) = [.guard ((ords 0 a).length + 3)] ++ ords 0 a ++ [.unguard, .fail, .push (.s "")] := rfl
theorem ords_qu : ords 0 (.ques a) = ords 0 a ++ [.drop, .push (.s "")] := rfl
theorem ords_mi : ords 0 (.minus a) = ords 0 a ++ [.unary] := rfl
theorem ords_d0 : ords 0 (.doll a) = ords 0 a ++ [.indirect, .value] := rfl
theorem ords_at : ords 0 (.at a) = ords 1 a ++ [.cursor] := rfl
theorem ords_it : ords 0 (.item a r) = ords 0 a ++ ords 2 r ++ [.item r.len] := rfl
theorem ords_ca : ords 0 (.call r) = ords 2 r ++ [.call r.len] := rfl
theorem ords_nm1 : ords 1 (.name x) = [.ref] := rfl
theorem ords_d1 : ords 1 (.doll a) = ords 0 a ++ [.indirect] := rfl
theorem ords_r0 : ords 2 .r0 = [] := rfl
theorem ords_r1 : ords 2 (.r1 a) = ords 0 a := rfl
theorem ords_r2 : ords 2 (.r2 a b) = ords 0 a ++ ords 0 b := rfl
end
abbrev tup (l : List Value) : Obj := { cls := .type "tuple", data := .seq l.toArray }
abbrev str (x : String) (t : Tok) : Value := .str (Str.ofString x) t
/-- a value told of by the objects that G has -/
inductive RT (G : Addr → Obj → Prop) : Value → T → Prop
  | name {a t x t'} : G a (tup [str "name" t, .str x t']) → RT G (.ref a) (.name x)
  | text {a t t'} : G a (tup [str "text" t, str "t" t']) → RT G (.ref a) .text
  | whole {a t t'} : G a (tup [str "whole" t, .int 2 t']) → RT G (.ref a) .whole
  | join {a t u v x y} : G a (tup [str "join" t, u, v]) → RT G u x → RT G v y → RT G (.ref a) (.join x y)
  | plus {a t t' u v x y} : G a (tup [str "binary" t, str "+" t', u, v]) → RT G u x → RT G v y → RT G (.ref a) (.plus x y)
  | bar {a t t' u v x y} : G a (tup [str "binary" t, str "|" t', u, v]) → RT G u x → RT G v y → RT G (.ref a) (.bar x y)
  | dot {a t t' u v x y} : G a (tup [str "binary" t, str "." t', u, v]) → RT G u x → RT G v y → RT G (.ref a) (.dot x y)
  | neg {a t t' u x} : G a (tup [str "unary" t, str "~" t', u]) → RT G u x → RT G (.ref a) (.neg x)
  | ques {a t t' u x} : G a (tup [str "unary" t, str "?" t', u]) → RT G u x → RT G (.ref a) (.ques x)
  | minus {a t t' u x} : G a (tup [str "unary" t, str "-" t', u]) → RT G u x → RT G (.ref a) (.minus x)
  | doll {a t t' u x} : G a (tup [str "unary" t, str "$" t', u]) → RT G u x → RT G (.ref a) (.doll x)
  | at {a t t' u x} : G a (tup [str "unary" t, str "@" t', u]) → RT G u x → RT G (.ref a) (.at x)
  | item {a t u v x y} : G a (tup [str "item" t, u, v]) → RT G u x → RT G v y → RT G (.ref a) (.item x y)
  | call {a t z t' v y} : G a (tup [str "call" t, .str z t', v]) → RT G v y → RT G (.ref a) (.call y)
  | r0 {a} : G a (tup []) → RT G (.ref a) .r0
  | r1 {a u x} : G a (tup [u]) → RT G u x → RT G (.ref a) (.r1 x)
  | r2 {a u v x y} : G a (tup [u, v]) → RT G u x → RT G v y → RT G (.ref a) (.r2 x y)
theorem RT.mono {G G' : Addr → Obj → Prop} {v : Value} {t : T} (h : RT G v t) (k : ∀ a o, G a o → G' a o) : RT G' v t := by
  induction h with
  | name h => exact .name (k _ _ h)
  | text h => exact .text (k _ _ h)
  | whole h => exact .whole (k _ _ h)
  | join h _ _ i j => exact .join (k _ _ h) i j
  | plus h _ _ i j => exact .plus (k _ _ h) i j
  | bar h _ _ i j => exact .bar (k _ _ h) i j
  | dot h _ _ i j => exact .dot (k _ _ h) i j
  | neg h _ i => exact .neg (k _ _ h) i
  | ques h _ i => exact .ques (k _ _ h) i
  | minus h _ i => exact .minus (k _ _ h) i
  | doll h _ i => exact .doll (k _ _ h) i
  | «at» h _ i => exact .at (k _ _ h) i
  | item h _ _ i j => exact .item (k _ _ h) i j
  | call h _ i => exact .call (k _ _ h) i
  | r0 h => exact .r0 (k _ _ h)
  | r1 h _ i => exact .r1 (k _ _ h) i
  | r2 h _ _ i j => exact .r2 (k _ _ h) i j
/-- a stack's value -/
inductive RS : Value → SV → Prop
  | s {x t} : RS (.str x t) (.s x)
  | i {n t} : RS (.int n t) (.i n)
/-- an order -/
inductive RO (G : Addr → Obj → Prop) : Value → O → Prop
  | push {a t v x} : G a (tup [str "PUSH" t, v]) → RS v x → RO G (.ref a) (.push x)
  | var {a t v t'} : G a (tup [str "VAR" t, .str v t']) → RO G (.ref a) .var
  | ref {a t v t'} : G a (tup [str "REF" t, .str v t']) → RO G (.ref a) .ref
  | value {a t} : G a (tup [str "VALUE" t]) → RO G (.ref a) .value
  | indirect {a t} : G a (tup [str "INDIRECT" t]) → RO G (.ref a) .indirect
  | call {a t z t' n t''} : G a (tup [str "CALL" t, .str z t', .int (n : Nat) t'', .bool false]) → RO G (.ref a) (.call n)
  | item {a t n t''} : G a (tup [str "ITEM" t, .int (n : Nat) t'', .bool false]) → RO G (.ref a) (.item n)
  | unary {a t z t'} : G a (tup [str "UNARY" t, .str z t']) → RO G (.ref a) .unary
  | binary {a t z t'} : G a (tup [str "BINARY" t, .str z t']) → RO G (.ref a) .binary
  | join {a t} : G a (tup [str "JOIN" t]) → RO G (.ref a) .join
  | given {a t z t'} : G a (tup [str "GIVEN" t, .str z t']) → RO G (.ref a) .given
  | cursor {a t} : G a (tup [str "CURSOR" t]) → RO G (.ref a) .cursor
  | guard {a t n t'} : G a (tup [str "GUARD" t, .int (n : Nat) t']) → RO G (.ref a) (.guard n)
  | unguard {a t} : G a (tup [str "UNGUARD" t]) → RO G (.ref a) .unguard
  | fail {a t} : G a (tup [str "FAIL" t]) → RO G (.ref a) .fail
  | drop {a t} : G a (tup [str "DROP" t]) → RO G (.ref a) .drop
theorem RO.mono {G G' : Addr → Obj → Prop} {v : Value} {o : O} (h : RO G v o) (k : ∀ a o, G a o → G' a o) : RO G' v o := by
  cases h with
  | push h r => exact .push (k _ _ h) r
  | var h => exact .var (k _ _ h)
  | ref h => exact .ref (k _ _ h)
  | value h => exact .value (k _ _ h)
  | indirect h => exact .indirect (k _ _ h)
  | call h => exact .call (k _ _ h)
  | item h => exact .item (k _ _ h)
  | unary h => exact .unary (k _ _ h)
  | binary h => exact .binary (k _ _ h)
  | join h => exact .join (k _ _ h)
  | given h => exact .given (k _ _ h)
  | cursor h => exact .cursor (k _ _ h)
  | guard h => exact .guard (k _ _ h)
  | unguard h => exact .unguard (k _ _ h)
  | fail h => exact .fail (k _ _ h)
  | drop h => exact .drop (k _ _ h)
inductive ROs (G : Addr → Obj → Prop) : List Value → List O → Prop
  | nil : ROs G [] []
  | cons {v o vs os} : RO G v o → ROs G vs os → ROs G (v :: vs) (o :: os)
theorem ROs.mono {G G' : Addr → Obj → Prop} {vs : List Value} {os : List O} (h : ROs G vs os) (k : ∀ a o, G a o → G' a o) : ROs G' vs os := by
  induction h with
  | nil => exact .nil
  | cons h _ i => exact .cons (h.mono k) i
theorem ROs.append {G : Addr → Obj → Prop} {vs ws : List Value} {os ps : List O} (h : ROs G vs os) (k : ROs G ws ps) : ROs G (vs ++ ws) (os ++ ps) := by
  induction h with
  | nil => exact k
  | cons h _ i => exact .cons h i
theorem ROs.length {G : Addr → Obj → Prop} {vs : List Value} {os : List O} (h : ROs G vs os) : vs.length = os.length := by
  induction h with
  | nil => rfl
  | cons _ _ i => simp [i]
abbrev inL (l : List (Addr × Obj)) : Addr → Obj → Prop := fun a o => (a, o) ∈ l
abbrev inH (h : Heap) : Addr → Obj → Prop := fun a o => h.get? a = some o
end Mine
namespace Mine
section
variable {prog : Program} {w : World} {A : Around} {E : Value → Shared → Prop} {hp : Heap} {gs : Array GenState} {dr : Drawn} {tk : Nat} {os : OsState} {h₀ : Heap} {L a : Addr} {m : Str → Option Value} {cn : Str} {cs : Scope} {ccd : Value} {cl : List (Str × Addr)}
  {x c v : Str} {t : Tok} {p1 p2 p3 p4 : Pos} {kk : Nat} {body rest : List Stmt}
theorem eqstr_true {whole : Sem Value} {Q : Bool → Shared → Prop} (F : Fr h₀ L hp m) (hv : m x = some (.str v t)) (b : Bool) (hb : (v == c) = b) (h : ∀ tk', Q b ⟨hp, gs, dr, tk', os⟩)
    (hk : cs.kind = .function := by rfl) (hx : (envX cn cs L a ccd cl).kindOf x = some .local := by rfl) (hd : (x == ("__debug__" : Str)) = false := by decide) :
    wpAny (model prog w) A (isTrue (.Compare (.Name x p1) [.Eq] [.Constant (.str c) kk p2] p3) (envX cn cs L a ccd cl) whole) Q E ⟨hp, gs, dr, tk, os⟩ := by
  subst hb
  exact wpAny_isTrue_Compare1 (nameX_L (s := ⟨hp, gs, dr, tk, os⟩) F hv (Calls.Constant_str (eq_str (wpAny_truthy_bool (h _)))) hk hx hd)
theorem skip_if {Q : Flow → Shared → Prop} (F : Fr h₀ L hp m) (hv : m x = some (.str v t)) (hb : (v == c) = false) (h : ∀ tk', wpAny (model prog w) A (execs rest (envX cn cs L a ccd cl)) Q E ⟨hp, gs, dr, tk', os⟩)
    (hk : cs.kind = .function := by rfl) (hx : (envX cn cs L a ccd cl).kindOf x = some .local := by rfl) (hd : (x == ("__debug__" : Str)) = false := by decide) :
    wpAny (model prog w) A (execs (.If (.Compare (.Name x p1) [.Eq] [.Constant (.str c) kk p2] p3) body [] p4 :: rest) (envX cn cs L a ccd cl)) Q E ⟨hp, gs, dr, tk, os⟩ :=
  wpAny_execs_cons (wpAny_If (eqstr_true F hv false hb (fun _ => wpAny_execs_nil (h _)) hk hx hd))
theorem take_if {Q : Flow → Shared → Prop} (F : Fr h₀ L hp m) (hv : m x = some (.str v t)) (hb : (v == c) = true)
    (h : ∀ tk', wpAny (model prog w) A (execs body (envX cn cs L a ccd cl)) (fun f s' => match f with | .next => wpAny (model prog w) A (execs rest (envX cn cs L a ccd cl)) Q E s' | f => Q f s') E ⟨hp, gs, dr, tk', os⟩)
    (hk : cs.kind = .function := by rfl) (hx : (envX cn cs L a ccd cl).kindOf x = some .local := by rfl) (hd : (x == ("__debug__" : Str)) = false := by decide) :
    wpAny (model prog w) A (execs (.If (.Compare (.Name x p1) [.Eq] [.Constant (.str c) kk p2] p3) body [] p4 :: rest) (envX cn cs L a ccd cl)) Q E ⟨hp, gs, dr, tk, os⟩ :=
  wpAny_execs_cons (wpAny_If (eqstr_true F hv true hb h hk hx hd))
theorem skip_or {c2 : Str} {p5 p6 p7 p8 : Pos} {k2 : Nat} {Q : Flow → Shared → Prop} (F : Fr h₀ L hp m) (hv : m x = some (.str v t)) (hb : (v == c) = false) (hb2 : (v == c2) = false)
    (h : ∀ tk', wpAny (model prog w) A (execs rest (envX cn cs L a ccd cl)) Q E ⟨hp, gs, dr, tk', os⟩)
    (hk : cs.kind = .function := by rfl) (hx : (envX cn cs L a ccd cl).kindOf x = some .local := by rfl) (hd : (x == ("__debug__" : Str)) = false := by decide) :
    wpAny (model prog w) A (execs (.If (.BoolOp .Or [.Compare (.Name x p1) [.Eq] [.Constant (.str c) kk p2] p3, .Compare (.Name x p5) [.Eq] [.Constant (.str c2) k2 p6] p7] p8) body [] p4 :: rest) (envX cn cs L a ccd cl)) Q E ⟨hp, gs, dr, tk, os⟩ :=
  wpAny_execs_cons (wpAny_If (isTrue_or (eqstr_true F hv false hb (fun _ => isTrue_or (eqstr_true F hv false hb2 (fun _ => isTrue_or_nil (wpAny_execs_nil (h _))) hk hx hd)) hk hx hd)))
theorem item_tup {ad : Addr} {l : List Value} {k : Int} {j : Nat} {u : Value} {Q : Value → Shared → Prop} (F : Fr h₀ L hp m) (hv : m x = some (.ref ad)) (ht : IsTup hp ad l.toArray)
    (hlo : -(2 ^ 63) ≤ k) (hhi : k < 2 ^ 63) (hj : seqIndex? k l.length = some j) (hu : l[j]? = some u) (h : ∀ tk', Q u ⟨hp, gs, dr, tk', os⟩)
    (hk : cs.kind = .function := by rfl) (hx : (envX cn cs L a ccd cl).kindOf x = some .local := by rfl) (hd : (x == ("__debug__" : Str)) = false := by decide) :
    wpAny (model prog w) A (eval (.Subscript (.Name x p1) (.Constant (.int k) kk p2) p3) (envX cn cs L a ccd cl)) Q E ⟨hp, gs, dr, tk, os⟩ := by
  refine Subscript_ (nameX_L (s := ⟨hp, gs, dr, tk, os⟩) F hv (wpAny_Constant_int (item_tupleT (s := ⟨hp, gs, dr, tk + 1, os⟩) ht hlo hhi hj hu (h _) ?_)) hk hx hd)
  with_unfolding_all rfl
theorem skip_if0 {Q : Flow → Shared → Prop} (F : Fr h₀ L hp m) (hv : m x = some (.str v t)) (hb : (v == c) = false) (h : ∀ tk', wpAny (model prog w) A (execs rest (envOf cn cs L a ccd)) Q E ⟨hp, gs, dr, tk', os⟩)
    (hk : cs.kind = .function := by rfl) (hx : (envOf cn cs L a ccd).kindOf x = some .local := by rfl) (hd : (x == ("__debug__" : Str)) = false := by decide) :
    wpAny (model prog w) A (execs (.If (.Compare (.Name x p1) [.Eq] [.Constant (.str c) kk p2] p3) body [] p4 :: rest) (envOf cn cs L a ccd)) Q E ⟨hp, gs, dr, tk, os⟩ := skip_if (cl := []) F hv hb h hk hx hd
theorem take_if0 {Q : Flow → Shared → Prop} (F : Fr h₀ L hp m) (hv : m x = some (.str v t)) (hb : (v == c) = true)
    (h : ∀ tk', wpAny (model prog w) A (execs body (envOf cn cs L a ccd)) (fun f s' => match f with | .next => wpAny (model prog w) A (execs rest (envOf cn cs L a ccd)) Q E s' | f => Q f s') E ⟨hp, gs, dr, tk', os⟩)
    (hk : cs.kind = .function := by rfl) (hx : (envOf cn cs L a ccd).kindOf x = some .local := by rfl) (hd : (x == ("__debug__" : Str)) = false := by decide) :
    wpAny (model prog w) A (execs (.If (.Compare (.Name x p1) [.Eq] [.Constant (.str c) kk p2] p3) body [] p4 :: rest) (envOf cn cs L a ccd)) Q E ⟨hp, gs, dr, tk, os⟩ := take_if (cl := []) F hv hb h hk hx hd
theorem skip_or0 {c2 : Str} {p5 p6 p7 p8 : Pos} {k2 : Nat} {Q : Flow → Shared → Prop} (F : Fr h₀ L hp m) (hv : m x = some (.str v t)) (hb : (v == c) = false) (hb2 : (v == c2) = false)
    (h : ∀ tk', wpAny (model prog w) A (execs rest (envOf cn cs L a ccd)) Q E ⟨hp, gs, dr, tk', os⟩)
    (hk : cs.kind = .function := by rfl) (hx : (envOf cn cs L a ccd).kindOf x = some .local := by rfl) (hd : (x == ("__debug__" : Str)) = false := by decide) :
    wpAny (model prog w) A (execs (.If (.BoolOp .Or [.Compare (.Name x p1) [.Eq] [.Constant (.str c) kk p2] p3, .Compare (.Name x p5) [.Eq] [.Constant (.str c2) k2 p6] p7] p8) body [] p4 :: rest) (envOf cn cs L a ccd)) Q E ⟨hp, gs, dr, tk, os⟩ := skip_or (cl := []) F hv hb hb2 h hk hx hd
theorem item_tup0 {ad : Addr} {l : List Value} {k : Int} {j : Nat} {u : Value} {Q : Value → Shared → Prop} (F : Fr h₀ L hp m) (hv : m x = some (.ref ad)) (ht : IsTup hp ad l.toArray)
    (hlo : -(2 ^ 63) ≤ k) (hhi : k < 2 ^ 63) (hj : seqIndex? k l.length = some j) (hu : l[j]? = some u) (h : ∀ tk', Q u ⟨hp, gs, dr, tk', os⟩)
    (hk : cs.kind = .function := by rfl) (hx : (envOf cn cs L a ccd).kindOf x = some .local := by rfl) (hd : (x == ("__debug__" : Str)) = false := by decide) :
    wpAny (model prog w) A (eval (.Subscript (.Name x p1) (.Constant (.int k) kk p2) p3) (envOf cn cs L a ccd)) Q E ⟨hp, gs, dr, tk, os⟩ := item_tup (cl := []) F hv ht hlo hhi hj hu h hk hx hd
/-- a written tuple of strs -/
noncomputable def strsOf : List Expr → Option (List Str)
  | [] => some []
  | .Constant (.str c) _ _ :: r => (strsOf r).map (c :: ·)
  | _ => none
theorem strsOf_run {M : Model} {env : Env} {pos : Pos} (elts : List Expr) : ∀ (cs : List Str), strsOf elts = some cs → ∀ (tk : Nat) (Q : List Value → Shared → Prop), (∀ vs tk', StrsAre vs cs → Q vs ⟨hp, gs, dr, tk', os⟩) →
    wpAny M A (spliced (backTo pos (starEach elts env))) Q E ⟨hp, gs, dr, tk, os⟩ := by
  induction elts with
  | nil => intro cs h tk Q k; cases h; exact spliced_none (k [] _ .nil)
  | cons e r ih =>
    intro cs h tk Q k
    unfold strsOf at h
    split at h
    · rename_i heq; cases heq
    · rename_i c kk p r' heq
      cases heq
      obtain ⟨ds, h1, rfl⟩ := Option.map_eq_some_iff.mp h
      exact spliced_more (Calls.Constant_str (ih ds h1 _ _ fun vs tk' hs => k _ tk' (.cons c tk hs)))
    · cases h
theorem strsAre_len {vs : List Value} {cs : List Str} (h : StrsAre vs cs) : vs.length = cs.length := by
  induction h with
  | nil => rfl
  | cons _ _ _ i => exact congrArg (· + 1) i
theorem in_strs {news : List (Addr × Obj)} {elts : List Expr} {ss : List Str} {k2 : Nat} {whole : Sem Value} {Q : Bool → Shared → Prop} (F : Fr h₀ L hp m) (N : News h₀ L hp news) (hv : m x = some (.str v t)) (hs : strsOf elts = some ss) (hn : ss.length ≤ 1000) (b : Bool) (hb : ss.any (· == v) = b)
    (hm : behindInMarks .In (.Tuple elts k2 p2) = false) (h : ∀ h' tk', Fr h₀ L h' m → News h₀ L h' news → Q b ⟨h', gs, dr, tk', os⟩)
    (hk : cs.kind = .function := by rfl) (hx : (envX cn cs L a ccd cl).kindOf x = some .local := by rfl) (hd : (x == ("__debug__" : Str)) = false := by decide) :
    wpAny (model prog w) A (isTrue (.Compare (.Name x p1) [.In] [.Tuple elts k2 p2] p3) (envX cn cs L a ccd cl) whole) Q E ⟨hp, gs, dr, tk, os⟩ := by
  subst hb
  refine wpAny_isTrue_Compare1 (nameX_L (s := ⟨hp, gs, dr, tk, os⟩) F hv (Tuple_ (strsOf_run elts ss hs _ _ fun vs tk' hvs => ?_)) hk hx hd) hm
  refine newTuple_N (s := ⟨hp, gs, dr, tk', os⟩) F N (fun h' F' N' => ?_) (by rw [strsAre_len hvs, sizeLine_eq]; omega)
  exact in_tuple_strs (s := ⟨h', gs, dr, tk', os⟩) (N'.isTup (.head _)) hvs (wpAny_truthy_bool (h h' tk' F' fun p hp => N' p (.tail _ hp)))
theorem skip_in0 {news : List (Addr × Obj)} {elts : List Expr} {ss : List Str} {k2 : Nat} {Q : Flow → Shared → Prop} (F : Fr h₀ L hp m) (N : News h₀ L hp news) (hv : m x = some (.str v t)) (hs : strsOf elts = some ss) (hn : ss.length ≤ 1000) (hb : ss.any (· == v) = false)
    (hm : behindInMarks .In (.Tuple elts k2 p2) = false) (h : ∀ h' tk', Fr h₀ L h' m → News h₀ L h' news → wpAny (model prog w) A (execs rest (envOf cn cs L a ccd)) Q E ⟨h', gs, dr, tk', os⟩)
    (hk : cs.kind = .function := by rfl) (hx : (envOf cn cs L a ccd).kindOf x = some .local := by rfl) (hd : (x == ("__debug__" : Str)) = false := by decide) :
    wpAny (model prog w) A (execs (.If (.Compare (.Name x p1) [.In] [.Tuple elts k2 p2] p3) body [] p4 :: rest) (envOf cn cs L a ccd)) Q E ⟨hp, gs, dr, tk, os⟩ :=
  wpAny_execs_cons (wpAny_If (in_strs (cl := []) F N hv hs hn false hb hm (fun h' tk' F' N' => wpAny_execs_nil (h h' tk' F' N')) hk hx hd))
theorem take_in0 {news : List (Addr × Obj)} {elts : List Expr} {ss : List Str} {k2 : Nat} {Q : Flow → Shared → Prop} (F : Fr h₀ L hp m) (N : News h₀ L hp news) (hv : m x = some (.str v t)) (hs : strsOf elts = some ss) (hn : ss.length ≤ 1000) (hb : ss.any (· == v) = true)
    (hm : behindInMarks .In (.Tuple elts k2 p2) = false) (h : ∀ h' tk', Fr h₀ L h' m → News h₀ L h' news → wpAny (model prog w) A (execs body (envOf cn cs L a ccd)) (fun f s' => match f with | .next => wpAny (model prog w) A (execs rest (envOf cn cs L a ccd)) Q E s' | f => Q f s') E ⟨h', gs, dr, tk', os⟩)
    (hk : cs.kind = .function := by rfl) (hx : (envOf cn cs L a ccd).kindOf x = some .local := by rfl) (hd : (x == ("__debug__" : Str)) = false := by decide) :
    wpAny (model prog w) A (execs (.If (.Compare (.Name x p1) [.In] [.Tuple elts k2 p2] p3) body [] p4 :: rest) (envOf cn cs L a ccd)) Q E ⟨hp, gs, dr, tk, os⟩ :=
  wpAny_execs_cons (wpAny_If (in_strs (cl := []) F N hv hs hn true hb hm h hk hx hd))
end
end Mine
namespace Mine
/-- how a turn of a loop ends: the loop's own iterator (I, o) stands in the ledger as it stood -/
noncomputable def Turn (h₀ : Heap) (L I : Addr) (o : Obj) (J : (Str → Option Value) → List (Addr × Obj) → Prop) (gs : Array GenState) (dr : Drawn) (os : OsState) (Q : Flow → Shared → Prop) (f : Flow) (s₂ : Shared) : Prop :=
  match f with
  | .ret v => Q (.ret v) s₂
  | .brk => Q .next s₂
  | _ => ∃ h' tk m' news', s₂ = ⟨h', gs, dr, tk, os⟩ ∧ Fr h₀ L h' m' ∧ News h₀ L h' ((I, o) :: news') ∧ (∀ q ∈ news', q.1 ≠ I) ∧ J m' news'
section
variable {prog : Program} {w : World} {A : Around} {E : Value → Shared → Prop} {env : Env} {hp h₀ : Heap} {gs : Array GenState} {dr : Drawn} {tk : Nat} {os : OsState} {m : Str → Option Value} {news : List (Addr × Obj)} {target iter : Expr} {body : List Stmt} {pos : Pos} {Q : Flow → Shared → Prop}
theorem for_core {I ax : Addr} {n : Nat} {P : Nat → Value → Prop} {St : Nat → Heap → Prop} {fp : List Addr} {s₂ : Shared} (W : Walks prog w A I fp [I] n P St)
    (hgo : ∀ i v (s : Shared) (Q : Unit → Shared → Prop) (E : Value → Shared → Prop), St i s.heap → Q () s → wpAny (model prog w) A (letOwnedTupleGo target (.ref I) v) Q E s)
    (hfp : ∀ b ∈ fp, b = I ∨ ∃ o, h₀.get? b = some o) (hI0 : h₀.get? I = none) (hIL : I ≠ env.locals) (hL0 : ∀ o, h₀.get? env.locals ≠ some o) (hob : ∀ i h, St i h → ∃ o, h.get? I = some o)
    (hst : St 0 s₂.heap) (F : Fr h₀ env.locals s₂.heap m) (N : News h₀ env.locals s₂.heap news) (hnI : ∀ p ∈ news, p.1 ≠ I)
    (es : s₂ = ⟨s₂.heap, gs, dr, s₂.toks, os⟩)
    (J : Nat → (Str → Option Value) → List (Addr × Obj) → Prop) (h0 : J 0 m news)
    (step : ∀ i v m₁ news₁ h₁ tk₁ o, i < n → P i v → J i m₁ news₁ → (∀ p ∈ news₁, p.1 ≠ I) → Fr h₀ env.locals h₁ m₁ → News h₀ env.locals h₁ ((I, o) :: news₁) →
      wpAny (model prog w) A (assign target env v) (fun _ s₃ => wpAny (model prog w) A (execs body env) (Turn h₀ env.locals I o (J (i + 1)) gs dr os Q) E s₃) E ⟨h₁, gs, dr, tk₁, os⟩)
    (fin : ∀ h' tk m' news', Fr h₀ env.locals h' m' → News h₀ env.locals h' news' → J n m' news' → Q .next ⟨h', gs, dr, tk, os⟩) :
    TurnsAt prog w A h₀ env target body Q E (.ref I) s₂ := by
  have hself : ∀ i h, St i h → ∃ o, h.get? I = some o := hob
  refine ⟨I, fp, [I], n, _, _, St, m, news, J, rfl, KTurns.ofWalks W hgo, fun hb => ?_, fun b hb => by rw [List.mem_singleton.mp hb]; exact hI0, fun p hp q => hnI p hp (List.mem_singleton.mp q), hst, F, N, h0, ?_, ?_⟩
  · rcases hfp _ hb with e | ⟨o, e⟩
    · exact hIL e.symm
    · exact hL0 o e
  · intro i v m₁ news₁ h₁ tk₁ own hi hP hJ hn1 hown hget hall hst₁ F₁ N₁
    obtain ⟨o, ho⟩ := hself _ _ hst₁
    have hIf : I ∈ fp := W.sub I (List.mem_singleton.mpr rfl)
    have hmem := hall I hIf hI0 o ho
    have only : ∀ p ∈ own, p = (I, o) := fun p hp => by
      have := (N₁ p (List.mem_append_left _ hp)).2.2
      rcases hfp _ (hown p hp) with e | ⟨o', e⟩
      · have e2 := hget p hp
        rw [e, ho] at e2
        obtain ⟨pa, po⟩ := p
        simp only at e e2
        rw [e, ← Option.some.inj e2]
      · rw [e] at this; cases this
    have NI : News h₀ env.locals h₁ ((I, o) :: news₁) := fun p hp => by
      rcases List.mem_cons.mp hp with rfl | hp
      · exact N₁ _ (List.mem_append_left _ hmem)
      · exact N₁ _ (List.mem_append_right _ hp)
    have hn1' : ∀ p ∈ news₁, p.1 ≠ I := fun p hp q => hn1 p hp (List.mem_singleton.mpr q)
    have e3 : ({ s₂ with heap := h₁, toks := tk₁ } : Shared) = ⟨h₁, gs, dr, tk₁, os⟩ := by rw [es]
    rw [e3]
    refine wpAny_mono (step i v m₁ news₁ h₁ tk₁ o hi hP hJ hn1' F₁ NI) (fun _ s₃ h₃ => wpAny_mono h₃ (fun f s₄ h₄ => ?_) fun _ _ e => e) fun _ _ e => e
    have conv : (∃ h' tk m' news', s₄ = ⟨h', gs, dr, tk, os⟩ ∧ Fr h₀ env.locals h' m' ∧ News h₀ env.locals h' ((I, o) :: news') ∧ (∀ q ∈ news', q.1 ≠ I) ∧ J (i + 1) m' news') →
        LoopStepU h₀ env.locals [I] own (J (i + 1)) ⟨h₁, gs, dr, tk₁, os⟩ .next s₄ := by
      rintro ⟨h', tk', m', news', e, F', N', ap, j⟩
      refine ⟨rfl, h', tk', m', news', e, F', fun p hp => ?_, fun p hp q => ap p hp (List.mem_singleton.mp q), j⟩
      rcases List.mem_append.mp hp with hp | hp
      · rw [only p hp]; exact N' _ (.head _)
      · exact N' _ (.tail _ hp)
    cases f with
    | ret v => exact h₄
    | brk => exact h₄
    | next => exact conv h₄
    | cont => exact conv h₄
  · intro h' tk' m' news' F' N' _ j
    have e3 : ({ s₂ with heap := h', toks := tk' } : Shared) = ⟨h', gs, dr, tk', os⟩ := by rw [es]
    rw [e3]; exact fin h' tk' m' news' F' N' j

/-- a for over a list or a tuple that the frame's ground has -/
theorem for_base {ax : Addr} {xs : Array Value} (hl : h₀.IsList ax xs ∨ h₀.IsTuple ax xs) (hh : A.handled = none) (F : Fr h₀ env.locals hp m) (N : News h₀ env.locals hp news)
    (he : ∀ Q' : Value → Shared → Prop, (∀ tk', Q' (.ref ax) ⟨hp, gs, dr, tk', os⟩) → wpAny (model prog w) A (eval iter env) Q' E ⟨hp, gs, dr, tk, os⟩)
    (J : Nat → (Str → Option Value) → List (Addr × Obj) → Prop) (h0 : J 0 m news)
    (step : ∀ i v m₁ news₁ h₁ tk₁ I o, xs[i]? = some v → J i m₁ news₁ → (∀ p ∈ news₁, p.1 ≠ I) → Fr h₀ env.locals h₁ m₁ → News h₀ env.locals h₁ ((I, o) :: news₁) →
      wpAny (model prog w) A (assign target env v) (fun _ s₃ => wpAny (model prog w) A (execs body env) (Turn h₀ env.locals I o (J (i + 1)) gs dr os Q) E s₃) E ⟨h₁, gs, dr, tk₁, os⟩)
    (fin : ∀ h' tk m' news', Fr h₀ env.locals h' m' → News h₀ env.locals h' news' → J xs.size m' news' → Q .next ⟨h', gs, dr, tk, os⟩)
    (hs : ∀ x, foldedSetIterable iter env x = pure x := by intro _; rfl)
    (hE : PassesOwn (model prog w) A env E := by passes_own) :
    wpAny (model prog w) A (exec (.For target iter body [] pos) env) Q E ⟨hp, gs, dr, tk, os⟩ := by
  refine For_turns (h₀ := h₀) F (he _ fun tk' => ?_) hs hE
  have hL0 : ∀ o, h₀.get? env.locals ≠ some o := fun o e => absurd (Nat.lt_of_lt_of_le (Heap.lt_size e) F.above) (Nat.lt_irrefl _)
  have hI0 : h₀.get? hp.objs.size = none := by
    cases q : h₀.get? hp.objs.size with
    | none => rfl
    | some o => exact absurd (Heap.lt_size (F.keep _ _ q)) (Nat.lt_irrefl _)
  have hIL : hp.objs.size ≠ env.locals := Nat.ne_of_gt F.ns.lt
  have hnI : ∀ p ∈ news, p.1 ≠ hp.objs.size := fun p hp' => Nat.ne_of_lt (Heap.lt_size (N p hp').1)
  rcases hl with hl | hl
  · have hl' : hp.IsList ax xs := F.lst hl
    have hne : ax ≠ hp.objs.size := by obtain ⟨o, e, _⟩ := hl'; exact Nat.ne_of_lt (Heap.lt_size e)
    refine wpAny_pyIter_list (s := ⟨hp, gs, dr, tk', os⟩) hl' ?_
    refine for_core (ax := ax) (Walks.list hh hp.objs.size ax hne xs) (fun i v s Q E st q => letGo_listiter st.1 q) (fun b hb => ?_) hI0 hIL hL0 (fun i h st => ?_) ⟨⟨_, Heap.get?_push_size _ rfl, rfl, rfl⟩, hl'.at fun o e => Heap.get?_push_of_some _ e⟩ (F.push _) (fun p hp' => ⟨Heap.get?_push_of_some _ (N p hp').1, (N p hp').2⟩) hnI rfl J h0
      (fun i v m₁ news₁ h₁ tk₁ o _ hP hJ ap F₁ N₁ => step i v m₁ news₁ h₁ tk₁ _ o hP hJ ap F₁ N₁) fin
    · rcases List.mem_cons.mp hb with e | hb
      · exact .inl e
      · obtain ⟨o, e, _⟩ := hl; exact .inr ⟨o, by rw [List.mem_singleton.mp hb]; exact e⟩
    · obtain ⟨o, e, _⟩ := st.1; exact ⟨o, e⟩
  · have hl' : hp.IsTuple ax xs := hl.at fun o e => F.keep _ _ e
    have hne : ax ≠ hp.objs.size := by obtain ⟨o, e, _⟩ := hl'; exact Nat.ne_of_lt (Heap.lt_size e)
    refine wpAny_pyIter_tuple (s := ⟨hp, gs, dr, tk', os⟩) hl' ?_
    refine for_core (ax := ax) (Walks.tuple hh hp.objs.size ax hne xs) (fun i v s Q E st q => letGo_tupleiter st.1 q) (fun b hb => ?_) hI0 hIL hL0 (fun i h st => ?_) ⟨⟨_, Heap.get?_push_size _ rfl, rfl, rfl⟩, hl'.at fun o e => Heap.get?_push_of_some _ e⟩ (F.push _) (fun p hp' => ⟨Heap.get?_push_of_some _ (N p hp').1, (N p hp').2⟩) hnI rfl J h0
      (fun i v m₁ news₁ h₁ tk₁ o _ hP hJ ap F₁ N₁ => step i v m₁ news₁ h₁ tk₁ _ o hP hJ ap F₁ N₁) fin
    · rcases List.mem_cons.mp hb with e | hb
      · exact .inl e
      · obtain ⟨o, e, _⟩ := hl; exact .inr ⟨o, by rw [List.mem_singleton.mp hb]; exact e⟩
    · obtain ⟨o, e, _⟩ := st.1; exact ⟨o, e⟩
end
end Mine
namespace Mine
noncomputable def OrdPost (m : Nat) (t : T) (r : Value) (P' : List (Addr × Obj)) : Prop :=
  ∃ a its k, r = .ref a ∧ (a, W.listOf its k) ∈ P' ∧ ROs (inL P') its.toList (ords m t) ∧ its.size ≤ 4 * t.size
noncomputable def OrdIH (w : World) (n : Nat) : Prop := ∀ t v, t.size < n → t.wf 0 → FS w 296 (4 * t.size) [v] (fun g => RT (inH g) v t) [] (OrdPost 0 t)
section
variable {w : World} {base g h₀ : Heap} {outer : List Env} {L : Addr} {m : Str → Option Value} {env : Env} {news : List (Addr × Obj)} {hp : Heap} {gs : Array GenState} {dr : Drawn} {tk : Nat} {os : OsState} {p : Program} {loose : List Str} {mean : ExcName → Option Value} {mg mb : Str → Option Value}
  {A₀ : Around} {dp un n : Nat} {gd : Option (List Code)} {Q E : Value → Shared → Prop} {v : Value} {t : T}
theorem fs_call0 {f : Addr} {dep mo : Nat} (S : FS w f dep [v] (fun g => RT (inH g) v t) [] (OrdPost mo t)) (B : Below A₀ base outer h₀) (F : Fr h₀ L hp m) (X : (Mine.hd.heap_39 w.params).In h₀) (N : News h₀ L hp news) (T : Top p loose mean mg mb h₀)
    (hr : RT (inH g) v t) (hk : ∀ b o, g.get? b = some o → h₀.get? b = some o) (hf : env.frame = some L) (hke : env.scope.kind = .function)
    (hd : dp + dep < 900) (hu : un + 5 * dep < 3000)
    (ret : ∀ a its k h' tk' P', Fr h₀ L h' m → News h₀ L h' (P' ++ news) → (∀ q ∈ P', ∀ r ∈ news, q.1 ≠ r.1) → (a, W.listOf its k) ∈ P' → ROs (inL P') its.toList (ords mo t) → its.size ≤ 4 * t.size → its.size = (ords mo t).length → Q (.ref a) ⟨h', gs, dr, tk', os⟩) :
    wpAny (model pw w) (top dp un gd (env :: outer)) (call (.ref f) [v]) Q E ⟨hp, gs, dr, tk, os⟩ := by
  refine call_fs (R := news) S B F X N T hf hke (fun q hq => nomatch hq) (fun q hq => ⟨hq, fun r hr => nomatch hr⟩) hd hu (fun g' _ hk' => hr.mono fun a o e => hk' _ _ (hk _ _ e)) ?_
  intro r h' tk' P' F' N' _ fr hp
  obtain ⟨a, its, k, rfl, h1, h2, h3⟩ := hp
  exact ret a its k h' tk' P' F' N' (fun q hq r hr => (fr q hq).elim (fun ⟨_, z, _⟩ => nomatch z) fun z => z r hr) h1 h2 h3 (by rw [← Array.length_toList]; exact h2.length)
theorem ord_call (I : OrdIH w n) (B : Below A₀ base outer h₀) (F : Fr h₀ L hp m) (X : (Mine.hd.heap_39 w.params).In h₀) (N : News h₀ L hp news) (T : Top p loose mean mg mb h₀)
    (hr : RT (inH g) v t) (hk : ∀ b o, g.get? b = some o → h₀.get? b = some o) (hf : env.frame = some L) (hke : env.scope.kind = .function)
    (hs : t.size < n) (hw : t.wf 0) (hd : dp + 4 * t.size < 900) (hu : un + 5 * (4 * t.size) < 3000)
    (ret : ∀ a its k h' tk' P', Fr h₀ L h' m → News h₀ L h' (P' ++ news) → (∀ q ∈ P', ∀ r ∈ news, q.1 ≠ r.1) → (a, W.listOf its k) ∈ P' → ROs (inL P') its.toList (ords 0 t) → its.size ≤ 4 * t.size → its.size = (ords 0 t).length → Q (.ref a) ⟨h', gs, dr, tk', os⟩) :
    wpAny (model pw w) (top dp un gd (env :: outer)) (call (.ref 296) [v]) Q E ⟨hp, gs, dr, tk, os⟩ := fs_call0 (I t v hs hw) B F X N T hr hk hf hke hd hu ret
end
section
variable {prog : Program} {w : World} {A : Around} {E : Value → Shared → Prop} {hp : Heap} {gs : Array GenState} {dr : Drawn} {tk : Nat} {os : OsState} {h₀ : Heap} {L : Addr} {m : Str → Option Value} {news : List (Addr × Obj)}
theorem add_mem {l b : Addr} {its its2 : Array Value} {k k2 : Nat} {Q : Value → Shared → Prop} (F : Fr h₀ L hp m) (N : News h₀ L hp news) (h1 : (l, W.listOf its k) ∈ news) (h2 : (b, W.listOf its2 k2) ∈ news)
    (hsz : its.size + its2.size ≤ 100000)
    (h : ∀ D h', Fr h₀ L h' m → News h₀ L h' ((D, W.listOf (its ++ its2) 0) :: news) → (∀ q ∈ news, q.1 < D) → Q (.ref D) ⟨h', gs, dr, tk, os⟩) :
    wpAny (model prog w) A (binaryOp .Add (.ref l) (.ref b)) Q E ⟨hp, gs, dr, tk, os⟩ := by
  refine add_arrays (s := ⟨hp, gs, dr, tk, os⟩) F N (N.isList h1) (N.isList h2) (fun h' F' N' => ?_) (by rw [sizeLine_eq]; omega)
  have e : (its.toList ++ its2.toList).toArray = its ++ its2 := by simp
  rw [e] at N'
  exact h _ h' F' N' fun q hq => Heap.lt_size (N q hq).1
theorem updF_upd {d : Addr} {o o' : Obj} {l : List (Addr × Obj)} {f : Obj → List (Addr × Obj)} (U : UpdF d o l f) : Upd d o o' l (f o') := by
  induction U with
  | head h => exact .head h
  | tail h _ i => exact .tail h i
theorem updF_app {d : Addr} {o : Obj} {P l : List (Addr × Obj)} {f : Obj → List (Addr × Obj)} (h : ∀ q ∈ P, q.1 ≠ d) (U : UpdF d o l f) : UpdF d o (P ++ l) (fun o' => P ++ f o') := by
  induction P with
  | nil => exact U
  | cons p r i => exact .tail (h p (.head _)) (i fun q hq => h q (.tail _ hq))
theorem ap_of {d : Addr} {o : Obj} {P l : List (Addr × Obj)} (h : ∀ q ∈ P, ∀ r ∈ l, q.1 ≠ r.1) (hm : (d, o) ∈ l) : ∀ q ∈ P, q.1 ≠ d := fun q hq => h q hq _ hm
theorem ext_mem {D b : Addr} {its its2 : Array Value} {n n2 : Nat} {f : Obj → List (Addr × Obj)} {Q : Value → Shared → Prop} (F : Fr h₀ L hp m) (N : News h₀ L hp news) (hb : (b, W.listOf its2 n2) ∈ news) (U : UpdF D (W.listOf its n) news f)
    (hz : its.size + its2.size ≤ 100000) (h : ∀ h' n', Fr h₀ L h' m → News h₀ L h' (f (W.listOf (its ++ its2) n')) → Q .none ⟨h', gs, dr, tk, os⟩) :
    wpAny (model prog w) A (call (.builtin "list.extend") [.ref D, .ref b]) Q E ⟨hp, gs, dr, tk, os⟩ := by
  have e2 : (its.toList ++ its2.toList).toArray = its ++ its2 := by simp
  have hd : ¬(!its.isEmpty && Builtin.List.listTooLong (its.size + its2.size)) = true := by
    have : Builtin.List.listTooLong (its.size + its2.size) = false := by unfold Builtin.List.listTooLong; rw [sizeLine_eq]; simp; omega
    rw [this]; simp
  by_cases h0 : its2.toList = []
  · have z : its2 = #[] := by simpa using h0
    subst z
    refine kxn_extend (s := ⟨hp, gs, dr, tk, os⟩) F N hb rfl (updF_upd U) hd (by rw [Array.length_toList, sizeLine_eq]; omega) (by rw [sizeLine_eq]; omega) fun h' F' N' => ?_
    exact h h' n F' (by simpa using N')
  · refine kl_extend (s := ⟨hp, gs, dr, tk, os⟩) F N hb rfl (fun q => h0 (List.length_eq_zero_iff.mp q)) (updF_upd U) hd (by rw [Array.length_toList, sizeLine_eq]; omega) (by rw [sizeLine_eq]; omega) fun h' F' N' => ?_
    rw [e2] at N'
    exact h h' (n + 1) F' N'
theorem len_mem {l : Addr} {its : Array Value} {k n : Nat} {Q : Value → Shared → Prop} (N : News h₀ L hp news) (h1 : (l, W.listOf its k) ∈ news) (hn : its.size = n) (hz : n ≤ 100000)
    (h : ∀ t tk', Q (.int (n : Nat) t) ⟨hp, gs, dr, tk', os⟩) : wpAny (model prog w) A (call (.builtin "len") [.ref l]) Q E ⟨hp, gs, dr, tk, os⟩ := by
  subst hn
  exact len_list (s := ⟨hp, gs, dr, tk, os⟩) (N.isList h1) (by omega) (h _ _)
theorem len_tupN {l : Addr} {xs : Array Value} {n : Nat} {Q : Value → Shared → Prop} (T : IsTup hp l xs) (hn : xs.size = n) (hz : n ≤ 100000)
    (h : ∀ t tk', Q (.int (n : Nat) t) ⟨hp, gs, dr, tk', os⟩) : wpAny (model prog w) A (call (.builtin "len") [.ref l]) Q E ⟨hp, gs, dr, tk, os⟩ := by
  subst hn
  exact len_tuple (s := ⟨hp, gs, dr, tk, os⟩) T (by omega) (h _ _)
theorem isi_tup {a : Addr} {xs : Array Value} {Q : Value → Shared → Prop} (T : IsTup hp a xs) (h : ∀ tk', Q (.bool true) ⟨hp, gs, dr, tk', os⟩) :
    wpAny (model prog w) A (call (.builtin "isinstance") [.ref a, .type "tuple"]) Q E ⟨hp, gs, dr, tk, os⟩ :=
  call_isinstance_yes (s := ⟨hp, gs, dr, tk, os⟩) T.typeIs PySem.F.isi_meta_tuple PySem.F.sub_tuple_tuple (h _)
end
end Mine
local macro_rules | `(tactic| k_room) => `(tactic| ((try dsimp only [depth_under_make, depth_under_kw, depth_in1, depth_deeper, Mine.top, recursionLimit]); first | exact Mine.rmk (by assumption) rfl | omega))
local macro_rules | `(tactic| is_tup) => `(tactic| first | exact Fr.tup (by assumption) (Fr.tup (by assumption) (by assumption)) | exact Fr.tup (by assumption) (Fr.tup (by assumption) (Fr.tup (by assumption) (by assumption))) | fail)
local macro_rules | `(tactic| k_mem) => `(tactic| (first | with_reducible assumption | ((repeat (first | exact List.mem_cons_self | with_reducible assumption | exact List.mem_append_left _ (by with_reducible assumption) | (refine List.mem_append_left _ ?_; (repeat (first | exact List.mem_cons_self | refine List.mem_cons_of_mem _ ?_)); done) | refine List.mem_append_right _ ?_ | refine List.mem_cons_of_mem _ ?_)); done)))
local macro_rules | `(tactic| k_updF) => `(tactic| first | (refine' Mine.updF_app ?a ?b; (case a => first | assumption | exact Mine.ap_of (by assumption) (by k_mem)); (case b => k_updF)) | (refine' UpdF.head ?a; (case a => assumption)) | (refine' UpdF.tail ?a ?b; (case a => k_ne); (case b => k_updF)) | fail)
local macro_rules | `(tactic| walk_at "callWith ref") => `(tactic| k_extra "callWith ref")
local macro_rules | `(tactic| walk_at "binaryOp Add ref ref") => `(tactic| k_extra "binaryOp Add ref ref")
local macro_rules | `(tactic| walk_at "call builtin:len") => `(tactic| k_extra "call builtin:len")
local macro_rules | `(tactic| walk_at "call builtin:list.extend") => `(tactic| k_extra "call builtin:list.extend")
local macro_rules | `(tactic| walk_at "call ref") => `(tactic| k_extra "call ref")
local macro_rules | `(tactic| walk_at "call builtin:isinstance") => `(tactic| k_extra "call builtin:isinstance")
local macro_rules | `(tactic| walk_at "execs cons") => `(tactic| k_extra "execs cons")
local macro_rules | `(tactic| walk_at "eval Subscript Name Constant") => `(tactic| k_extra "eval Subscript Name Constant")
local macro_rules | `(tactic| walk_at "compareOp Eq ref str") => `(tactic| k_extra "compareOp Eq ref str")
local macro_rules | `(tactic| walk_at "eval ListComp") => `(tactic| k_extra "eval ListComp")
local macro_rules | `(tactic| walk_at "isTrue Compare") => `(tactic| k_extra "isTrue Compare")
local macro_rules | `(tactic| walk_at "eval Name") => `(tactic| k_extra "eval Name")
local macro_rules | `(tactic| walk_at "compareOp In int ref") => `(tactic| k_extra "compareOp In int ref")
local macro_rules | `(tactic| walk_at "FnAt") => `(tactic| k_extra "FnAt")
local macro_rules | `(tactic| walk_at "call builtin:list.pop") => `(tactic| k_extra "call builtin:list.pop")
local macro_rules | `(tactic| walk_at "subscriptTail Name Slice ref ref") => `(tactic| k_extra "subscriptTail Name Slice ref ref")
local macro_rules | `(tactic| walk_at "subscriptTail Name Name ref int") => `(tactic| k_extra "subscriptTail Name Name ref int")
local macro_rules | `(tactic| walk_at "CompSrc") => `(tactic| k_extra "CompSrc")
local macro_rules | `(tactic| walk_at "call type:tuple") => `(tactic| k_extra "call type:tuple")
local macro_rules | `(tactic| walk_at "storeName") => `(tactic| k_extra "storeName")
namespace Mine
noncomputable def TakePost (b : Addr) (x0 x1 many : Int) (r : Value) (P' : List (Addr × Obj)) : Prop :=
  ∃ d t x0' t0 t1 n, r = .int d t ∧ 0 ≤ d ∧ d < many ∧ 0 ≤ x0' ∧ x0' ≤ x0 ∧ P' = [(b, W.listOf #[.int x0' t0, .int (x1 + 1) t1] n)]
set_option maxHeartbeats 4000000 in
theorem take_fs {w : World} (b : Addr) (x0 x1 : Int) (t0 t1 : Tok) (n : Nat) (many : Int) (tm : Tok) (hx0 : 0 ≤ x0) (hx1 : 0 ≤ x1) (hx2 : x1 < 100000) (hm0 : 0 < many) (hm1 : many < 10) :
    FS w 345 1 [.ref b, .int many tm] (fun _ => True) [(b, W.listOf #[.int x0 t0, .int x1 t1] n)] (TakePost b x0 x1 many) := by
  w_top off
  k_with_none
  k_with "callWith ref" => (k_here; k_dflt (first | (refine' callWith_K ?k1z1 ?k2z1 ?_; (case k1z1 => k_asm); (case k2z1 => k_is); k_whole) | (refine' callWith_K0 ?k1z1 ?k2z1 ?_; (case k1z1 => k_in); (case k2z1 => k_is); k_whole)))
  k_with "binaryOp Add ref ref" => (k_here; with_reducible refine' Mine.add_mem ?Fz2 ?Nz2 ?az2 ?bz2 ?zz2 ?_; (case Fz2 => k_asm); (case Nz2 => k_asm); (case az2 => k_dflt k_mem); (case bz2 => k_dflt k_mem); (case zz2 => ((try dsimp only [Mine.T.size] at *); (try simp only [Array.size_append, List.size_toArray, List.length_cons, List.length_nil]); omega)); intro _ _ _ _ l1zz; (try k_lt l1zz); (try (revert l1zz; intro _)); (try k_sweep))
  k_with "call builtin:len" => (k_here; with_reducible refine' Mine.len_mem ?Nz3 ?mz3 ?ez3 ?zz3 ?_; (case Nz3 => k_asm); (case mz3 => k_dflt k_mem); (case ez3 => first | with_reducible assumption | exact rfl); (case zz3 => ((try dsimp only [Mine.T.size] at *); (try simp only [Array.size_push]); omega)); intro _ _)
  k_with "call builtin:len" => (k_here; with_reducible refine' Mine.len_tupN ?Tz4 ?ez4 ?zz4 ?_; (case Tz4 => k_dflt is_tup); (case ez4 => first | with_reducible assumption | exact rfl); (case zz4 => first | (k_dflt decide) | ((try dsimp only [Mine.T.size] at *); omega)); intro _ _)
  k_with "call builtin:list.extend" => (k_here; with_reducible refine' Mine.ext_mem ?Fz5 ?Nz5 ?bz5 ?Uz5 ?zz5 ?_; (case Fz5 => k_asm); (case Nz5 => k_asm); (case bz5 => k_dflt k_mem); (case Uz5 => k_dflt k_updF); (case zz5 => ((try dsimp only [Mine.T.size] at *); (try simp only [Array.size_append, List.size_toArray, List.length_cons, List.length_nil]); omega)); intro _ _ _ Nqzz; (try dsimp only at Nqzz); (try (revert Nqzz; intro _)); (try k_sweep))
  k_with "call ref" => (k_here; (with_reducible show wpAny _ _ (PySem.call (Value.ref 296) _) _ _ _); k_dflt (refine' Mine.ord_call ?Iz6 ?Bz6 ?Fz6 ?Xz6 ?Nz6 ?Tz6 ?rz6 ?kz6 ?fz6 ?ez6 ?sz6 ?wz6 ?dz6 ?uz6 ?_; (case Iz6 => assumption); (case Bz6 => k_asm); (case Fz6 => k_asm); (case Xz6 => k_asm); (case Nz6 => k_asm); (case Tz6 => k_asm); (case rz6 => assumption); (case kz6 => first | exact fun _ _ e => e | exact Fr.keep (by assumption) | exact fun _ _ e => Fr.keep (by assumption) _ _ (Fr.keep (by assumption) _ _ e)); (case fz6 => exact rfl); (case ez6 => exact rfl); (case sz6 => ((try dsimp only [Mine.T.size] at *); omega)); (case wz6 => first | assumption | exact And.left (by assumption) | exact And.right (by assumption)); (case dz6 => ((try dsimp only [Mine.T.size] at *); (try dsimp only [depth_deeper, Mine.top]); (first | exact Mine.rm2 (by assumption) rfl | exact Mine.rm_tree (by assumption) | exact Mine.rm_ord (by assumption) (Nat.succ_le_succ (Nat.le_add_right _ _)) | exact Mine.rm_ord (by assumption) (Nat.succ_le_succ (Nat.le_add_left _ _)) | exact Mine.rm_ord (by assumption) (Nat.le_refl _) | omega))); (case uz6 => ((try dsimp only [Mine.T.size] at *); (try dsimp only [units_deeper, units_in1, Mine.top]); (first | exact Mine.rm2 (by assumption) rfl | exact Mine.rm_treeu (by assumption) | exact Mine.rm_ordu (by assumption) (Nat.succ_le_succ (Nat.le_add_right _ _)) | exact Mine.rm_ordu (by assumption) (Nat.succ_le_succ (Nat.le_add_left _ _)) | exact Mine.rm_ordu (by assumption) (Nat.le_refl _) | omega)))); intro _ _ _ _ _ _ _ _ _ _ _ _ _; (try k_sweep))
  k_with "call ref" => (k_here; (with_reducible show wpAny _ _ (PySem.call (Value.ref 303) _) _ _ _); k_dflt (refine' Mine.fs_call0 (mo := 2) ?Iz7 ?Bz7 ?Fz7 ?Xz7 ?Nz7 ?Tz7 ?rz7 ?kz7 ?fz7 ?ez7 ?dz7 ?uz7 ?_; (case Iz7 => assumption); (case Bz7 => k_asm); (case Fz7 => k_asm); (case Xz7 => k_asm); (case Nz7 => k_asm); (case Tz7 => k_asm); (case rz7 => assumption); (case kz7 => first | exact fun _ _ e => e | exact Fr.keep (by assumption) | exact fun _ _ e => Fr.keep (by assumption) _ _ (Fr.keep (by assumption) _ _ e)); (case fz7 => exact rfl); (case ez7 => exact rfl); (case dz7 => ((try dsimp only [Mine.T.size] at *); (try dsimp only [depth_deeper, Mine.top]); (first | exact Mine.rm2 (by assumption) rfl | exact Mine.rm_tree (by assumption) | exact Mine.rm_ord (by assumption) (Nat.succ_le_succ (Nat.le_add_right _ _)) | exact Mine.rm_ord (by assumption) (Nat.succ_le_succ (Nat.le_add_left _ _)) | exact Mine.rm_ord (by assumption) (Nat.le_refl _) | omega))); (case uz7 => ((try dsimp only [Mine.T.size] at *); (try dsimp only [units_deeper, units_in1, Mine.top]); (first | exact Mine.rm2 (by assumption) rfl | exact Mine.rm_treeu (by assumption) | exact Mine.rm_ordu (by assumption) (Nat.succ_le_succ (Nat.le_add_right _ _)) | exact Mine.rm_ordu (by assumption) (Nat.succ_le_succ (Nat.le_add_left _ _)) | exact Mine.rm_ordu (by assumption) (Nat.le_refl _) | omega)))); intro _ _ _ _ _ _ _ _ _ _ _ _ _; (try k_sweep))
  k_with "call ref" => (k_here; (with_reducible show wpAny _ _ (PySem.call (Value.ref 338) _) _ _ _); k_dflt (refine' Mine.fs_pure ?Iz8 ?Bz8 ?Fz8 ?Xz8 ?Nz8 ?Tz8 ?rz8 ?fz8 ?ez8 ?dz8 ?uz8 ?_; (case Iz8 => assumption); (case Bz8 => k_asm); (case Fz8 => k_asm); (case Xz8 => k_asm); (case Nz8 => k_asm); (case Tz8 => k_asm); (case rz8 => exact fun g' hk _ => Mine.RO.mono (by assumption) hk); (case fz8 => exact rfl); (case ez8 => exact rfl); (case dz8 => ((try dsimp only [depth_deeper, Mine.top]); (first | exact Mine.rm2 (by assumption) rfl | exact Mine.rm_tree (by assumption) | exact Mine.rm_ord (by assumption) (Nat.succ_le_succ (Nat.le_add_right _ _)) | exact Mine.rm_ord (by assumption) (Nat.succ_le_succ (Nat.le_add_left _ _)) | exact Mine.rm_ord (by assumption) (Nat.le_refl _) | omega))); (case uz8 => ((try dsimp only [units_deeper, units_in1, Mine.top]); (first | exact Mine.rm2 (by assumption) rfl | exact Mine.rm_treeu (by assumption) | exact Mine.rm_ordu (by assumption) (Nat.succ_le_succ (Nat.le_add_right _ _)) | exact Mine.rm_ordu (by assumption) (Nat.succ_le_succ (Nat.le_add_left _ _)) | exact Mine.rm_ordu (by assumption) (Nat.le_refl _) | omega)))); intro _ _ _ _ _ eqzz; (obtain ⟨tqzz, eqzz⟩ := eqzz; subst eqzz); (try (revert tqzz; intro _)); (try k_sweep))
  k_with "call builtin:isinstance" => (k_here; with_reducible refine' Mine.isi_tup ?Tz9 ?_; (case Tz9 => k_dflt is_tup); intro _)
  k_with "execs cons" => (k_here; first | (with_reducible refine' Mine.skip_if0 ?Fz10 ?vz10 ?bz10 ?_ ?x1z10 ?x2z10 ?x3z10; (case Fz10 => k_asm); (case vz10 => k_dflt exact rfl); (case bz10 => k_dflt decide); (case x1z10 => k_dflt exact rfl); (case x2z10 => k_dflt exact rfl); (case x3z10 => k_dflt decide); intro _) | (with_reducible refine' Mine.skip_or0 ?Fz10 ?vz10 ?bz10 ?b2z10 ?_ ?x1z10 ?x2z10 ?x3z10; (case Fz10 => k_asm); (case vz10 => k_dflt exact rfl); (case bz10 => k_dflt decide); (case b2z10 => k_dflt decide); (case x1z10 => k_dflt exact rfl); (case x2z10 => k_dflt exact rfl); (case x3z10 => k_dflt decide); intro _) | (with_reducible refine' Mine.take_if0 ?Fz10 ?vz10 ?bz10 ?_ ?x1z10 ?x2z10 ?x3z10; (case Fz10 => k_asm); (case vz10 => k_dflt exact rfl); (case bz10 => k_dflt decide); (case x1z10 => k_dflt exact rfl); (case x2z10 => k_dflt exact rfl); (case x3z10 => k_dflt decide); intro _))
  k_with "execs cons" => (k_here; first | (with_reducible refine' Mine.skip_in0 ?Fz11 ?Nz11 ?vz11 ?sz11 ?nz11 ?bz11 ?mz11 ?_ ?x1z11 ?x2z11 ?x3z11; (case Fz11 => k_asm); (case Nz11 => k_asm); (case vz11 => k_dflt exact rfl); (case sz11 => k_dflt exact rfl); (case nz11 => k_dflt decide); (case bz11 => k_dflt decide); (case mz11 => k_dflt exact rfl); (case x1z11 => k_dflt exact rfl); (case x2z11 => k_dflt exact rfl); (case x3z11 => k_dflt decide); intro _ _ _ _; (try k_sweep)) | (with_reducible refine' Mine.take_in0 ?Fz11 ?Nz11 ?vz11 ?sz11 ?nz11 ?bz11 ?mz11 ?_ ?x1z11 ?x2z11 ?x3z11; (case Fz11 => k_asm); (case Nz11 => k_asm); (case vz11 => k_dflt exact rfl); (case sz11 => k_dflt exact rfl); (case nz11 => k_dflt decide); (case bz11 => k_dflt decide); (case mz11 => k_dflt exact rfl); (case x1z11 => k_dflt exact rfl); (case x2z11 => k_dflt exact rfl); (case x3z11 => k_dflt decide); intro _ _ _ _; (try k_sweep)))
  k_with "eval Subscript Name Constant" => (k_here; with_reducible refine' Mine.item_tup0 ?Fz12 ?vz12 ?tz12 ?loz12 ?hiz12 ?jz12 ?uz12 ?_ ?x1z12 ?x2z12 ?x3z12; (case Fz12 => k_asm); (case vz12 => k_dflt exact rfl); (case tz12 => k_dflt is_tup); (case loz12 => k_dflt decide); (case hiz12 => k_dflt decide); (case jz12 => k_dflt exact rfl); (case uz12 => k_dflt exact rfl); (case x1z12 => k_dflt exact rfl); (case x2z12 => k_dflt exact rfl); (case x3z12 => k_dflt decide); intro _)
  refine' Mine.fs_plain (binds := [(Str.ofString "box", .ref b), (Str.ofString "many", .int many tm)]) ?ho ?hcd ?hb ?hl ?h ?c2 ?c3 ?c4 ?c5
  case ho => (intro P; k_dflt k_is)
  case hcd => (intro P; k_dflt k_is)
  case hb => (intro s; exact BindsTo.of_eq rfl)
  case hl => exact locs rfl
  case c5 => decide
  case c2 => exact rfl
  case c3 => exact rfl
  case c4 => exact rfl
  case h =>
  intro dp un gd outer base g s p loose mean mg mb L' h' tk B' X' T' F' N' pre hd hu
  try dsimp only
  with_reducible show wpAny _ _ _ _ _ _
  k_fold
  k_steps
  all_goals (show Done _ _ _ _ _; refine ⟨_, _, _, (by k_asm), (by k_asm), ?_, rfl⟩)
  all_goals (refine ⟨_, _, _, _, _, _, rfl, ?_, ?_, ?_, ?_, rfl⟩)
  all_goals first
    | (show 0 ≤ Int.fmod _ many; rw [Int.fmod_eq_emod_of_nonneg _ (Int.le_of_lt hm0)]; exact Int.emod_nonneg _ (Int.ne_of_gt hm0))
    | exact Int.fmod_lt_of_pos _ hm0
    | assumption
    | exact Int.le_refl _
    | (show 0 ≤ x0.fdiv many; rw [Int.fdiv_eq_ediv_of_nonneg _ (Int.le_of_lt hm0)]; exact Int.ediv_nonneg hx0 (Int.le_of_lt hm0))
    | (show x0.fdiv many ≤ x0; rw [Int.fdiv_eq_ediv_of_nonneg _ (Int.le_of_lt hm0)]; exact Int.ediv_le_self _ hx0)
end Mine
namespace Mine
noncomputable def T.rows : T → List T | .r1 a => [a] | .r2 a b => [a, b] | _ => []
theorem ords_rows : ∀ r : T, r.wf 2 → ords 2 r = r.rows.flatMap (ords 0)
  | .r0, _ => rfl
  | .r1 a, _ => (List.append_nil (ords 0 a)).symm
  | .r2 a b, _ => congrArg (ords 0 a ++ ·) (List.append_nil (ords 0 b)).symm
/-- a row's tuple -/
theorem row_of {g : Heap} {v : Value} {r : T} (h : RT (inH g) v r) (hw : r.wf 2) : ∃ a xs, v = .ref a ∧ g.IsTuple a xs ∧ xs.size = r.rows.length ∧ ∀ (i : Nat) u, xs[i]? = some u → ∃ t, r.rows[i]? = some t ∧ RT (inH g) u t ∧ t.wf 0 ∧ t.size < r.size := by
  cases h <;> first | exact False.elim hw | skip
  case r0 a h => exact ⟨a, _, rfl, ⟨_, h, rfl, _, rfl⟩, rfl, fun i u e => by simp at e⟩
  case r1 a u x h h1 => exact ⟨a, _, rfl, ⟨_, h, rfl, _, rfl⟩, rfl, fun i u' e => by
    match i, e with
    | 0, e => cases e; exact ⟨x, rfl, h1, hw, Nat.lt_succ_self _⟩⟩
  case r2 a u v x y h h1 h2 => exact ⟨a, _, rfl, ⟨_, h, rfl, _, rfl⟩, rfl, fun i u' e => by
    match i, e with
    | 0, e => cases e; exact ⟨x, rfl, h1, hw.1, by show x.size < x.size + y.size + 1; omega⟩
    | 1, e => cases e; exact ⟨y, rfl, h2, hw.2, by show y.size < x.size + y.size + 1; omega⟩⟩
theorem map_id' {m : Str → Option Value} {x : Str} (h : m x = none) : m = fun y => if y = x then none else m y := by
  funext y; by_cases e : y = x
  · rw [if_pos e, e, h]
  · rw [if_neg e]
theorem map_set' {m : Str → Option Value} {x : Str} {o o' : Option Value} : (fun y => if y = x then o' else if y = x then o else m y) = fun y => if y = x then o' else m y := by
  funext y; by_cases e : y = x <;> simp [e]
abbrev mOf {h₀ h : Heap} {L : Addr} {m : Str → Option Value} (_F : Fr h₀ L h m) : Str → Option Value := m
noncomputable def RowJ (r : T) (m0 : Str → Option Value) (fd : Addr) (i : Nat) (m : Str → Option Value) (news : List (Addr × Obj)) : Prop :=
  ∃ o its k tail, m = (fun y => if y = Str.ofString "tree" then o else m0 y) ∧ news = (fd, W.listOf its k) :: tail ∧ (∀ q ∈ tail, q.1 ≠ fd) ∧ ROs (inL tail) its.toList ((r.rows.take i).flatMap (ords 0)) ∧ its.size ≤ 4 * ((r.rows.take i).map T.size).sum
theorem rows_len : ∀ r : T, r.wf 2 → r.rows.length = r.len
  | .r0, _ => rfl
  | .r1 _, _ => rfl
  | .r2 _ _, _ => rfl
theorem len_le : ∀ r : T, r.len ≤ 2 := fun r => by cases r <;> simp [T.len]
theorem OrdIH.mono {w : World} {n n' : Nat} (I : OrdIH w n) (h : n' ≤ n) : OrdIH w n' := fun t v hs hw => I t v (Nat.lt_of_lt_of_le hs h) hw
end Mine
set_option maxHeartbeats 40000000 in
theorem Mine.row_fs {w : World} {n : Nat} (r : T) (v : Value) (hw : r.wf 2) (hr : r.size ≤ n) (hn : r.size ≤ 200) (I : OrdIH w n) : FS w 303 (4 * r.size) [v] (fun g => RT (inH g) v r) [] (OrdPost 2 r) := by
  w_top off
  k_with_none
  k_with "callWith ref" => (k_here; k_dflt (first | (refine' callWith_K ?k1z1 ?k2z1 ?_; (case k1z1 => k_asm); (case k2z1 => k_is); k_whole) | (refine' callWith_K0 ?k1z1 ?k2z1 ?_; (case k1z1 => k_in); (case k2z1 => k_is); k_whole)))
  k_with "binaryOp Add ref ref" => (k_here; with_reducible refine' Mine.add_mem ?Fz2 ?Nz2 ?az2 ?bz2 ?zz2 ?_; (case Fz2 => k_asm); (case Nz2 => k_asm); (case az2 => k_dflt k_mem); (case bz2 => k_dflt k_mem); (case zz2 => ((try dsimp only [Mine.T.size] at *); (try simp only [Array.size_append, List.size_toArray, List.length_cons, List.length_nil]); omega)); intro _ _ _ _ l1zz; (try k_lt l1zz); (try (revert l1zz; intro _)); (try k_sweep))
  k_with "call builtin:len" => (k_here; with_reducible refine' Mine.len_mem ?Nz3 ?mz3 ?ez3 ?zz3 ?_; (case Nz3 => k_asm); (case mz3 => k_dflt k_mem); (case ez3 => first | with_reducible assumption | exact rfl); (case zz3 => ((try dsimp only [Mine.T.size] at *); (try simp only [Array.size_push]); omega)); intro _ _)
  k_with "call builtin:len" => (k_here; with_reducible refine' Mine.len_tupN ?Tz4 ?ez4 ?zz4 ?_; (case Tz4 => k_dflt is_tup); (case ez4 => first | with_reducible assumption | exact rfl); (case zz4 => first | (k_dflt decide) | ((try dsimp only [Mine.T.size] at *); omega)); intro _ _)
  k_with "call builtin:list.extend" => (k_here; with_reducible refine' Mine.ext_mem ?Fz5 ?Nz5 ?bz5 ?Uz5 ?zz5 ?_; (case Fz5 => k_asm); (case Nz5 => k_asm); (case bz5 => k_dflt k_mem); (case Uz5 => k_dflt k_updF); (case zz5 => ((try dsimp only [Mine.T.size] at *); (try simp only [Array.size_append, List.size_toArray, List.length_cons, List.length_nil]); omega)); intro _ _ _ Nqzz; (try dsimp only at Nqzz); (try (revert Nqzz; intro _)); (try k_sweep))
  k_with "call ref" => (k_here; (with_reducible show wpAny _ _ (PySem.call (Value.ref 296) _) _ _ _); k_dflt (refine' Mine.ord_call ?Iz6 ?Bz6 ?Fz6 ?Xz6 ?Nz6 ?Tz6 ?rz6 ?kz6 ?fz6 ?ez6 ?sz6 ?wz6 ?dz6 ?uz6 ?_; (case Iz6 => assumption); (case Bz6 => k_asm); (case Fz6 => k_asm); (case Xz6 => k_asm); (case Nz6 => k_asm); (case Tz6 => k_asm); (case rz6 => assumption); (case kz6 => first | exact fun _ _ e => e | exact Fr.keep (by assumption) | exact fun _ _ e => Fr.keep (by assumption) _ _ (Fr.keep (by assumption) _ _ e)); (case fz6 => exact rfl); (case ez6 => exact rfl); (case sz6 => ((try dsimp only [Mine.T.size] at *); omega)); (case wz6 => first | assumption | exact And.left (by assumption) | exact And.right (by assumption)); (case dz6 => ((try dsimp only [Mine.T.size] at *); (try dsimp only [depth_deeper, Mine.top]); (first | exact Mine.rm2 (by assumption) rfl | exact Mine.rm_tree (by assumption) | exact Mine.rm_ord (by assumption) (Nat.succ_le_succ (Nat.le_add_right _ _)) | exact Mine.rm_ord (by assumption) (Nat.succ_le_succ (Nat.le_add_left _ _)) | exact Mine.rm_ord (by assumption) (Nat.le_refl _) | omega))); (case uz6 => ((try dsimp only [Mine.T.size] at *); (try dsimp only [units_deeper, units_in1, Mine.top]); (first | exact Mine.rm2 (by assumption) rfl | exact Mine.rm_treeu (by assumption) | exact Mine.rm_ordu (by assumption) (Nat.succ_le_succ (Nat.le_add_right _ _)) | exact Mine.rm_ordu (by assumption) (Nat.succ_le_succ (Nat.le_add_left _ _)) | exact Mine.rm_ordu (by assumption) (Nat.le_refl _) | omega)))); intro _ _ _ _ _ _ _ _ _ _ _ _ _; (try k_sweep))
  k_with "call ref" => (k_here; (with_reducible show wpAny _ _ (PySem.call (Value.ref 303) _) _ _ _); k_dflt (refine' Mine.fs_call0 (mo := 2) ?Iz7 ?Bz7 ?Fz7 ?Xz7 ?Nz7 ?Tz7 ?rz7 ?kz7 ?fz7 ?ez7 ?dz7 ?uz7 ?_; (case Iz7 => assumption); (case Bz7 => k_asm); (case Fz7 => k_asm); (case Xz7 => k_asm); (case Nz7 => k_asm); (case Tz7 => k_asm); (case rz7 => assumption); (case kz7 => first | exact fun _ _ e => e | exact Fr.keep (by assumption) | exact fun _ _ e => Fr.keep (by assumption) _ _ (Fr.keep (by assumption) _ _ e)); (case fz7 => exact rfl); (case ez7 => exact rfl); (case dz7 => ((try dsimp only [Mine.T.size] at *); (try dsimp only [depth_deeper, Mine.top]); (first | exact Mine.rm2 (by assumption) rfl | exact Mine.rm_tree (by assumption) | exact Mine.rm_ord (by assumption) (Nat.succ_le_succ (Nat.le_add_right _ _)) | exact Mine.rm_ord (by assumption) (Nat.succ_le_succ (Nat.le_add_left _ _)) | exact Mine.rm_ord (by assumption) (Nat.le_refl _) | omega))); (case uz7 => ((try dsimp only [Mine.T.size] at *); (try dsimp only [units_deeper, units_in1, Mine.top]); (first | exact Mine.rm2 (by assumption) rfl | exact Mine.rm_treeu (by assumption) | exact Mine.rm_ordu (by assumption) (Nat.succ_le_succ (Nat.le_add_right _ _)) | exact Mine.rm_ordu (by assumption) (Nat.succ_le_succ (Nat.le_add_left _ _)) | exact Mine.rm_ordu (by assumption) (Nat.le_refl _) | omega)))); intro _ _ _ _ _ _ _ _ _ _ _ _ _; (try k_sweep))
  k_with "call ref" => (k_here; (with_reducible show wpAny _ _ (PySem.call (Value.ref 338) _) _ _ _); k_dflt (refine' Mine.fs_pure ?Iz8 ?Bz8 ?Fz8 ?Xz8 ?Nz8 ?Tz8 ?rz8 ?fz8 ?ez8 ?dz8 ?uz8 ?_; (case Iz8 => assumption); (case Bz8 => k_asm); (case Fz8 => k_asm); (case Xz8 => k_asm); (case Nz8 => k_asm); (case Tz8 => k_asm); (case rz8 => exact fun g' hk _ => Mine.RO.mono (by assumption) hk); (case fz8 => exact rfl); (case ez8 => exact rfl); (case dz8 => ((try dsimp only [depth_deeper, Mine.top]); (first | exact Mine.rm2 (by assumption) rfl | exact Mine.rm_tree (by assumption) | exact Mine.rm_ord (by assumption) (Nat.succ_le_succ (Nat.le_add_right _ _)) | exact Mine.rm_ord (by assumption) (Nat.succ_le_succ (Nat.le_add_left _ _)) | exact Mine.rm_ord (by assumption) (Nat.le_refl _) | omega))); (case uz8 => ((try dsimp only [units_deeper, units_in1, Mine.top]); (first | exact Mine.rm2 (by assumption) rfl | exact Mine.rm_treeu (by assumption) | exact Mine.rm_ordu (by assumption) (Nat.succ_le_succ (Nat.le_add_right _ _)) | exact Mine.rm_ordu (by assumption) (Nat.succ_le_succ (Nat.le_add_left _ _)) | exact Mine.rm_ordu (by assumption) (Nat.le_refl _) | omega)))); intro _ _ _ _ _ eqzz; (obtain ⟨tqzz, eqzz⟩ := eqzz; subst eqzz); (try (revert tqzz; intro _)); (try k_sweep))
  k_with "call builtin:isinstance" => (k_here; with_reducible refine' Mine.isi_tup ?Tz9 ?_; (case Tz9 => k_dflt is_tup); intro _)
  k_with "execs cons" => (k_here; first | (with_reducible refine' Mine.skip_if0 ?Fz10 ?vz10 ?bz10 ?_ ?x1z10 ?x2z10 ?x3z10; (case Fz10 => k_asm); (case vz10 => k_dflt exact rfl); (case bz10 => k_dflt decide); (case x1z10 => k_dflt exact rfl); (case x2z10 => k_dflt exact rfl); (case x3z10 => k_dflt decide); intro _) | (with_reducible refine' Mine.skip_or0 ?Fz10 ?vz10 ?bz10 ?b2z10 ?_ ?x1z10 ?x2z10 ?x3z10; (case Fz10 => k_asm); (case vz10 => k_dflt exact rfl); (case bz10 => k_dflt decide); (case b2z10 => k_dflt decide); (case x1z10 => k_dflt exact rfl); (case x2z10 => k_dflt exact rfl); (case x3z10 => k_dflt decide); intro _) | (with_reducible refine' Mine.take_if0 ?Fz10 ?vz10 ?bz10 ?_ ?x1z10 ?x2z10 ?x3z10; (case Fz10 => k_asm); (case vz10 => k_dflt exact rfl); (case bz10 => k_dflt decide); (case x1z10 => k_dflt exact rfl); (case x2z10 => k_dflt exact rfl); (case x3z10 => k_dflt decide); intro _))
  k_with "execs cons" => (k_here; first | (with_reducible refine' Mine.skip_in0 ?Fz11 ?Nz11 ?vz11 ?sz11 ?nz11 ?bz11 ?mz11 ?_ ?x1z11 ?x2z11 ?x3z11; (case Fz11 => k_asm); (case Nz11 => k_asm); (case vz11 => k_dflt exact rfl); (case sz11 => k_dflt exact rfl); (case nz11 => k_dflt decide); (case bz11 => k_dflt decide); (case mz11 => k_dflt exact rfl); (case x1z11 => k_dflt exact rfl); (case x2z11 => k_dflt exact rfl); (case x3z11 => k_dflt decide); intro _ _ _ _; (try k_sweep)) | (with_reducible refine' Mine.take_in0 ?Fz11 ?Nz11 ?vz11 ?sz11 ?nz11 ?bz11 ?mz11 ?_ ?x1z11 ?x2z11 ?x3z11; (case Fz11 => k_asm); (case Nz11 => k_asm); (case vz11 => k_dflt exact rfl); (case sz11 => k_dflt exact rfl); (case nz11 => k_dflt decide); (case bz11 => k_dflt decide); (case mz11 => k_dflt exact rfl); (case x1z11 => k_dflt exact rfl); (case x2z11 => k_dflt exact rfl); (case x3z11 => k_dflt decide); intro _ _ _ _; (try k_sweep)))
  k_with "eval Subscript Name Constant" => (k_here; with_reducible refine' Mine.item_tup0 ?Fz12 ?vz12 ?tz12 ?loz12 ?hiz12 ?jz12 ?uz12 ?_ ?x1z12 ?x2z12 ?x3z12; (case Fz12 => k_asm); (case vz12 => k_dflt exact rfl); (case tz12 => k_dflt is_tup); (case loz12 => k_dflt decide); (case hiz12 => k_dflt decide); (case jz12 => k_dflt exact rfl); (case uz12 => k_dflt exact rfl); (case x1z12 => k_dflt exact rfl); (case x2z12 => k_dflt exact rfl); (case x3z12 => k_dflt decide); intro _)
  refine' Mine.fs_plain (binds := [(Str.ofString "trees", v)]) ?ho ?hcd ?hb ?hl ?h ?c2 ?c3 ?c4 ?c5
  case ho => (intro P; k_dflt k_is)
  case hcd => (intro P; k_dflt k_is)
  case hb => (intro s; exact BindsTo.of_eq rfl)
  case hl => exact locs rfl
  case c5 => decide
  case c2 => exact rfl
  case c3 => exact rfl
  case c4 => exact rfl
  case h =>
  intro dp un gd outer base g s p loose mean mg mb L' h' tk B' X' T' F' N' pre hd hu
  obtain ⟨ax, xs, rfl, hx, hxs, hit⟩ := row_of pre hw
  try dsimp only
  with_reducible show wpAny _ _ _ _ _ _
  k_fold; k_steps
  rename_i fd _ _ _ F9 N9
  refine' for_base (ax := ax) (xs := xs) (.inr hx) rfl (by assumption) (by assumption) (fun Q' h => nameX_L (cl := []) (by assumption) rfl (h _) rfl rfl (by decide)) (RowJ r (mOf F9) fd) ?z0 ?z1 ?z2
  case z0 => exact ⟨none, #[], 0, [], map_id' rfl, rfl, fun _ h => absurd h List.not_mem_nil, ROs.nil, Nat.le_of_eq rfl⟩
  case z1 =>
    intro i v m₁ news₁ h₁ tk₁ I₁ o₁ hv hJ hap F₁ N₁
    obtain ⟨t, ht, hrt, hwt, hst⟩ := hit i v hv
    obtain ⟨ov, its, k, tail, rfl, rfl, hta, hro, hsz⟩ := hJ
    have hsum : (r.rows.map T.size).sum ≤ r.size := by cases r <;> simp only [T.rows, List.map, List.sum_cons, List.sum_nil, T.size] <;> omega
    have hlt : ((r.rows.take i).map T.size).sum + t.size ≤ (r.rows.map T.size).sum := by
      have hi : i < r.rows.length := (List.getElem?_eq_some_iff.mp ht).1
      have e1 : r.rows = r.rows.take i ++ t :: r.rows.drop (i + 1) := by
        have : r.rows.drop i = t :: r.rows.drop (i + 1) := by
          rw [List.drop_eq_getElem_cons hi]; congr 1; exact (List.getElem?_eq_some_iff.mp ht).2
        rw [← this, List.take_append_drop]
      have : (r.rows.map T.size).sum = ((r.rows.take i).map T.size).sum + (t.size + ((r.rows.drop (i + 1)).map T.size).sum) := by
        conv => lhs; rw [e1]
        simp
      omega
    have hne : @Ne Nat I₁ fd := fun e => hap _ List.mem_cons_self e.symm
    have hIt : ∀ q ∈ tail, q.1 ≠ I₁ := fun q hq => hap q (List.mem_cons_of_mem _ hq)
    have htk : r.rows.take (i + 1) = r.rows.take i ++ [t] := by rw [List.take_add_one, ht]; rfl
    k_steps
    rename_i its2 _ _ _ P2 ap me ro sz _ _ n2 F2 N2
    refine ⟨_, _, _, (fd, W.listOf (its ++ its2) n2) :: (P2 ++ tail), rfl, F2, fun q hq => N2 q ?_, fun q hq => ?_, some v, its ++ its2, n2, P2 ++ tail, map_set', rfl, fun q hq => ?_, ?_, ?_⟩
    · simp only [List.mem_cons, List.mem_append] at hq ⊢
      rcases hq with h | h | h | h <;> simp only [h, true_or, or_true]
    · simp only [List.mem_cons, List.mem_append] at hq
      rcases hq with h | h | h
      · rw [h]; exact fun e => hne e.symm
      · exact ap q h _ List.mem_cons_self
      · exact hIt q h
    · rcases List.mem_append.mp hq with h | h
      · exact ap q h (fd, _) (List.mem_cons_of_mem _ List.mem_cons_self)
      · exact hta q h
    · rw [htk, List.flatMap_append, Array.toList_append]
      refine (hro.mono fun a o h => List.mem_append_right _ h).append ?_
      rw [List.flatMap_cons, List.flatMap_nil, List.append_nil]
      exact ro.mono fun a o h => List.mem_append_left _ h
    · rw [htk, List.map_append, List.sum_append, Array.size_append]
      simp only [List.map, List.sum_cons, List.sum_nil]
      omega
  case z2 =>
    intro h' tk' m' news' F' N' hJ
    obtain ⟨ov, its, k, tail, rfl, rfl, hta, hro, hsz⟩ := hJ
    rw [hxs, List.take_length, ← ords_rows r hw] at hro
    rw [hxs, List.take_length] at hsz
    have hsum : (r.rows.map T.size).sum ≤ r.size := by cases r <;> simp only [T.rows, List.map, List.sum_cons, List.sum_nil, T.size] <;> omega
    k_steps
    (show Done _ _ _ _ _); refine ⟨_, _, _, (by k_asm), (by k_asm), ?_, rfl⟩
    exact ⟨_, _, _, rfl, List.mem_cons_self, hro.mono fun a o h => List.mem_cons_of_mem _ h, by omega⟩
set_option maxHeartbeats 40000000 in
theorem Mine.ord_step {w : World} (t : T) (v : Value) (hw : t.wf 0) (hn : t.size ≤ 200) (I : OrdIH w t.size) : FS w 296 (4 * t.size) [v] (fun g => RT (inH g) v t) [] (OrdPost 0 t) := by
  w_top off
  k_with_none
  k_with "callWith ref" => (k_here; k_dflt (first | (refine' callWith_K ?k1z1 ?k2z1 ?_; (case k1z1 => k_asm); (case k2z1 => k_is); k_whole) | (refine' callWith_K0 ?k1z1 ?k2z1 ?_; (case k1z1 => k_in); (case k2z1 => k_is); k_whole)))
  k_with "binaryOp Add ref ref" => (k_here; with_reducible refine' Mine.add_mem ?Fz2 ?Nz2 ?az2 ?bz2 ?zz2 ?_; (case Fz2 => k_asm); (case Nz2 => k_asm); (case az2 => k_dflt k_mem); (case bz2 => k_dflt k_mem); (case zz2 => ((try dsimp only [Mine.T.size] at *); (try simp only [Array.size_append, List.size_toArray, List.length_cons, List.length_nil]); omega)); intro _ _ _ _ l1zz; (try k_lt l1zz); (try (revert l1zz; intro _)); (try k_sweep))
  k_with "call builtin:len" => (k_here; with_reducible refine' Mine.len_mem ?Nz3 ?mz3 ?ez3 ?zz3 ?_; (case Nz3 => k_asm); (case mz3 => k_dflt k_mem); (case ez3 => first | with_reducible assumption | exact rfl); (case zz3 => ((try dsimp only [Mine.T.size] at *); (try simp only [Array.size_push]); omega)); intro _ _)
  k_with "call builtin:len" => (k_here; with_reducible refine' Mine.len_tupN ?Tz4 ?ez4 ?zz4 ?_; (case Tz4 => k_dflt is_tup); (case ez4 => first | with_reducible assumption | exact rfl); (case zz4 => first | (k_dflt decide) | ((try dsimp only [Mine.T.size] at *); omega)); intro _ _)
  k_with "call builtin:list.extend" => (k_here; with_reducible refine' Mine.ext_mem ?Fz5 ?Nz5 ?bz5 ?Uz5 ?zz5 ?_; (case Fz5 => k_asm); (case Nz5 => k_asm); (case bz5 => k_dflt k_mem); (case Uz5 => k_dflt k_updF); (case zz5 => ((try dsimp only [Mine.T.size] at *); (try simp only [Array.size_append, List.size_toArray, List.length_cons, List.length_nil]); omega)); intro _ _ _ Nqzz; (try dsimp only at Nqzz); (try (revert Nqzz; intro _)); (try k_sweep))
  k_with "call ref" => (k_here; (with_reducible show wpAny _ _ (PySem.call (Value.ref 296) _) _ _ _); k_dflt (refine' Mine.ord_call ?Iz6 ?Bz6 ?Fz6 ?Xz6 ?Nz6 ?Tz6 ?rz6 ?kz6 ?fz6 ?ez6 ?sz6 ?wz6 ?dz6 ?uz6 ?_; (case Iz6 => assumption); (case Bz6 => k_asm); (case Fz6 => k_asm); (case Xz6 => k_asm); (case Nz6 => k_asm); (case Tz6 => k_asm); (case rz6 => assumption); (case kz6 => first | exact fun _ _ e => e | exact Fr.keep (by assumption) | exact fun _ _ e => Fr.keep (by assumption) _ _ (Fr.keep (by assumption) _ _ e)); (case fz6 => exact rfl); (case ez6 => exact rfl); (case sz6 => ((try dsimp only [Mine.T.size] at *); omega)); (case wz6 => first | assumption | exact And.left (by assumption) | exact And.right (by assumption)); (case dz6 => ((try dsimp only [Mine.T.size] at *); (try dsimp only [depth_deeper, Mine.top]); (first | exact Mine.rm2 (by assumption) rfl | exact Mine.rm_tree (by assumption) | exact Mine.rm_ord (by assumption) (Nat.succ_le_succ (Nat.le_add_right _ _)) | exact Mine.rm_ord (by assumption) (Nat.succ_le_succ (Nat.le_add_left _ _)) | exact Mine.rm_ord (by assumption) (Nat.le_refl _) | omega))); (case uz6 => ((try dsimp only [Mine.T.size] at *); (try dsimp only [units_deeper, units_in1, Mine.top]); (first | exact Mine.rm2 (by assumption) rfl | exact Mine.rm_treeu (by assumption) | exact Mine.rm_ordu (by assumption) (Nat.succ_le_succ (Nat.le_add_right _ _)) | exact Mine.rm_ordu (by assumption) (Nat.succ_le_succ (Nat.le_add_left _ _)) | exact Mine.rm_ordu (by assumption) (Nat.le_refl _) | omega)))); intro _ _ _ _ _ _ _ _ _ _ _ _ _; (try k_sweep))
  k_with "call ref" => (k_here; (with_reducible show wpAny _ _ (PySem.call (Value.ref 303) _) _ _ _); k_dflt (refine' Mine.fs_call0 (mo := 2) ?Iz7 ?Bz7 ?Fz7 ?Xz7 ?Nz7 ?Tz7 ?rz7 ?kz7 ?fz7 ?ez7 ?dz7 ?uz7 ?_; (case Iz7 => assumption); (case Bz7 => k_asm); (case Fz7 => k_asm); (case Xz7 => k_asm); (case Nz7 => k_asm); (case Tz7 => k_asm); (case rz7 => assumption); (case kz7 => first | exact fun _ _ e => e | exact Fr.keep (by assumption) | exact fun _ _ e => Fr.keep (by assumption) _ _ (Fr.keep (by assumption) _ _ e)); (case fz7 => exact rfl); (case ez7 => exact rfl); (case dz7 => ((try dsimp only [Mine.T.size] at *); (try dsimp only [depth_deeper, Mine.top]); (first | exact Mine.rm2 (by assumption) rfl | exact Mine.rm_tree (by assumption) | exact Mine.rm_ord (by assumption) (Nat.succ_le_succ (Nat.le_add_right _ _)) | exact Mine.rm_ord (by assumption) (Nat.succ_le_succ (Nat.le_add_left _ _)) | exact Mine.rm_ord (by assumption) (Nat.le_refl _) | omega))); (case uz7 => ((try dsimp only [Mine.T.size] at *); (try dsimp only [units_deeper, units_in1, Mine.top]); (first | exact Mine.rm2 (by assumption) rfl | exact Mine.rm_treeu (by assumption) | exact Mine.rm_ordu (by assumption) (Nat.succ_le_succ (Nat.le_add_right _ _)) | exact Mine.rm_ordu (by assumption) (Nat.succ_le_succ (Nat.le_add_left _ _)) | exact Mine.rm_ordu (by assumption) (Nat.le_refl _) | omega)))); intro _ _ _ _ _ _ _ _ _ _ _ _ _; (try k_sweep))
  k_with "call ref" => (k_here; (with_reducible show wpAny _ _ (PySem.call (Value.ref 338) _) _ _ _); k_dflt (refine' Mine.fs_pure ?Iz8 ?Bz8 ?Fz8 ?Xz8 ?Nz8 ?Tz8 ?rz8 ?fz8 ?ez8 ?dz8 ?uz8 ?_; (case Iz8 => assumption); (case Bz8 => k_asm); (case Fz8 => k_asm); (case Xz8 => k_asm); (case Nz8 => k_asm); (case Tz8 => k_asm); (case rz8 => exact fun g' hk _ => Mine.RO.mono (by assumption) hk); (case fz8 => exact rfl); (case ez8 => exact rfl); (case dz8 => ((try dsimp only [depth_deeper, Mine.top]); (first | exact Mine.rm2 (by assumption) rfl | exact Mine.rm_tree (by assumption) | exact Mine.rm_ord (by assumption) (Nat.succ_le_succ (Nat.le_add_right _ _)) | exact Mine.rm_ord (by assumption) (Nat.succ_le_succ (Nat.le_add_left _ _)) | exact Mine.rm_ord (by assumption) (Nat.le_refl _) | omega))); (case uz8 => ((try dsimp only [units_deeper, units_in1, Mine.top]); (first | exact Mine.rm2 (by assumption) rfl | exact Mine.rm_treeu (by assumption) | exact Mine.rm_ordu (by assumption) (Nat.succ_le_succ (Nat.le_add_right _ _)) | exact Mine.rm_ordu (by assumption) (Nat.succ_le_succ (Nat.le_add_left _ _)) | exact Mine.rm_ordu (by assumption) (Nat.le_refl _) | omega)))); intro _ _ _ _ _ eqzz; (obtain ⟨tqzz, eqzz⟩ := eqzz; subst eqzz); (try (revert tqzz; intro _)); (try k_sweep))
  k_with "call builtin:isinstance" => (k_here; with_reducible refine' Mine.isi_tup ?Tz9 ?_; (case Tz9 => k_dflt is_tup); intro _)
  k_with "execs cons" => (k_here; first | (with_reducible refine' Mine.skip_if0 ?Fz10 ?vz10 ?bz10 ?_ ?x1z10 ?x2z10 ?x3z10; (case Fz10 => k_asm); (case vz10 => k_dflt exact rfl); (case bz10 => k_dflt decide); (case x1z10 => k_dflt exact rfl); (case x2z10 => k_dflt exact rfl); (case x3z10 => k_dflt decide); intro _) | (with_reducible refine' Mine.skip_or0 ?Fz10 ?vz10 ?bz10 ?b2z10 ?_ ?x1z10 ?x2z10 ?x3z10; (case Fz10 => k_asm); (case vz10 => k_dflt exact rfl); (case bz10 => k_dflt decide); (case b2z10 => k_dflt decide); (case x1z10 => k_dflt exact rfl); (case x2z10 => k_dflt exact rfl); (case x3z10 => k_dflt decide); intro _) | (with_reducible refine' Mine.take_if0 ?Fz10 ?vz10 ?bz10 ?_ ?x1z10 ?x2z10 ?x3z10; (case Fz10 => k_asm); (case vz10 => k_dflt exact rfl); (case bz10 => k_dflt decide); (case x1z10 => k_dflt exact rfl); (case x2z10 => k_dflt exact rfl); (case x3z10 => k_dflt decide); intro _))
  k_with "execs cons" => (k_here; first | (with_reducible refine' Mine.skip_in0 ?Fz11 ?Nz11 ?vz11 ?sz11 ?nz11 ?bz11 ?mz11 ?_ ?x1z11 ?x2z11 ?x3z11; (case Fz11 => k_asm); (case Nz11 => k_asm); (case vz11 => k_dflt exact rfl); (case sz11 => k_dflt exact rfl); (case nz11 => k_dflt decide); (case bz11 => k_dflt decide); (case mz11 => k_dflt exact rfl); (case x1z11 => k_dflt exact rfl); (case x2z11 => k_dflt exact rfl); (case x3z11 => k_dflt decide); intro _ _ _ _; (try k_sweep)) | (with_reducible refine' Mine.take_in0 ?Fz11 ?Nz11 ?vz11 ?sz11 ?nz11 ?bz11 ?mz11 ?_ ?x1z11 ?x2z11 ?x3z11; (case Fz11 => k_asm); (case Nz11 => k_asm); (case vz11 => k_dflt exact rfl); (case sz11 => k_dflt exact rfl); (case nz11 => k_dflt decide); (case bz11 => k_dflt decide); (case mz11 => k_dflt exact rfl); (case x1z11 => k_dflt exact rfl); (case x2z11 => k_dflt exact rfl); (case x3z11 => k_dflt decide); intro _ _ _ _; (try k_sweep)))
  k_with "eval Subscript Name Constant" => (k_here; with_reducible refine' Mine.item_tup0 ?Fz12 ?vz12 ?tz12 ?loz12 ?hiz12 ?jz12 ?uz12 ?_ ?x1z12 ?x2z12 ?x3z12; (case Fz12 => k_asm); (case vz12 => k_dflt exact rfl); (case tz12 => k_dflt is_tup); (case loz12 => k_dflt decide); (case hiz12 => k_dflt decide); (case jz12 => k_dflt exact rfl); (case uz12 => k_dflt exact rfl); (case x1z12 => k_dflt exact rfl); (case x2z12 => k_dflt exact rfl); (case x3z12 => k_dflt decide); intro _)
  k_with "ktr_rel" => (simp only [Array.toList_append, List.append_assoc, Mine.ords_nm0, Mine.ords_tx, Mine.ords_wh, Mine.ords_jo, Mine.ords_pl, Mine.ords_ba, Mine.ords_do, Mine.ords_ne, Mine.ords_qu, Mine.ords_mi, Mine.ords_d0, Mine.ords_at, Mine.ords_it, Mine.ords_ca, Mine.ords_nm1, Mine.ords_d1]; repeat' (first | exact Mine.ROs.nil | refine Mine.ROs.append ?_ ?_ | (refine Mine.ROs.mono (by assumption) ?_; intro _ _ hzz; simp only [Mine.inL, List.mem_append, List.mem_cons] at hzz ⊢; simp only [hzz, true_or, or_true]) | refine Mine.ROs.cons ?_ ?_ | exact Mine.RO.var (by k_mem) | exact Mine.RO.ref (by k_mem) | exact Mine.RO.value (by k_mem) | exact Mine.RO.indirect (by k_mem) | exact Mine.RO.call (by k_mem) | exact Mine.RO.item (by k_mem) | exact Mine.RO.unary (by k_mem) | exact Mine.RO.binary (by k_mem) | exact Mine.RO.join (by k_mem) | exact Mine.RO.given (by k_mem) | exact Mine.RO.cursor (by k_mem) | exact Mine.RO.guard (by k_mem) | exact Mine.RO.unguard (by k_mem) | exact Mine.RO.fail (by k_mem) | exact Mine.RO.drop (by k_mem) | exact Mine.RO.push (by k_mem) Mine.RS.s | exact Mine.RO.push (by k_mem) Mine.RS.i); (try (revert hzz; intro _)))
  k_with "ktr_unf" => ((show Mine.Done _ _ _ _ _); refine ⟨_, _, _, (by k_asm), (by k_asm), ?_, rfl⟩; refine ⟨_, _, _, rfl, (by k_mem), ?_, ?_⟩)
  refine' Mine.fs_plain (binds := [(Str.ofString "tree", v)]) ?ho ?hcd ?hb ?hl ?h ?c2 ?c3 ?c4 ?c5
  case ho => (intro P; k_dflt k_is)
  case hcd => (intro P; k_dflt k_is)
  case hb => (intro s; exact BindsTo.of_eq rfl)
  case hl => exact locs rfl
  case c5 => decide
  case c2 => exact rfl
  case c3 => exact rfl
  case c4 => exact rfl
  case h =>
  intro dp un gd outer base g s p loose mean mg mb L' h' tk B' X' T' F' N' pre hd hu
  try dsimp only
  cases pre
  case r0 => exact False.elim hw
  case r1 => exact False.elim hw
  case r2 => exact False.elim hw
  case dot a t t' u v x y h1 h2 h3 =>
    have ht := isTup_of h1
    cases h3 <;> first | exact False.elim hw.2 | skip
    case name h4 =>
      have ht2 := isTup_of h4
      (with_reducible show wpAny _ _ _ _ _ _); k_fold; k_steps; k_extra "ktr_unf"; k_extra "ktr_rel"
      all_goals ((try dsimp only [T.size] at *); (try simp only [List.size_toArray, Array.size_append, List.length_cons, List.length_nil]); omega)
    case doll h4 h5 =>
      have ht2 := isTup_of h4
      have hw2 : T.wf 0 _ := hw.2
      have hw1 := hw.1
      (with_reducible show wpAny _ _ _ _ _ _); k_fold; k_steps; k_extra "ktr_unf"; k_extra "ktr_rel"
      all_goals ((try dsimp only [T.size] at *); (try simp only [List.size_toArray, Array.size_append, List.length_cons, List.length_nil]); omega)
  case «at» a t t' u x h1 h2 =>
    have ht := isTup_of h1
    cases h2 <;> first | exact False.elim hw | skip
    case name h4 =>
      have ht2 := isTup_of h4
      (with_reducible show wpAny _ _ _ _ _ _); k_fold; k_steps; k_extra "ktr_unf"; k_extra "ktr_rel"
      all_goals ((try dsimp only [T.size] at *); (try simp only [List.size_toArray, Array.size_append, List.length_cons, List.length_nil]); omega)
    case doll h4 h5 =>
      have ht2 := isTup_of h4
      have hw2 : T.wf 0 _ := hw
      (with_reducible show wpAny _ _ _ _ _ _); k_fold; k_steps; k_extra "ktr_unf"; k_extra "ktr_rel"
      all_goals ((try dsimp only [T.size] at *); (try simp only [List.size_toArray, Array.size_append, List.length_cons, List.length_nil]); omega)
  case item a t u v x y h1 h2 h3 =>
    have ht := isTup_of h1
    have hrow := row_fs (w := w) y v hw.2 (Nat.le_refl _) (by simp only [T.size] at hn; omega) (I.mono (by simp only [T.size]; omega))
    obtain ⟨ax, xs, rfl, hx, hxs, hit⟩ := row_of h3 hw.2
    have hx' : IsTup g ax xs := hx
    have hxn : xs.size = y.len := hxs.trans (rows_len y hw.2)
    have hl := len_le y
    clear hit hxs hx
    have hw1 := hw.1
    (with_reducible show wpAny _ _ _ _ _ _); k_fold; k_steps; k_extra "ktr_unf"; k_extra "ktr_rel"
    all_goals ((try dsimp only [T.size] at *); (try simp only [List.size_toArray, Array.size_append, List.length_cons, List.length_nil]); omega)
  case call a t z t' v y h1 h2 =>
    have ht := isTup_of h1
    have hrow := row_fs (w := w) y v hw (Nat.le_refl _) (by simp only [T.size] at hn; omega) (I.mono (by simp only [T.size]; omega))
    obtain ⟨ax, xs, rfl, hx, hxs, hit⟩ := row_of h2 hw
    have hx' : IsTup g ax xs := hx
    have hxn : xs.size = y.len := hxs.trans (rows_len y hw)
    have hl := len_le y
    clear hit hxs hx
    (with_reducible show wpAny _ _ _ _ _ _); k_fold; k_steps; k_extra "ktr_unf"; k_extra "ktr_rel"
    all_goals ((try dsimp only [T.size] at *); (try simp only [List.size_toArray, Array.size_append, List.length_cons, List.length_nil]); omega)
  all_goals ((have ht := isTup_of (by assumption)); (with_reducible show wpAny _ _ _ _ _ _); k_fold; k_steps; k_extra "ktr_unf"; k_extra "ktr_rel"; all_goals ((try dsimp only [T.size] at *); (try simp only [List.size_toArray, Array.size_append, List.length_cons, List.length_nil]); omega))
theorem Mine.ord_fs {w : World} : ∀ n, n ≤ 200 → OrdIH w n := by
  intro n
  induction n with
  | zero => intro _ t v h; exact absurd h (Nat.not_lt_zero _)
  | succ n ih => intro hn t v hs hw; exact ord_step t v hw (by omega) ((ih (by omega)).mono (Nat.le_of_lt_succ hs))
namespace Mine
noncomputable def chg : O → Int
  | .push _ => 1 | .var => 1 | .ref => 1 | .value => 0 | .indirect => 0 | .call n => 1 - n | .item n => -n | .unary => 0 | .binary => -1 | .join => -1 | .given => -1 | .cursor => 0 | .guard _ => 0 | .unguard => 0 | .fail => 0 | .drop => -1
end Mine
set_option maxHeartbeats 40000000 in
theorem Mine.change_fs {w : World} (o : O) (v : Value) : FS w 338 1 [v] (fun g => RO (inH g) v o) [] (fun r _ => ∃ t, r = .int (chg o) t) := by
  w_top off
  k_with_none
  k_with "callWith ref" => (k_here; k_dflt (first | (refine' callWith_K ?k1z1 ?k2z1 ?_; (case k1z1 => k_asm); (case k2z1 => k_is); k_whole) | (refine' callWith_K0 ?k1z1 ?k2z1 ?_; (case k1z1 => k_in); (case k2z1 => k_is); k_whole)))
  k_with "binaryOp Add ref ref" => (k_here; with_reducible refine' Mine.add_mem ?Fz2 ?Nz2 ?az2 ?bz2 ?zz2 ?_; (case Fz2 => k_asm); (case Nz2 => k_asm); (case az2 => k_dflt k_mem); (case bz2 => k_dflt k_mem); (case zz2 => ((try dsimp only [Mine.T.size] at *); (try simp only [Array.size_append, List.size_toArray, List.length_cons, List.length_nil]); omega)); intro _ _ _ _ l1zz; (try k_lt l1zz); (try (revert l1zz; intro _)); (try k_sweep))
  k_with "call builtin:len" => (k_here; with_reducible refine' Mine.len_mem ?Nz3 ?mz3 ?ez3 ?zz3 ?_; (case Nz3 => k_asm); (case mz3 => k_dflt k_mem); (case ez3 => first | with_reducible assumption | exact rfl); (case zz3 => ((try dsimp only [Mine.T.size] at *); (try simp only [Array.size_push]); omega)); intro _ _)
  k_with "call builtin:len" => (k_here; with_reducible refine' Mine.len_tupN ?Tz4 ?ez4 ?zz4 ?_; (case Tz4 => k_dflt is_tup); (case ez4 => first | with_reducible assumption | exact rfl); (case zz4 => first | (k_dflt decide) | ((try dsimp only [Mine.T.size] at *); omega)); intro _ _)
  k_with "call builtin:list.extend" => (k_here; with_reducible refine' Mine.ext_mem ?Fz5 ?Nz5 ?bz5 ?Uz5 ?zz5 ?_; (case Fz5 => k_asm); (case Nz5 => k_asm); (case bz5 => k_dflt k_mem); (case Uz5 => k_dflt k_updF); (case zz5 => ((try dsimp only [Mine.T.size] at *); (try simp only [Array.size_append, List.size_toArray, List.length_cons, List.length_nil]); omega)); intro _ _ _ Nqzz; (try dsimp only at Nqzz); (try (revert Nqzz; intro _)); (try k_sweep))
  k_with "call ref" => (k_here; (with_reducible show wpAny _ _ (PySem.call (Value.ref 296) _) _ _ _); k_dflt (refine' Mine.ord_call ?Iz6 ?Bz6 ?Fz6 ?Xz6 ?Nz6 ?Tz6 ?rz6 ?kz6 ?fz6 ?ez6 ?sz6 ?wz6 ?dz6 ?uz6 ?_; (case Iz6 => assumption); (case Bz6 => k_asm); (case Fz6 => k_asm); (case Xz6 => k_asm); (case Nz6 => k_asm); (case Tz6 => k_asm); (case rz6 => assumption); (case kz6 => first | exact fun _ _ e => e | exact Fr.keep (by assumption) | exact fun _ _ e => Fr.keep (by assumption) _ _ (Fr.keep (by assumption) _ _ e)); (case fz6 => exact rfl); (case ez6 => exact rfl); (case sz6 => ((try dsimp only [Mine.T.size] at *); omega)); (case wz6 => first | assumption | exact And.left (by assumption) | exact And.right (by assumption)); (case dz6 => ((try dsimp only [Mine.T.size] at *); (try dsimp only [depth_deeper, Mine.top]); (first | exact Mine.rm2 (by assumption) rfl | exact Mine.rm_tree (by assumption) | exact Mine.rm_ord (by assumption) (Nat.succ_le_succ (Nat.le_add_right _ _)) | exact Mine.rm_ord (by assumption) (Nat.succ_le_succ (Nat.le_add_left _ _)) | exact Mine.rm_ord (by assumption) (Nat.le_refl _) | omega))); (case uz6 => ((try dsimp only [Mine.T.size] at *); (try dsimp only [units_deeper, units_in1, Mine.top]); (first | exact Mine.rm2 (by assumption) rfl | exact Mine.rm_treeu (by assumption) | exact Mine.rm_ordu (by assumption) (Nat.succ_le_succ (Nat.le_add_right _ _)) | exact Mine.rm_ordu (by assumption) (Nat.succ_le_succ (Nat.le_add_left _ _)) | exact Mine.rm_ordu (by assumption) (Nat.le_refl _) | omega)))); intro _ _ _ _ _ _ _ _ _ _ _ _ _; (try k_sweep))
  k_with "call ref" => (k_here; (with_reducible show wpAny _ _ (PySem.call (Value.ref 303) _) _ _ _); k_dflt (refine' Mine.fs_call0 (mo := 2) ?Iz7 ?Bz7 ?Fz7 ?Xz7 ?Nz7 ?Tz7 ?rz7 ?kz7 ?fz7 ?ez7 ?dz7 ?uz7 ?_; (case Iz7 => assumption); (case Bz7 => k_asm); (case Fz7 => k_asm); (case Xz7 => k_asm); (case Nz7 => k_asm); (case Tz7 => k_asm); (case rz7 => assumption); (case kz7 => first | exact fun _ _ e => e | exact Fr.keep (by assumption) | exact fun _ _ e => Fr.keep (by assumption) _ _ (Fr.keep (by assumption) _ _ e)); (case fz7 => exact rfl); (case ez7 => exact rfl); (case dz7 => ((try dsimp only [Mine.T.size] at *); (try dsimp only [depth_deeper, Mine.top]); (first | exact Mine.rm2 (by assumption) rfl | exact Mine.rm_tree (by assumption) | exact Mine.rm_ord (by assumption) (Nat.succ_le_succ (Nat.le_add_right _ _)) | exact Mine.rm_ord (by assumption) (Nat.succ_le_succ (Nat.le_add_left _ _)) | exact Mine.rm_ord (by assumption) (Nat.le_refl _) | omega))); (case uz7 => ((try dsimp only [Mine.T.size] at *); (try dsimp only [units_deeper, units_in1, Mine.top]); (first | exact Mine.rm2 (by assumption) rfl | exact Mine.rm_treeu (by assumption) | exact Mine.rm_ordu (by assumption) (Nat.succ_le_succ (Nat.le_add_right _ _)) | exact Mine.rm_ordu (by assumption) (Nat.succ_le_succ (Nat.le_add_left _ _)) | exact Mine.rm_ordu (by assumption) (Nat.le_refl _) | omega)))); intro _ _ _ _ _ _ _ _ _ _ _ _ _; (try k_sweep))
  k_with "call ref" => (k_here; (with_reducible show wpAny _ _ (PySem.call (Value.ref 338) _) _ _ _); k_dflt (refine' Mine.fs_pure ?Iz8 ?Bz8 ?Fz8 ?Xz8 ?Nz8 ?Tz8 ?rz8 ?fz8 ?ez8 ?dz8 ?uz8 ?_; (case Iz8 => assumption); (case Bz8 => k_asm); (case Fz8 => k_asm); (case Xz8 => k_asm); (case Nz8 => k_asm); (case Tz8 => k_asm); (case rz8 => exact fun g' hk _ => Mine.RO.mono (by assumption) hk); (case fz8 => exact rfl); (case ez8 => exact rfl); (case dz8 => ((try dsimp only [depth_deeper, Mine.top]); (first | exact Mine.rm2 (by assumption) rfl | exact Mine.rm_tree (by assumption) | exact Mine.rm_ord (by assumption) (Nat.succ_le_succ (Nat.le_add_right _ _)) | exact Mine.rm_ord (by assumption) (Nat.succ_le_succ (Nat.le_add_left _ _)) | exact Mine.rm_ord (by assumption) (Nat.le_refl _) | omega))); (case uz8 => ((try dsimp only [units_deeper, units_in1, Mine.top]); (first | exact Mine.rm2 (by assumption) rfl | exact Mine.rm_treeu (by assumption) | exact Mine.rm_ordu (by assumption) (Nat.succ_le_succ (Nat.le_add_right _ _)) | exact Mine.rm_ordu (by assumption) (Nat.succ_le_succ (Nat.le_add_left _ _)) | exact Mine.rm_ordu (by assumption) (Nat.le_refl _) | omega)))); intro _ _ _ _ _ eqzz; (obtain ⟨tqzz, eqzz⟩ := eqzz; subst eqzz); (try (revert tqzz; intro _)); (try k_sweep))
  k_with "call builtin:isinstance" => (k_here; with_reducible refine' Mine.isi_tup ?Tz9 ?_; (case Tz9 => k_dflt is_tup); intro _)
  k_with "execs cons" => (k_here; first | (with_reducible refine' Mine.skip_if0 ?Fz10 ?vz10 ?bz10 ?_ ?x1z10 ?x2z10 ?x3z10; (case Fz10 => k_asm); (case vz10 => k_dflt exact rfl); (case bz10 => k_dflt decide); (case x1z10 => k_dflt exact rfl); (case x2z10 => k_dflt exact rfl); (case x3z10 => k_dflt decide); intro _) | (with_reducible refine' Mine.skip_or0 ?Fz10 ?vz10 ?bz10 ?b2z10 ?_ ?x1z10 ?x2z10 ?x3z10; (case Fz10 => k_asm); (case vz10 => k_dflt exact rfl); (case bz10 => k_dflt decide); (case b2z10 => k_dflt decide); (case x1z10 => k_dflt exact rfl); (case x2z10 => k_dflt exact rfl); (case x3z10 => k_dflt decide); intro _) | (with_reducible refine' Mine.take_if0 ?Fz10 ?vz10 ?bz10 ?_ ?x1z10 ?x2z10 ?x3z10; (case Fz10 => k_asm); (case vz10 => k_dflt exact rfl); (case bz10 => k_dflt decide); (case x1z10 => k_dflt exact rfl); (case x2z10 => k_dflt exact rfl); (case x3z10 => k_dflt decide); intro _))
  k_with "execs cons" => (k_here; first | (with_reducible refine' Mine.skip_in0 ?Fz11 ?Nz11 ?vz11 ?sz11 ?nz11 ?bz11 ?mz11 ?_ ?x1z11 ?x2z11 ?x3z11; (case Fz11 => k_asm); (case Nz11 => k_asm); (case vz11 => k_dflt exact rfl); (case sz11 => k_dflt exact rfl); (case nz11 => k_dflt decide); (case bz11 => k_dflt decide); (case mz11 => k_dflt exact rfl); (case x1z11 => k_dflt exact rfl); (case x2z11 => k_dflt exact rfl); (case x3z11 => k_dflt decide); intro _ _ _ _; (try k_sweep)) | (with_reducible refine' Mine.take_in0 ?Fz11 ?Nz11 ?vz11 ?sz11 ?nz11 ?bz11 ?mz11 ?_ ?x1z11 ?x2z11 ?x3z11; (case Fz11 => k_asm); (case Nz11 => k_asm); (case vz11 => k_dflt exact rfl); (case sz11 => k_dflt exact rfl); (case nz11 => k_dflt decide); (case bz11 => k_dflt decide); (case mz11 => k_dflt exact rfl); (case x1z11 => k_dflt exact rfl); (case x2z11 => k_dflt exact rfl); (case x3z11 => k_dflt decide); intro _ _ _ _; (try k_sweep)))
  k_with "eval Subscript Name Constant" => (k_here; with_reducible refine' Mine.item_tup0 ?Fz12 ?vz12 ?tz12 ?loz12 ?hiz12 ?jz12 ?uz12 ?_ ?x1z12 ?x2z12 ?x3z12; (case Fz12 => k_asm); (case vz12 => k_dflt exact rfl); (case tz12 => k_dflt is_tup); (case loz12 => k_dflt decide); (case hiz12 => k_dflt decide); (case jz12 => k_dflt exact rfl); (case uz12 => k_dflt exact rfl); (case x1z12 => k_dflt exact rfl); (case x2z12 => k_dflt exact rfl); (case x3z12 => k_dflt decide); intro _)
  refine' Mine.fs_plain (binds := [(Str.ofString "order", v)]) ?ho ?hcd ?hb ?hl ?h ?c2 ?c3 ?c4 ?c5
  case ho => (intro P; k_dflt k_is)
  case hcd => (intro P; k_dflt k_is)
  case hb => (intro s; exact BindsTo.of_eq rfl)
  case hl => exact locs rfl
  case c5 => decide
  case c2 => exact rfl
  case c3 => exact rfl
  case c4 => exact rfl
  case h =>
  intro dp un gd outer base g s p loose mean mg mb L' h' tk B' X' T' F' N' pre hd hu
  try dsimp only
  cases pre
  all_goals (have ht := isTup_of (by assumption); (with_reducible show wpAny _ _ _ _ _ _); k_fold; k_steps; (show Done _ _ _ _ _); exact ⟨_, _, _, (by k_asm), (by k_asm), ⟨_, rfl⟩, rfl⟩)

namespace Mine
section
variable {w : World} {base g h₀ : Heap} {outer : List Env} {L : Addr} {m : Str → Option Value} {env : Env} {news : List (Addr × Obj)} {hp : Heap} {gs : Array GenState} {dr : Drawn} {tk : Nat} {os : OsState} {p : Program} {loose : List Str} {mean : ExcName → Option Value} {mg mb : Str → Option Value}
  {A₀ : Around} {dp un n : Nat} {gd : Option (List Code)} {Q E : Value → Shared → Prop} {v : Value}
/-- a call that turns nothing and hands back a plain value -/
theorem fs_pure {f : Addr} {dep : Nat} {Pre : Heap → Prop} {args : List Value} {R : Value → Prop} (S : FS w f dep args Pre [] (fun r _ => R r)) (B : Below A₀ base outer h₀) (F : Fr h₀ L hp m) (X : (Mine.hd.heap_39 w.params).In h₀) (N : News h₀ L hp news) (T : Top p loose mean mg mb h₀)
    (hr : ∀ g', (∀ b o, h₀.get? b = some o → g'.get? b = some o) → (∀ q ∈ news, g'.get? q.1 = some q.2) → Pre g') (hf : env.frame = some L) (hke : env.scope.kind = .function)
    (hd : dp + dep < 900) (hu : un + 5 * dep < 3000)
    (ret : ∀ r h' tk', Fr h₀ L h' m → News h₀ L h' news → R r → Q r ⟨h', gs, dr, tk', os⟩) :
    wpAny (model pw w) (top dp un gd (env :: outer)) (call (.ref f) args) Q E ⟨hp, gs, dr, tk, os⟩ := by
  refine call_fs (R := news) S B F X N T hf hke (fun q hq => nomatch hq) (fun q hq => ⟨hq, fun r hr => nomatch hr⟩) hd hu (fun g' a b => hr g' b a) ?_
  intro r h' tk' P' F' N' _ _ hp
  exact ret r h' tk' F' (fun q hq => N' q (List.mem_append_right _ hq)) hp
end
theorem ROs.get {G : Addr → Obj → Prop} {vs : List Value} {os : List O} (h : ROs G vs os) : ∀ (i : Nat) (v : Value), vs[i]? = some v → ∃ o, os[i]? = some o ∧ RO G v o := by
  induction h with
  | nil => intro i v e; simp at e
  | cons h _ ih =>
    intro i v e
    cases i with
    | zero => cases e; exact ⟨_, rfl, h⟩
    | succ i => exact ih i v e
noncomputable def ListAt (g : Heap) (v : Value) (os : List O) : Prop := ∃ ax its, v = .ref ax ∧ g.IsList ax its ∧ ROs (inH g) its.toList os
theorem ListAt.keeps {g g' : Heap} {v : Value} {os : List O} (h : ListAt g v os) (k : ∀ b o, g.get? b = some o → g'.get? b = some o) : ListAt g' v os := by
  obtain ⟨ax, its, e, ⟨o, ho, r⟩, h2⟩ := h
  exact ⟨ax, its, e, ⟨o, k _ _ ho, r⟩, h2.mono fun a o e => k _ _ e⟩
noncomputable def stepD (p : Int × Int) (o : O) : Int × Int := (p.1 + chg o, if p.1 + chg o > p.2 then p.1 + chg o else p.2)
noncomputable def depthP (os : List O) : Int × Int := os.foldl stepD (0, 0)
end Mine

namespace Mine
abbrev dm (m0 : Str → Option Value) (hi mo : Int) (t1 t2 : Tok) (o : Option Value) : Str → Option Value :=
  fun s => if s = Str.ofString "most" then some (.int mo t2) else if s = Str.ofString "high" then some (.int hi t1) else if s = Str.ofString "order" then o else m0 s
theorem dm_intro {m0 : Str → Option Value} {hi mo : Int} {t1 t2 : Tok} (h : m0 (Str.ofString "order") = none) :
    (fun y => if y = Str.ofString "most" then some (.int mo t2) else if y = Str.ofString "high" then some (.int hi t1) else m0 y) = dm m0 hi mo t1 t2 none := by
  funext y
  unfold dm
  by_cases h1 : y = Str.ofString "most"
  · rw [if_pos h1, if_pos h1]
  · by_cases h2 : y = Str.ofString "high"
    · rw [if_neg h1, if_neg h1, if_pos h2, if_pos h2]
    · by_cases h3 : y = Str.ofString "order"
      · rw [if_neg h1, if_neg h1, if_neg h2, if_neg h2, if_pos h3, h3, h]
      · rw [if_neg h1, if_neg h1, if_neg h2, if_neg h2, if_neg h3]
theorem dm_set {m0 : Str → Option Value} {hi mo hi' mo' : Int} {t1 t2 t1' t2' : Tok} {o o' : Option Value} :
    (fun y => if y = Str.ofString "most" then some (.int mo' t2') else if y = Str.ofString "high" then some (.int hi' t1') else if y = Str.ofString "order" then o' else dm m0 hi mo t1 t2 o y) = dm m0 hi' mo' t1' t2' o' := by
  funext y
  by_cases h1 : y = Str.ofString "most" <;> by_cases h2 : y = Str.ofString "high" <;> by_cases h3 : y = Str.ofString "order" <;> simp only [dm, h1, h2, h3, if_true, if_false] <;> rfl
noncomputable def DepJ (os : List O) (m0 : Str → Option Value) (i : Nat) (m : Str → Option Value) (news : List (Addr × Obj)) : Prop :=
  news = [] ∧ ∃ t1 t2 o, m = dm m0 (depthP (os.take i)).1 (depthP (os.take i)).2 t1 t2 o
end Mine
set_option maxHeartbeats 40000000 in
theorem Mine.depth_fs {w : World} (os : List O) (v : Value) : FS w 331 2 [v] (fun g => ListAt g v os) [] (fun r _ => ∃ t, r = .int (depthP os).2 t) := by
  w_top off
  k_with_none
  k_with "callWith ref" => (k_here; k_dflt (first | (refine' callWith_K ?k1z1 ?k2z1 ?_; (case k1z1 => k_asm); (case k2z1 => k_is); k_whole) | (refine' callWith_K0 ?k1z1 ?k2z1 ?_; (case k1z1 => k_in); (case k2z1 => k_is); k_whole)))
  k_with "binaryOp Add ref ref" => (k_here; with_reducible refine' Mine.add_mem ?Fz2 ?Nz2 ?az2 ?bz2 ?zz2 ?_; (case Fz2 => k_asm); (case Nz2 => k_asm); (case az2 => k_dflt k_mem); (case bz2 => k_dflt k_mem); (case zz2 => ((try dsimp only [Mine.T.size] at *); (try simp only [Array.size_append, List.size_toArray, List.length_cons, List.length_nil]); omega)); intro _ _ _ _ l1zz; (try k_lt l1zz); (try (revert l1zz; intro _)); (try k_sweep))
  k_with "call builtin:len" => (k_here; with_reducible refine' Mine.len_mem ?Nz3 ?mz3 ?ez3 ?zz3 ?_; (case Nz3 => k_asm); (case mz3 => k_dflt k_mem); (case ez3 => first | with_reducible assumption | exact rfl); (case zz3 => ((try dsimp only [Mine.T.size] at *); (try simp only [Array.size_push]); omega)); intro _ _)
  k_with "call builtin:len" => (k_here; with_reducible refine' Mine.len_tupN ?Tz4 ?ez4 ?zz4 ?_; (case Tz4 => k_dflt is_tup); (case ez4 => first | with_reducible assumption | exact rfl); (case zz4 => first | (k_dflt decide) | ((try dsimp only [Mine.T.size] at *); omega)); intro _ _)
  k_with "call builtin:list.extend" => (k_here; with_reducible refine' Mine.ext_mem ?Fz5 ?Nz5 ?bz5 ?Uz5 ?zz5 ?_; (case Fz5 => k_asm); (case Nz5 => k_asm); (case bz5 => k_dflt k_mem); (case Uz5 => k_dflt k_updF); (case zz5 => ((try dsimp only [Mine.T.size] at *); (try simp only [Array.size_append, List.size_toArray, List.length_cons, List.length_nil]); omega)); intro _ _ _ Nqzz; (try dsimp only at Nqzz); (try (revert Nqzz; intro _)); (try k_sweep))
  k_with "call ref" => (k_here; (with_reducible show wpAny _ _ (PySem.call (Value.ref 296) _) _ _ _); k_dflt (refine' Mine.ord_call ?Iz6 ?Bz6 ?Fz6 ?Xz6 ?Nz6 ?Tz6 ?rz6 ?kz6 ?fz6 ?ez6 ?sz6 ?wz6 ?dz6 ?uz6 ?_; (case Iz6 => assumption); (case Bz6 => k_asm); (case Fz6 => k_asm); (case Xz6 => k_asm); (case Nz6 => k_asm); (case Tz6 => k_asm); (case rz6 => assumption); (case kz6 => first | exact fun _ _ e => e | exact Fr.keep (by assumption) | exact fun _ _ e => Fr.keep (by assumption) _ _ (Fr.keep (by assumption) _ _ e)); (case fz6 => exact rfl); (case ez6 => exact rfl); (case sz6 => ((try dsimp only [Mine.T.size] at *); omega)); (case wz6 => first | assumption | exact And.left (by assumption) | exact And.right (by assumption)); (case dz6 => ((try dsimp only [Mine.T.size] at *); (try dsimp only [depth_deeper, Mine.top]); (first | exact Mine.rm2 (by assumption) rfl | exact Mine.rm_tree (by assumption) | exact Mine.rm_ord (by assumption) (Nat.succ_le_succ (Nat.le_add_right _ _)) | exact Mine.rm_ord (by assumption) (Nat.succ_le_succ (Nat.le_add_left _ _)) | exact Mine.rm_ord (by assumption) (Nat.le_refl _) | omega))); (case uz6 => ((try dsimp only [Mine.T.size] at *); (try dsimp only [units_deeper, units_in1, Mine.top]); (first | exact Mine.rm2 (by assumption) rfl | exact Mine.rm_treeu (by assumption) | exact Mine.rm_ordu (by assumption) (Nat.succ_le_succ (Nat.le_add_right _ _)) | exact Mine.rm_ordu (by assumption) (Nat.succ_le_succ (Nat.le_add_left _ _)) | exact Mine.rm_ordu (by assumption) (Nat.le_refl _) | omega)))); intro _ _ _ _ _ _ _ _ _ _ _ _ _; (try k_sweep))
  k_with "call ref" => (k_here; (with_reducible show wpAny _ _ (PySem.call (Value.ref 303) _) _ _ _); k_dflt (refine' Mine.fs_call0 (mo := 2) ?Iz7 ?Bz7 ?Fz7 ?Xz7 ?Nz7 ?Tz7 ?rz7 ?kz7 ?fz7 ?ez7 ?dz7 ?uz7 ?_; (case Iz7 => assumption); (case Bz7 => k_asm); (case Fz7 => k_asm); (case Xz7 => k_asm); (case Nz7 => k_asm); (case Tz7 => k_asm); (case rz7 => assumption); (case kz7 => first | exact fun _ _ e => e | exact Fr.keep (by assumption) | exact fun _ _ e => Fr.keep (by assumption) _ _ (Fr.keep (by assumption) _ _ e)); (case fz7 => exact rfl); (case ez7 => exact rfl); (case dz7 => ((try dsimp only [Mine.T.size] at *); (try dsimp only [depth_deeper, Mine.top]); (first | exact Mine.rm2 (by assumption) rfl | exact Mine.rm_tree (by assumption) | exact Mine.rm_ord (by assumption) (Nat.succ_le_succ (Nat.le_add_right _ _)) | exact Mine.rm_ord (by assumption) (Nat.succ_le_succ (Nat.le_add_left _ _)) | exact Mine.rm_ord (by assumption) (Nat.le_refl _) | omega))); (case uz7 => ((try dsimp only [Mine.T.size] at *); (try dsimp only [units_deeper, units_in1, Mine.top]); (first | exact Mine.rm2 (by assumption) rfl | exact Mine.rm_treeu (by assumption) | exact Mine.rm_ordu (by assumption) (Nat.succ_le_succ (Nat.le_add_right _ _)) | exact Mine.rm_ordu (by assumption) (Nat.succ_le_succ (Nat.le_add_left _ _)) | exact Mine.rm_ordu (by assumption) (Nat.le_refl _) | omega)))); intro _ _ _ _ _ _ _ _ _ _ _ _ _; (try k_sweep))
  k_with "call ref" => (k_here; (with_reducible show wpAny _ _ (PySem.call (Value.ref 338) _) _ _ _); k_dflt (refine' Mine.fs_pure ?Iz8 ?Bz8 ?Fz8 ?Xz8 ?Nz8 ?Tz8 ?rz8 ?fz8 ?ez8 ?dz8 ?uz8 ?_; (case Iz8 => assumption); (case Bz8 => k_asm); (case Fz8 => k_asm); (case Xz8 => k_asm); (case Nz8 => k_asm); (case Tz8 => k_asm); (case rz8 => exact fun g' hk _ => Mine.RO.mono (by assumption) hk); (case fz8 => exact rfl); (case ez8 => exact rfl); (case dz8 => ((try dsimp only [depth_deeper, Mine.top]); (first | exact Mine.rm2 (by assumption) rfl | exact Mine.rm_tree (by assumption) | exact Mine.rm_ord (by assumption) (Nat.succ_le_succ (Nat.le_add_right _ _)) | exact Mine.rm_ord (by assumption) (Nat.succ_le_succ (Nat.le_add_left _ _)) | exact Mine.rm_ord (by assumption) (Nat.le_refl _) | omega))); (case uz8 => ((try dsimp only [units_deeper, units_in1, Mine.top]); (first | exact Mine.rm2 (by assumption) rfl | exact Mine.rm_treeu (by assumption) | exact Mine.rm_ordu (by assumption) (Nat.succ_le_succ (Nat.le_add_right _ _)) | exact Mine.rm_ordu (by assumption) (Nat.succ_le_succ (Nat.le_add_left _ _)) | exact Mine.rm_ordu (by assumption) (Nat.le_refl _) | omega)))); intro _ _ _ _ _ eqzz; (obtain ⟨tqzz, eqzz⟩ := eqzz; subst eqzz); (try (revert tqzz; intro _)); (try k_sweep))
  k_with "call builtin:isinstance" => (k_here; with_reducible refine' Mine.isi_tup ?Tz9 ?_; (case Tz9 => k_dflt is_tup); intro _)
  k_with "execs cons" => (k_here; first | (with_reducible refine' Mine.skip_if0 ?Fz10 ?vz10 ?bz10 ?_ ?x1z10 ?x2z10 ?x3z10; (case Fz10 => k_asm); (case vz10 => k_dflt exact rfl); (case bz10 => k_dflt decide); (case x1z10 => k_dflt exact rfl); (case x2z10 => k_dflt exact rfl); (case x3z10 => k_dflt decide); intro _) | (with_reducible refine' Mine.skip_or0 ?Fz10 ?vz10 ?bz10 ?b2z10 ?_ ?x1z10 ?x2z10 ?x3z10; (case Fz10 => k_asm); (case vz10 => k_dflt exact rfl); (case bz10 => k_dflt decide); (case b2z10 => k_dflt decide); (case x1z10 => k_dflt exact rfl); (case x2z10 => k_dflt exact rfl); (case x3z10 => k_dflt decide); intro _) | (with_reducible refine' Mine.take_if0 ?Fz10 ?vz10 ?bz10 ?_ ?x1z10 ?x2z10 ?x3z10; (case Fz10 => k_asm); (case vz10 => k_dflt exact rfl); (case bz10 => k_dflt decide); (case x1z10 => k_dflt exact rfl); (case x2z10 => k_dflt exact rfl); (case x3z10 => k_dflt decide); intro _))
  k_with "execs cons" => (k_here; first | (with_reducible refine' Mine.skip_in0 ?Fz11 ?Nz11 ?vz11 ?sz11 ?nz11 ?bz11 ?mz11 ?_ ?x1z11 ?x2z11 ?x3z11; (case Fz11 => k_asm); (case Nz11 => k_asm); (case vz11 => k_dflt exact rfl); (case sz11 => k_dflt exact rfl); (case nz11 => k_dflt decide); (case bz11 => k_dflt decide); (case mz11 => k_dflt exact rfl); (case x1z11 => k_dflt exact rfl); (case x2z11 => k_dflt exact rfl); (case x3z11 => k_dflt decide); intro _ _ _ _; (try k_sweep)) | (with_reducible refine' Mine.take_in0 ?Fz11 ?Nz11 ?vz11 ?sz11 ?nz11 ?bz11 ?mz11 ?_ ?x1z11 ?x2z11 ?x3z11; (case Fz11 => k_asm); (case Nz11 => k_asm); (case vz11 => k_dflt exact rfl); (case sz11 => k_dflt exact rfl); (case nz11 => k_dflt decide); (case bz11 => k_dflt decide); (case mz11 => k_dflt exact rfl); (case x1z11 => k_dflt exact rfl); (case x2z11 => k_dflt exact rfl); (case x3z11 => k_dflt decide); intro _ _ _ _; (try k_sweep)))
  k_with "eval Subscript Name Constant" => (k_here; with_reducible refine' Mine.item_tup0 ?Fz12 ?vz12 ?tz12 ?loz12 ?hiz12 ?jz12 ?uz12 ?_ ?x1z12 ?x2z12 ?x3z12; (case Fz12 => k_asm); (case vz12 => k_dflt exact rfl); (case tz12 => k_dflt is_tup); (case loz12 => k_dflt decide); (case hiz12 => k_dflt decide); (case jz12 => k_dflt exact rfl); (case uz12 => k_dflt exact rfl); (case x1z12 => k_dflt exact rfl); (case x2z12 => k_dflt exact rfl); (case x3z12 => k_dflt decide); intro _)
  refine' Mine.fs_plain (binds := [(Str.ofString "orders", v)]) ?ho ?hcd ?hb ?hl ?h ?c2 ?c3 ?c4 ?c5
  case ho => (intro P; k_dflt k_is)
  case hcd => (intro P; k_dflt k_is)
  case hb => (intro s; exact BindsTo.of_eq rfl)
  case hl => exact locs rfl
  case c5 => decide
  case c2 => exact rfl
  case c3 => exact rfl
  case c4 => exact rfl
  case h =>
  intro dp un gd outer base g s p loose mean mg mb L' h' tk B' X' T' F' N' pre hd hu
  obtain ⟨ax, xs, rfl, hx, hro⟩ := pre
  have hsz : xs.size = os.length := by rw [← Array.length_toList]; exact hro.length
  try dsimp only
  with_reducible show wpAny _ _ _ _ _ _
  k_fold; k_steps
  rename_i F9 N9
  refine' for_base (ax := ax) (xs := xs) (.inl hx) rfl F9 News.nil (fun Q' h => nameX_L (cl := []) F9 rfl (h _) rfl rfl (by decide)) (DepJ os (fun y => List.lookup y [(Str.ofString "orders", Value.ref ax)].reverse)) ?z0 ?z1 ?z2
  case z0 => exact ⟨rfl, _, _, none, dm_intro rfl⟩
  case z1 =>
    intro i v m₁ news₁ h₁ tk₁ I₁ o₁ hv hJ hap F₁ N₁
    obtain ⟨rfl, t1, t2, o, rfl⟩ := hJ
    obtain ⟨od, ho, hod⟩ := hro.get i v (by rw [Array.getElem?_toList]; exact hv)
    have hch := change_fs (w := w) od v
    have htk : os.take (i + 1) = os.take i ++ [od] := by rw [List.take_add_one, ho]; rfl
    have e : depthP (os.take (i + 1)) = stepD (depthP (os.take i)) od := by rw [htk]; unfold depthP; rw [List.foldl_append]; rfl
    k_steps
    rename_i F2 N2
    exact ⟨_, _, _, [], rfl, F2, N2, (fun _ h => absurd h List.not_mem_nil), rfl, _, _, some v, by rw [e]; exact dm_set⟩
  case z2 =>
    intro h' tk' m' news' F' N' hJ
    obtain ⟨rfl, t1, t2, o, rfl⟩ := hJ
    rw [hsz, List.take_length] at F'
    k_steps
    (show Done _ _ _ _ _); exact ⟨_, _, _, (by k_asm), (by k_asm), ⟨_, rfl⟩, rfl⟩
namespace Mine
section
variable {prog : Program} {w : World} {A : Around} {E : Value → Shared → Prop} {hp h₀ : Heap} {gs : Array GenState} {dr : Drawn} {tk : Nat} {os : OsState} {L : Addr} {m : Str → Option Value} {env : Env} {news : List (Addr × Obj)}
theorem tup_st {ax I : Addr} {its : Array Value} (hx : h₀.IsTuple ax its) : ∀ i (h h' : Heap) (o : Obj) (nw : List (Addr × Obj)), (h.IsTupleIter I ax i ∧ h.IsTuple ax its) → h.get? I = some o → h'.get? I = some o → (∀ b o, h₀.get? b = some o → h'.get? b = some o) → News h₀ L h' nw → True → (h'.IsTupleIter I ax i ∧ h'.IsTuple ax its) :=
  fun i h h' o nw st e e' k N _ => ⟨by obtain ⟨o', q, r⟩ := st.1; rw [e] at q; cases q; exact ⟨o, e', r⟩, hx.at fun o e => k _ _ e⟩
/-- a comprehension over a tuple of the ground -/
theorem listcomp_tup {elt iter : Expr} {x : Str} {px : Pos} {scope : Scope} {cl : List (Str × Addr)} {pos : Pos} {ax : Addr} {xs : Array Value} {Q : Value → Shared → Prop}
    (hx' : h₀.IsTuple ax xs) (hsz : xs.size ≤ sizeLine) (hh : A.handled = none) (F : Fr h₀ L hp m) (N : News h₀ L hp news)
    (he : ∀ Q' : Value → Shared → Prop, (∀ tk', Q' (.ref ax) ⟨hp, gs, dr, tk', os⟩) → wpAny (model prog w) A (eval iter env) Q' E ⟨hp, gs, dr, tk, os⟩)
    (hclos : closureFor scope env = pure cl) (hcell : ∀ y ∈ scope.names, y.2 ≠ .cell) (hkind : scope.kind = .function)
    (hnames : ∀ y ∈ scope.names, y.2 = .local → scope.names.lookup y.1 = some .local) (hx : scope.names.lookup x = some .local)
    (R : ∀ h₁ tk₁, LCg.CompRest prog w A h₀ L m env elt x scope cl ⟨h₁, gs, dr, tk₁, os⟩ (fun _ => True) (fun i v => xs[i]? = some v)
      (fun ys nw => ∀ D h tk, Fr h₀ L h m → News h₀ L h ((D, LCg.lst ys) :: nw) → LCg.Off1 D nw → Q (.ref D) ⟨h, gs, dr, tk, os⟩) xs.size 0 [] news)
    (hs : ∀ x, foldedSetIterable iter env x = pure x := by intro _; rfl) :
    wpAny (model prog w) A (eval (.ListComp elt [⟨.Name x px, iter, [], 0⟩] scope pos) env) Q E ⟨hp, gs, dr, tk, os⟩ := by
  rw [eval_ListComp]
  refine wpAny_comprehension_free (use := none) rfl hs hclos hkind hnames (he _ fun tk' => ?_)
  have hl : hp.IsTuple ax xs := hx'.at fun o e => F.keep _ _ e
  have hlt : ax < hp.objs.size := by obtain ⟨_, e, _⟩ := hl; exact Heap.lt_size e
  have hI0 : h₀.get? hp.objs.size = none := by
    cases q : h₀.get? hp.objs.size with
    | none => rfl
    | some o => exact absurd (Heap.lt_size (F.keep _ _ q)) (Nat.lt_irrefl _)
  refine wpAny_pyIter_tuple (s := ⟨hp, gs, dr, tk', os⟩) hl ?_
  refine LCg.block_U (Walks.tuple hh hp.objs.size ax (Nat.ne_of_lt hlt) xs) hsz (fun i h st => by obtain ⟨o, e, _⟩ := st.1; exact ⟨o, e⟩) (tup_st hx') hcell hkind hx ⟨⟨_, Heap.get?_push_size _ rfl, rfl, rfl⟩, hl.at fun o e => Heap.get?_push_of_some _ e⟩ (fun b hb => ?_)
    (F.push _) (fun p hp' => ⟨Heap.get?_push_of_some _ (N p hp').1, (N p hp').2⟩) (Nat.ne_of_lt F.ns.lt) hI0 (fun p hp' => Nat.ne_of_lt (Heap.lt_size (N p hp').1)) trivial (R _ _) ?_
  · show b < (hp.push _).objs.size
    rw [Heap.size_push]
    rcases List.mem_cons.mp hb with rfl | hb
    · exact Nat.lt_succ_self _
    · rw [List.mem_singleton.mp hb]; exact Nat.lt_succ_of_lt hlt
  · intro D C h tk m' ys news' F' N' o1 hn hC₀ hD₀ hCL hDL hCD offC fin
    refine ⟨m', hn, fun h'' hs'' => fin D h'' tk (F'.change hs'' hCL hC₀) (fun p hp => ?_) o1⟩
    refine ⟨hs''.extBut _ _ ?_ (N' p hp).1, (N' p hp).2⟩
    rcases List.mem_cons.mp hp with rfl | hp
    · exact Ne.symm hCD
    · exact offC p hp
end
section
variable {w : World} {base h₀ : Heap} {outer : List Env} {L C : Addr} {m m₂ : Str → Option Value} {env env' : Env} {news : List (Addr × Obj)} {hp : Heap} {gs : Array GenState} {dr : Drawn} {tk : Nat} {os : OsState} {p : Program} {loose : List Str} {mean : ExcName → Option Value} {mg mb : Str → Option Value}
  {A₀ A : Around} {dp un n : Nat} {gd : Option (List Code)} {Q E : Value → Shared → Prop} {v : Value} {oC : Obj} {scope : Scope} {cl : List (Str × Addr)} {x : Str} {pos : Pos}
/-- the block's own name -/
theorem nameB (N : News h₀ L hp news) (hm : (C, oC) ∈ news) (ho : LCg.NsObj oC m₂) (hv : m₂ x = some v) (h : Q v ⟨hp, gs, dr, tk, os⟩)
    (hk : scope.kind = .function) (hx : (compEnvC scope cl C env).kindOf x = some .local) (hd : (x == ("__debug__" : Str)) = false) :
    wpAny (model pw w) A (eval (.Name x pos) (compEnvC scope cl C env)) Q E ⟨hp, gs, dr, tk, os⟩ :=
  wpAny_Name (wpAny_loadName_local (s := ⟨hp, gs, dr, tk, os⟩) (env := compEnvC scope cl C env) hk hx (ho.ns (N _ hm).1) hv h) hd
/-- a name of the frame about the block: a cell -/
theorem nameBC {c : Addr} {o : Obj} (N : News h₀ L hp news) (hc : cl.lookup x = some c) (hm : (c, o) ∈ news) (hd : o.data = .cell (some v)) (h : Q v ⟨hp, gs, dr, tk, os⟩)
    (hk : scope.kind = .function) (hx : (compEnvC scope cl C env).kindOf x = some .cell) (hb : (x == ("__debug__" : Str)) = false) :
    wpAny (model pw w) A (eval (.Name x pos) (compEnvC scope cl C env)) Q E ⟨hp, gs, dr, tk, os⟩ :=
  wpAny_Name (wpAny_loadName_cell (s := ⟨hp, gs, dr, tk, os⟩) (env := compEnvC scope cl C env) hk hx hc ⟨o, N.get hm, hd⟩ h) hb
/-- a call of a def of the text by its name -/
theorem call_named {fn : Str} {a : Addr} {e : Expr} {rest : List Expr} {p1 p2 : Pos} (F : Fr h₀ L hp m) (X : (Mine.hd.heap_39 w.params).In h₀) (T : Top p loose mean mg mb h₀) (hf : nsIn (Mine.hd.heap_39 w.params) mainGlobals fn = some (some (.ref a)))
    (hkeep : keepIn (Mine.hd.heap_39 w.params) (.ref a) = true) (hg : env'.globals = mainGlobals) (hk : env'.scope.kind = .function) (hx : env'.kindOf fn = some .globalImplicit) (hd : (fn == ("__debug__" : Str)) = false)
    (he : starEach (e :: rest) env' = (false, eval e env') :: starEach rest env') (hplain : (backTo p2 (starEach rest env')).any (·.1) = false)
    (h : wpAny (model pw w) A (spliced (backTo p2 (starEach (e :: rest) env'))) (fun vs s₁ => (Mine.hd.heap_39 w.params).In s₁.heap ∧ wpAny (model pw w) A (call (.ref a) vs) Q E s₁) E ⟨hp, gs, dr, tk, os⟩) :
    wpAny (model pw w) A (eval (.Call (.Name fn p1) (e :: rest) [] p2) env') Q E ⟨hp, gs, dr, tk, os⟩ :=
  Call_ (nameG_K (s := ⟨hp, gs, dr, tk, os⟩) F X (topRead_of T) hf (callWith_K X hkeep h he hplain) hg hk hx hd)
end
end Mine
namespace Mine
/-- what an order takes off the stack -/
noncomputable def need : O → Nat
  | .value => 1 | .indirect => 1 | .call n => n | .item n => n + 1 | .unary => 1 | .binary => 2 | .join => 2 | .given => 2 | .cursor => 1 | .drop => 1 | _ => 0
/-- the machine's state: the stack, the guards, how many were asked -/
structure M where
  st : List SV
  gs : List (Nat × Nat)
  n : Nat
noncomputable def askM (bad : List Int) (σ : M) (k : Nat) : Bool × M :=
  if (σ.n : Int) ∈ bad then (false, ⟨σ.st.take (σ.st.length - k), σ.gs, σ.n + 1⟩) else (true, ⟨σ.st.take (σ.st.length - k) ++ [.s (Str.ofString "v")], σ.gs, σ.n + 1⟩)
/-- one order, no guard -/
noncomputable def doO (bad : List Int) (o : O) (σ : M) : Bool × M :=
  match o with
  | .push v => (true, ⟨σ.st ++ [v], σ.gs, σ.n⟩)
  | .unguard => (true, ⟨σ.st, σ.gs.dropLast, σ.n⟩)
  | .drop => (true, ⟨σ.st.take (σ.st.length - 1), σ.gs, σ.n⟩)
  | .fail => (false, σ)
  | .guard _ => (false, σ)
  | o => askM bad σ (need o)
noncomputable def O.isGuard : O → Bool | .guard _ => true | _ => false
/-- what the rows come to -/
inductive Run (bad : List Int) (os : List O) : Nat → Nat → M → Option M × Nat → Prop
  | done {k i σ} : os.length ≤ i → Run bad os k i σ (some σ, σ.n)
  | guard {k i σ n r} : os[i]? = some (.guard n) → Run bad os k (i + 1) ⟨σ.st, σ.gs ++ [(i + n, σ.st.length)], σ.n⟩ r → Run bad os (k + 1) i σ r
  | ok {k i σ o r} : os[i]? = some o → o.isGuard = false → need o ≤ σ.st.length → (o = .unguard → σ.gs ≠ []) → (doO bad o σ).1 = true → Run bad os k (i + 1) (doO bad o σ).2 r → Run bad os (k + 1) i σ r
  | back {k i σ o g p h r} : os[i]? = some o → o.isGuard = false → need o ≤ σ.st.length → (o = .unguard → σ.gs ≠ []) → (doO bad o σ).1 = false → (doO bad o σ).2.gs = g ++ [(p, h)] → Run bad os k p ⟨(doO bad o σ).2.st.take h, g, (doO bad o σ).2.n⟩ r → Run bad os (k + 1) i σ r
  | fall {k i σ o} : os[i]? = some o → o.isGuard = false → need o ≤ σ.st.length → (o = .unguard → σ.gs ≠ []) → (doO bad o σ).1 = false → (doO bad o σ).2.gs = [] → Run bad os (k + 1) i σ (none, (doO bad o σ).2.n)
end Mine
namespace Mine
theorem Run.mono {bad : List Int} {os : List O} {k i : Nat} {σ : M} {r : Option M × Nat} (h : Run bad os k i σ r) : ∀ {k'}, k ≤ k' → Run bad os k' i σ r := by
  induction h with
  | done h => exact fun _ => .done h
  | guard h _ ih => intro k' hk; obtain ⟨k'', rfl⟩ : ∃ k'', k' = k'' + 1 := ⟨k' - 1, by omega⟩; exact .guard h (ih (by omega))
  | ok a b c d e _ ih => intro k' hk; obtain ⟨k'', rfl⟩ : ∃ k'', k' = k'' + 1 := ⟨k' - 1, by omega⟩; exact .ok a b c d e (ih (by omega))
  | back a b c d e f _ ih => intro k' hk; obtain ⟨k'', rfl⟩ : ∃ k'', k' = k'' + 1 := ⟨k' - 1, by omega⟩; exact .back a b c d e f (ih (by omega))
  | fall a b c d e f => intro k' hk; obtain ⟨k'', rfl⟩ : ∃ k'', k' = k'' + 1 := ⟨k' - 1, by omega⟩; exact .fall a b c d e f
/-- a failure with the stack st (and more on it), the guards g, n asked -/
noncomputable def Falls (bad : List Int) (os : List O) (st : List SV) (g : List (Nat × Nat)) (n : Nat) (r : Option M × Nat) (k : Nat) : Prop :=
  (g = [] ∧ r = (none, n)) ∨ ∃ g' p h, g = g' ++ [(p, h)] ∧ Run bad os k p ⟨st.take h, g', n⟩ r
noncomputable def Free (bad : List Int) (n n' : Nat) : Prop := ∀ j : Nat, n ≤ j → j < n' → (j : Int) ∉ bad
theorem Free.trans {bad : List Int} {a b c : Nat} (h : Free bad a b) (k : Free bad b c) : Free bad a c := fun j h1 h2 => if x : j < b then h j h1 x else k j (by omega) h2
/-- a piece of the row: takes c values, leaves d; pure: no negation in it -/
noncomputable def Seg (bad : List Int) (l : List O) (c d : Nat) (pure : Prop) : Prop :=
  ∀ os pre post st ys gs n, os = pre ++ l ++ post → ys.length = c → (∀ g ∈ gs, g.2 ≤ st.length) →
    (∃ n' xs, xs.length = d ∧ n ≤ n' ∧ (pure → Free bad n n') ∧ ∀ r k, Run bad os k (pre.length + l.length) ⟨st ++ xs, gs, n'⟩ r → Run bad os (k + l.length) pre.length ⟨st ++ ys, gs, n⟩ r) ∨
    (∃ n', n ≤ n' ∧ (pure → ∃ j : Nat, n' = j + 1 ∧ n ≤ j ∧ (j : Int) ∈ bad ∧ Free bad n j) ∧ ∀ r k, Falls bad os st gs n' r k → Run bad os (k + l.length) pre.length ⟨st ++ ys, gs, n⟩ r)
theorem Seg.nil {bad : List Int} {c : Nat} {p : Prop} : Seg bad [] c c p := by
  intro os pre post st ys gs n e hc hg
  exact .inl ⟨n, ys, hc, Nat.le_refl _, fun _ j h1 h2 => absurd h1 (by omega), fun r k h => h⟩
theorem Seg.seq {bad : List Int} {l l' : List O} {c d e : Nat} {p p' q : Prop} (S : Seg bad l c d p) (S' : Seg bad l' d e p') (hp : q → p) (hp' : q → p') : Seg bad (l ++ l') c e q := by
  intro os pre post st ys gs n eo hc hg
  rcases S os pre (l' ++ post) st ys gs n (by rw [eo]; simp only [List.append_assoc]) hc hg with ⟨n', xs, hx, hn, hf, hr⟩ | ⟨n', hn, hf, hr⟩
  · rcases S' os (pre ++ l) post st xs gs n' (by rw [eo]; simp only [List.append_assoc]) hx hg with ⟨n2, xs2, hx2, hn2, hf2, hr2⟩ | ⟨n2, hn2, hf2, hr2⟩
    · refine .inl ⟨n2, xs2, hx2, Nat.le_trans hn hn2, fun x => (hf (hp x)).trans (hf2 (hp' x)), fun r k h => ?_⟩
      have h2 := hr2 r k (by rw [List.length_append, Nat.add_assoc, ← List.length_append]; exact h)
      rw [List.length_append] at h2
      exact (hr r _ h2).mono (by rw [List.length_append]; omega)
    · refine .inr ⟨n2, Nat.le_trans hn hn2, fun x => ?_, fun r k h => ?_⟩
      · obtain ⟨j, h1, h2, h3, h4⟩ := hf2 (hp' x)
        exact ⟨j, h1, Nat.le_trans hn h2, h3, (hf (hp x)).trans h4⟩
      · have h2 := hr2 r k h
        rw [List.length_append] at h2
        exact (hr r _ h2).mono (by rw [List.length_append]; omega)
  · exact .inr ⟨n', hn, fun x => hf (hp x), fun r k h => (hr r k h).mono (by rw [List.length_append]; omega)⟩
theorem Falls.low {bad : List Int} {os : List O} {st ys : List SV} {g : List (Nat × Nat)} {n k : Nat} {r : Option M × Nat} (h : Falls bad os st g n r k) (hg : ∀ x ∈ g, x.2 ≤ st.length) : Falls bad os (st ++ ys) g n r k := by
  rcases h with h | ⟨g', p, k, e, h⟩
  · exact .inl h
  · refine .inr ⟨g', p, k, e, ?_⟩
    have : k ≤ st.length := hg (p, k) (by rw [e]; exact List.mem_append_right _ (.head _))
    rwa [List.take_append_of_le_length this]
theorem Seg.above {bad : List Int} {l : List O} {c d : Nat} {p : Prop} (S : Seg bad l c d p) (k : Nat) : Seg bad l (k + c) (k + d) p := by
  intro os pre post st ys gs n eo hc hg
  have e : st ++ ys = (st ++ ys.take k) ++ ys.drop k := by rw [List.append_assoc, List.take_append_drop]
  have hg' : ∀ g ∈ gs, g.2 ≤ (st ++ ys.take k).length := fun g h => by rw [List.length_append]; exact Nat.le_trans (hg g h) (Nat.le_add_right _ _)
  rcases S os pre post (st ++ ys.take k) (ys.drop k) gs n eo (by rw [List.length_drop]; omega) hg' with ⟨n', xs, hx, hn, hf, hr⟩ | ⟨n', hn, hf, hr⟩
  · refine .inl ⟨n', ys.take k ++ xs, by rw [List.length_append, List.length_take, hx]; omega, hn, hf, fun r k h => ?_⟩
    rw [e]; exact hr r k (by rwa [List.append_assoc])
  · refine .inr ⟨n', hn, hf, fun r k h => ?_⟩
    rw [e]; exact hr r k (h.low hg)
section
variable {bad : List Int} {os pre post : List O} {o : O}
theorem at_pre (h : os = pre ++ [o] ++ post) : os[pre.length]? = some o := by
  rw [h, List.append_assoc, List.getElem?_append_right (Nat.le_refl _)]; simp
theorem take_ap {st ys : List SV} {k : Nat} (h : ys.length = k) : (st ++ ys).take ((st ++ ys).length - k) = st := by
  rw [List.length_append, h, Nat.add_sub_cancel, List.take_left]
/-- an order that asks -/
noncomputable def O.asks : O → Bool | .push _ => false | .unguard => false | .drop => false | .fail => false | .guard _ => false | _ => true
theorem doO_asks {σ : M} (h : o.asks = true) : doO bad o σ = askM bad σ (need o) := by cases o <;> first | rfl | cases h
theorem Seg.ask (h : o.asks = true) {p : Prop} : Seg bad [o] (need o) 1 p := by
  intro os pre post st ys gs n eo hc hg
  have hat := at_pre eo
  have hng : o.isGuard = false := by cases o <;> first | rfl | cases h
  have hun : o = .unguard → gs ≠ [] := fun e => by rw [e] at h; cases h
  have hnd : need o ≤ (st ++ ys).length := by rw [List.length_append]; omega
  have hd := doO_asks (bad := bad) (σ := ⟨st ++ ys, gs, n⟩) h
  unfold askM at hd
  simp only [take_ap hc] at hd
  by_cases hb : (n : Int) ∈ bad
  · rw [if_pos hb] at hd
    refine .inr ⟨n + 1, Nat.le_succ _, fun _ => ⟨n, rfl, Nat.le_refl _, hb, fun j h1 h2 => absurd h1 (by omega)⟩, fun r k h => ?_⟩
    rcases h with ⟨rfl, rfl⟩ | ⟨g', q, k, rfl, h⟩
    · have := Run.fall (k := k) hat hng hnd hun (by rw [hd]) (by rw [hd])
      rw [hd] at this; exact this
    · exact .back hat hng hnd hun (by rw [hd]) (by rw [hd]) (by rw [hd]; exact h)
  · rw [if_neg hb] at hd
    refine .inl ⟨n + 1, [.s (Str.ofString "v")], rfl, Nat.le_succ _, fun _ j h1 h2 => by rw [show j = n by omega]; exact hb, fun r k h => ?_⟩
    exact .ok hat hng hnd hun (by rw [hd]) (by rw [hd]; exact h)
theorem Seg.push {v : SV} {p : Prop} : Seg bad [.push v] 0 1 p := by
  intro os pre post st ys gs n eo hc hg
  obtain rfl := List.length_eq_zero_iff.mp hc
  refine .inl ⟨n, [v], rfl, Nat.le_refl _, fun _ j h1 h2 => absurd h1 (by omega), fun r k h => .ok (at_pre eo) rfl (Nat.zero_le _) (fun e => by cases e) rfl ?_⟩
  simpa [doO] using h
theorem Seg.drop {p : Prop} : Seg bad [.drop] 1 0 p := by
  intro os pre post st ys gs n eo hc hg
  refine .inl ⟨n, [], rfl, Nat.le_refl _, fun _ j h1 h2 => absurd h1 (by omega), fun r k h => .ok (at_pre eo) rfl (by simp only [need, List.length_append]; omega) (fun e => by cases e) rfl ?_⟩
  show Run bad os k (pre.length + 1) ⟨(st ++ ys).take ((st ++ ys).length - 1), gs, n⟩ r
  rw [take_ap hc]; simpa using h
theorem Seg.neg {l : List O} {q : Prop} (S : Seg bad l 0 1 q) : Seg bad ([.guard (l.length + 3)] ++ l ++ [.unguard, .fail, .push (.s (Str.ofString ""))]) 0 1 False := by
  intro os pre post st ys gs n eo hc hg
  obtain rfl := List.length_eq_zero_iff.mp hc
  rw [List.append_nil]
  have hlen : ([O.guard (l.length + 3)] ++ l ++ [O.unguard, O.fail, .push (.s (Str.ofString ""))]).length = l.length + 4 := by simp only [List.length_append, List.length_cons, List.length_nil]; omega
  have hat : os[pre.length]? = some (.guard (l.length + 3)) := at_pre (post := l ++ [.unguard, .fail, .push (.s (Str.ofString ""))] ++ post) (by rw [eo]; simp only [List.append_assoc])
  have e3 : os = (pre ++ [O.guard (l.length + 3)] ++ l ++ [O.unguard, O.fail]) ++ [.push (.s (Str.ofString ""))] ++ post := by rw [eo]; simp [List.append_assoc]
  have hp := at_pre e3
  have hlp : (pre ++ [O.guard (l.length + 3)] ++ l ++ [O.unguard, O.fail]).length = pre.length + (l.length + 3) := by simp only [List.length_append, List.length_cons, List.length_nil]; omega
  rw [hlp] at hp
  have e1 : os = (pre ++ [O.guard (l.length + 3)] ++ l) ++ [O.unguard] ++ ([O.fail, .push (.s (Str.ofString ""))] ++ post) := by rw [eo]; simp [List.append_assoc]
  have hu := at_pre e1
  have hlu : (pre ++ [O.guard (l.length + 3)] ++ l).length = pre.length + 1 + l.length := by simp only [List.length_append, List.length_cons, List.length_nil]
  rw [hlu] at hu
  have e2 : os = (pre ++ [O.guard (l.length + 3)] ++ l ++ [O.unguard]) ++ [O.fail] ++ ([.push (.s (Str.ofString ""))] ++ post) := by rw [eo]; simp [List.append_assoc]
  have hf := at_pre e2
  have hlf : (pre ++ [O.guard (l.length + 3)] ++ l ++ [O.unguard]).length = pre.length + 1 + l.length + 1 := by simp only [List.length_append, List.length_cons, List.length_nil]
  rw [hlf] at hf
  have hgs : ∀ g ∈ gs ++ [(pre.length + (l.length + 3), st.length)], g.2 ≤ st.length := fun g h => by
    rcases List.mem_append.mp h with h | h
    · exact hg g h
    · rw [List.mem_singleton.mp h]; exact Nat.le_refl _
  rcases S os (pre ++ [O.guard (l.length + 3)]) ([.unguard, .fail, .push (.s (Str.ofString ""))] ++ post) st [] (gs ++ [(pre.length + (l.length + 3), st.length)]) n (by rw [eo]; simp only [List.append_assoc]) rfl hgs with ⟨n', xs, hx, hn, _, hr⟩ | ⟨n', hn, _, hr⟩
  · refine .inr ⟨n', hn, False.elim, fun r k h => ?_⟩
    have : Run bad os (k + 2) (pre.length + 1 + l.length) ⟨st ++ xs, gs ++ [(pre.length + (l.length + 3), st.length)], n'⟩ r := by
      have h' : Falls bad os (st ++ xs) gs n' r k := h.low hg
      rcases h' with ⟨rfl, rfl⟩ | ⟨g', q, k', rfl, h9⟩
      · exact .ok hu rfl (Nat.zero_le _) (fun _ => by simp) rfl (.fall (k := k) hf rfl (Nat.zero_le _) (fun e => by cases e) rfl rfl)
      · refine .ok hu rfl (Nat.zero_le _) (fun _ => by simp) rfl (.back (k := k) (g := g') (p := q) (h := k') hf rfl (Nat.zero_le _) (fun e => by cases e) rfl ?_ h9)
        show (g' ++ [(q, k')] ++ [_]).dropLast = _
        rw [List.dropLast_concat]
    have h2 := hr r _ (by rw [List.length_append]; exact this)
    rw [List.length_append, List.append_nil] at h2
    exact (Run.guard hat h2).mono (by rw [hlen]; omega)
  · refine .inl ⟨n', [.s (Str.ofString "")], rfl, hn, False.elim, fun r k h => ?_⟩
    rw [hlen] at h
    have h1 : Run bad os (k + 1) (pre.length + (l.length + 3)) ⟨st.take st.length, gs, n'⟩ r := by
      rw [List.take_length]
      exact .ok hp rfl (Nat.zero_le _) (fun e => by cases e) rfl (by simpa [doO, Nat.add_assoc] using h)
    have h2 := hr r _ (.inr ⟨_, _, _, rfl, h1⟩)
    rw [List.length_append, List.append_nil] at h2
    exact (Run.guard hat h2).mono (by rw [hlen]; omega)
end
/-- how many values the orders leave -/
noncomputable def cnt : Nat → T → Nat | 2, t => t.len | _, _ => 1
theorem seg_ords {bad : List Int} (t : T) : ∀ m, t.wf m → Seg bad (ords m t) 0 (cnt m t) (t.negs = 0) := by
  have A : ∀ {x y : T}, x.negs + y.negs = 0 → x.negs = 0 := fun h => by omega
  have B : ∀ {x y : T}, x.negs + y.negs = 0 → y.negs = 0 := fun h => by omega
  induction t with
  | name x =>
    intro m hw; rcases m with _ | _ | _ | m <;> first | exact False.elim hw | skip
    · exact Seg.ask rfl
    · exact Seg.ask rfl
  | text =>
    intro m hw; rcases m with _ | _ | _ | m <;> first | exact False.elim hw | skip
    · exact Seg.push
  | whole =>
    intro m hw; rcases m with _ | _ | _ | m <;> first | exact False.elim hw | skip
    · exact Seg.push
  | join a b ia ib =>
    intro m hw; rcases m with _ | _ | _ | m <;> first | exact False.elim hw | skip
    · exact ((ia 0 hw.1).seq ((ib 0 hw.2).above 1) A B).seq (Seg.ask (p := True) (o := .join) rfl) id fun _ => trivial
  | plus a b ia ib =>
    intro m hw; rcases m with _ | _ | _ | m <;> first | exact False.elim hw | skip
    · exact ((ia 0 hw.1).seq ((ib 0 hw.2).above 1) A B).seq (Seg.ask (p := True) (o := .binary) rfl) id fun _ => trivial
  | bar a b ia ib =>
    intro m hw; rcases m with _ | _ | _ | m <;> first | exact False.elim hw | skip
    · exact ((ia 0 hw.1).seq ((ib 0 hw.2).above 1) A B).seq (Seg.ask (p := True) (o := .binary) rfl) id fun _ => trivial
  | dot a b ia ib =>
    intro m hw; rcases m with _ | _ | _ | m <;> first | exact False.elim hw | skip
    · exact ((ia 0 hw.1).seq ((ib 1 hw.2).above 1) A B).seq (Seg.ask (p := True) (o := .given) rfl) id fun _ => trivial
  | neg a ia =>
    intro m hw; rcases m with _ | _ | _ | m <;> first | exact False.elim hw | skip
    ·
      have := Seg.neg (ia 0 hw)
      intro os pre post st ys gs n eo hc hg
      rcases this os pre post st ys gs n eo hc hg with ⟨n', xs, hx, hn, hf, hr⟩ | ⟨n', hn, hf, hr⟩
      · exact .inl ⟨n', xs, hx, hn, fun h => by simp [T.negs] at h, hr⟩
      · exact .inr ⟨n', hn, fun h => by simp [T.negs] at h, hr⟩
  | ques a ia =>
    intro m hw; rcases m with _ | _ | _ | m <;> first | exact False.elim hw | skip
    · exact (ia 0 hw).seq (Seg.seq (l := [.drop]) (Seg.drop (p := True)) (Seg.push (p := True)) (fun _ => trivial) (fun _ => trivial)) id (fun _ => trivial)
  | minus a ia =>
    intro m hw; rcases m with _ | _ | _ | m <;> first | exact False.elim hw | skip
    · exact (ia 0 hw).seq (Seg.ask (p := True) (o := .unary) rfl) id fun _ => trivial
  | doll a ia =>
    intro m hw; rcases m with _ | _ | _ | m <;> first | exact False.elim hw | skip
    · exact (ia 0 hw).seq (Seg.seq (l := [.indirect]) (Seg.ask (p := True) (o := .indirect) rfl) (Seg.ask (p := True) (o := .value) rfl) (fun _ => trivial) (fun _ => trivial)) id (fun _ => trivial)
    · exact (ia 0 hw).seq (Seg.ask (p := True) (o := .indirect) rfl) id fun _ => trivial
  | «at» a ia =>
    intro m hw; rcases m with _ | _ | _ | m <;> first | exact False.elim hw | skip
    · exact (ia 1 hw).seq (Seg.ask (p := True) (o := .cursor) rfl) id fun _ => trivial
  | item a r ia ir =>
    intro m hw; rcases m with _ | _ | _ | m <;> first | exact False.elim hw | skip
    ·
      have h2 := Seg.ask (bad := bad) (p := True) (o := .item r.len) rfl
      have e : need (.item r.len) = 1 + r.len := Nat.add_comm _ _
      rw [e] at h2
      exact ((ia 0 hw.1).seq ((ir 2 hw.2).above 1) A B).seq h2 id fun _ => trivial
  | call r ir =>
    intro m hw; rcases m with _ | _ | _ | m <;> first | exact False.elim hw | skip
    · exact (ir 2 hw).seq (Seg.ask (p := True) (o := .call r.len) rfl) id fun _ => trivial
  | r0 =>
    intro m hw; rcases m with _ | _ | _ | m <;> first | exact False.elim hw | skip
    · exact Seg.nil
  | r1 a ia =>
    intro m hw; rcases m with _ | _ | _ | m <;> first | exact False.elim hw | skip
    · exact ia 0 hw
  | r2 a b ia ib =>
    intro m hw; rcases m with _ | _ | _ | m <;> first | exact False.elim hw | skip
    · exact (ia 0 hw.1).seq ((ib 0 hw.2).above 1) A B
/-- the law's first half: what a row comes to -/
theorem runs_tree (bad : List Int) (t : T) (hw : t.wf 0) (n : Nat) :
    (∃ n' x, (t.negs = 0 → Free bad n n') ∧ n ≤ n' ∧ Run bad (ords 0 t) (ords 0 t).length 0 ⟨[], [], n⟩ (some ⟨[x], [], n'⟩, n')) ∨
    (∃ n', (t.negs = 0 → ∃ j : Nat, n' = j + 1 ∧ n ≤ j ∧ (j : Int) ∈ bad ∧ Free bad n j) ∧ Run bad (ords 0 t) (ords 0 t).length 0 ⟨[], [], n⟩ (none, n')) := by
  rcases seg_ords (bad := bad) t 0 hw (ords 0 t) [] [] [] [] [] n (by simp) rfl (fun _ h => nomatch h) with ⟨n', xs, hx, hn, hf, hr⟩ | ⟨n', _, hf, hr⟩
  · obtain ⟨x, rfl⟩ : ∃ x, xs = [x] := by
      match xs, hx with | [x], _ => exact ⟨x, rfl⟩
    refine .inl ⟨n', x, hf, hn, (hr _ 0 (.done (by simp))).mono (Nat.le_of_eq (Nat.zero_add _))⟩
  · exact .inr ⟨n', hf, (hr _ 0 (.inl ⟨rfl, rfl⟩)).mono (Nat.le_of_eq (Nat.zero_add _))⟩
end Mine
namespace Mine
section
variable {w : World} {dep : Nat} {Args : List Value} {Pre : Heap → Prop} {P : List (Addr × Obj)} {Post : Value → List (Addr × Obj) → Prop}
  {name qual : Str} {params : Arguments} {body : List Stmt} {scope : Scope} {dV kV doc pm cdv ct oc : Value} {an od : Option Addr} {osl : Array (Option Value)} {f : Addr} {binds : List (Str × Value)} {cl : List (Str × Addr)}

theorem fs_cells (ho : ∀ P, (Mine.hd.heap_39 P).lookup f = some ⟨oc, od, .func (fnOf name qual params body scope dV kV doc pm an cdv ct), osl⟩) (hcd : ∀ P, codeIn (Mine.hd.heap_39 P) cdv qual = true)
    (hbind : ∀ s, BindsTo s (fnOf name qual params body scope dV kV doc pm an cdv ct) ⟨Args, []⟩ binds) (hkind : (binds.all fun y => scope.names.lookup y.1 == some .local || scope.names.lookup y.1 == some .cell) = true)
    (hnd : ((cellsFrom 0 scope.names []).map (·.1)).Nodup)
    (h : ∀ (dp un : Nat) (gd : Option (List Code)) (outer : List Env) (base g : Heap) (s : Shared) (p : Program) (loose : List Str) (mean : ExcName → Option Value) (mg mb : Str → Option Value) (L : Addr) (h₁ : Heap) (tk : Nat) (cells : List (Addr × Obj)),
      Below (top dp un gd outer) base outer g → (Mine.hd.heap_39 w.params).In g → Top p loose mean mg mb g → Fr g L h₁ (bindL (envOfC qual scope L f cdv).kindOf binds fun _ => none) → News g L h₁ (cells ++ P) →
      CellsAre (bindC (envOfC qual scope L f cdv).kindOf binds fun _ => none) (cellsFrom (L + 1) scope.names []) cells → (∀ q ∈ P, q.1 < L) → Pre g → dp + dep < 900 → un + 5 * dep < 3000 →
      wpAny (model pw w) ((top dp un gd outer).deeper (envOfC qual scope L f cdv)) (execs body (envOfC qual scope L f cdv))
        (fun fl s' => Done g s Post (match fl with | .ret v => v | _ => .none) s') (fun _ _ => False) ⟨h₁, s.gens, s.drawn, tk, s.os⟩)
    (hco : scope.isCoroutine = false) (hgen : scope.isGenerator = false) (hk : scope.kind = .function) : FS w f dep Args Pre P Post := by
  intro dp un gd outer base g s R rd pre hd hu back
  obtain ⟨p, loose, mean, mg, mb, T⟩ := rd.top
  have hsub := rd.sub
  refine codeAny_call_function (by show dp < recursionLimit; simp only [recursionLimit]; omega) (hsub _ _ (rd.known _ _ (ho _))) rfl hco hgen rfl (codeRec_of (rd.known.keeps hsub) (hcd _)) (hbind s _ _ _ _ ?_)
  refine wpAny_newFunctionEnv_cells hk (kindsX hkind _) fun env' he s' x => ?_
  subst he
  refine ⟨(T.nolimit.keeps hsub).keeps x.toInCall.keep, codeAny_func ?_⟩
  obtain ⟨h₁, tk, rfl, _⟩ := x.done
  have hk₁ := x.toInCall.keep
  obtain ⟨cells, NC, Y⟩ := Cl.news (h₀ := s.heap) (Nat.le_refl _) fun n c hm => ⟨x.cell n c (lookup_of_mem_nodup (cellsFrom_names scope.names 0 (s.heap.objs.size + 1) [] [] rfl ▸ hnd) hm), x.above n c hm⟩
  refine wpAny_mono (h dp un gd outer base g s p loose mean mg mb s.heap.objs.size h₁ tk cells rd.below rd.known T ⟨x.toInCall.ns, fun b o e => hk₁ b o (hsub b o e), rd.size⟩ (fun q hq => ?_) Y (fun q hq => Heap.lt_size (rd.led q hq).1) pre hd hu) (fun fl s' D => D.back back) fun _ _ x => x.elim
  rcases List.mem_append.mp hq with hq | hq
  · refine ⟨(NC q hq).1, (NC q hq).2.1, ?_⟩
    cases e : g.get? q.1 with
    | none => rfl
    | some o => have := hsub _ _ e; rw [(NC q hq).2.2] at this; cases this
  · exact ⟨hk₁ _ _ (rd.led q hq).1, Nat.ne_of_lt (Heap.lt_size (rd.led q hq).1), (rd.led q hq).2⟩
/-- a closure's call: its object stands in the ground -/
theorem fs_clos (ho : ∀ g, Pre g → g.get? f = some ⟨oc, od, .func (fnX name qual params body scope cl dV kV doc pm an cdv ct), osl⟩) (hcd : ∀ g, Pre g → g.CodeRec cdv qual)
    (hbind : ∀ s, BindsTo s (fnX name qual params body scope cl dV kV doc pm an cdv ct) ⟨Args, []⟩ binds) (hloc : ∀ y ∈ binds, scope.names.lookup y.1 = some .local)
    (h : ∀ (dp un : Nat) (gd : Option (List Code)) (outer : List Env) (base g : Heap) (s : Shared) (p : Program) (loose : List Str) (mean : ExcName → Option Value) (mg mb : Str → Option Value) (L : Addr) (h₁ : Heap) (tk : Nat),
      Below (top dp un gd outer) base outer g → (Mine.hd.heap_39 w.params).In g → Top p loose mean mg mb g → Fr g L h₁ (fun y => binds.reverse.lookup y) → News g L h₁ P → Pre g → dp + dep < 900 → un + 5 * dep < 3000 →
      wpAny (model pw w) ((top dp un gd outer).deeper (envX qual scope L f cdv cl)) (execs body (envX qual scope L f cdv cl))
        (fun fl s' => Done g s Post (match fl with | .ret v => v | _ => .none) s') (fun _ _ => False) ⟨h₁, s.gens, s.drawn, tk, s.os⟩)
    (hco : scope.isCoroutine = false) (hgen : scope.isGenerator = false) (hk : scope.kind = .function) (hcell : ∀ x ∈ scope.names, x.2 ≠ .cell) : FS w f dep Args Pre P Post := by
  intro dp un gd outer base g s R rd pre hd hu back
  obtain ⟨p, loose, mean, mg, mb, T⟩ := rd.top
  have hsub := rd.sub
  have hcr : s.heap.CodeRec cdv qual := by
    obtain ⟨c, o, vs, t, e1, e2, e3, e4⟩ := hcd g pre
    exact ⟨c, o, vs, t, e1, hsub _ _ e2, e3, e4⟩
  refine codeAny_call_def (fd := fnX name qual params body scope cl dV kV doc pm an cdv ct) (body := body) (binds := binds) (by show dp < recursionLimit; simp only [recursionLimit]; omega) (hsub _ _ (ho g pre)) rfl
    (T.nolimit.keeps hsub) hcr rfl (hbind s) hcell hloc (fun h₁ hns hk₁ => ?_) hco hgen hk
  refine wpAny_mono (h dp un gd outer base g s p loose mean mg mb s.heap.objs.size h₁ _ rd.below rd.known T ⟨hns, fun b o e => hk₁ b o (hsub b o e), rd.size⟩
    (fun q hq => ⟨hk₁ _ _ (rd.led q hq).1, Nat.ne_of_lt (Heap.lt_size (rd.led q hq).1), (rd.led q hq).2⟩) pre hd hu) (fun fl s' D => D.back back) fun _ _ x => x.elim
end
noncomputable def RepPost (al : Addr) (its : Array Value) (word : Value) (bad : List Int) (r : Value) (P' : List (Addr × Obj)) : Prop :=
  (∃ k', P' = [(al, W.listOf (its.push word) k')]) ∧ (((its.size : Int) ∈ bad ∧ r = .none) ∨ ((its.size : Int) ∉ bad ∧ ∃ t, r = str "v" t))
/-- the def that answers -/
structure Rep (w : World) (f al bl : Addr) (HT : List (Addr × Obj)) : Prop where
  fn : ∃ oc od fd sl, (f, (⟨oc, od, .func fd, sl⟩ : Obj)) ∈ HT
  call : ∀ word parts its k bs kb bad, IntsAre bs bad → its.size < 90000 → FS w f 1 [word, parts] (fun g => (∀ q ∈ HT, g.get? q.1 = some q.2) ∧ g.get? bl = some (W.listOf bs.toArray kb)) [(al, W.listOf its k)] (RepPost al its word bad)
abbrev repQual : Str := Str.ofString "_law_replies.<locals>.replied"
abbrev tabOne (cc : Addr) : Obj := tabObj #[rawInt 282, rawInt 4, .ref cc]
noncomputable def TabP (Pt : List (Addr × Obj)) : Prop :=
  Pt = [(364, tabObj #[])] ∨ ∃ cc oc vs t, Pt = [(364, tabOne cc), (cc, oc)] ∧ oc.data = .fields vs ∧ vs[1]? = some (.str repQual t)
noncomputable def RepliesPost (w : World) (al bl : Addr) (r : Value) (P' : List (Addr × Obj)) : Prop :=
  ∃ f fo c1 o1 c2 o2 cc oc vs t, r = .ref f ∧ P' = [(f, fo), (cc, oc), (c1, o1), (c2, o2), (364, tabOne cc)] ∧ oc.data = .fields vs ∧ vs[1]? = some (.str repQual t) ∧ Rep w f al bl [(f, fo), (cc, oc), (c1, o1), (c2, o2)]
section
variable {prog : Program} {w : World} {A : Around} {E : Value → Shared → Prop} {hp : Heap} {gs : Array GenState} {dr : Drawn} {tk : Nat} {os : OsState} {h₀ : Heap} {L a : Addr} {m : Str → Option Value} {cn : Str} {cs : Scope} {ccd : Value} {cl : List (Str × Addr)} {x : Str} {pos : Pos} {v : Value} {Q : Value → Shared → Prop}
theorem name_free {c : Addr} {o : Obj} (F : Fr h₀ L hp m) (hc : cl.lookup x = some c) (hg : h₀.get? c = some o) (hd : o.data = .cell (some v)) (h : Q v ⟨hp, gs, dr, tk, os⟩)
    (hk : cs.kind = .function) (hx : (envX cn cs L a ccd cl).kindOf x = some .free) (hb : (x == ("__debug__" : Str)) = false) (hn : (x == ("__classdict__" : Str)) = false) :
    wpAny (model prog w) A (eval (.Name x pos) (envX cn cs L a ccd cl)) Q E ⟨hp, gs, dr, tk, os⟩ :=
  wpAny_Name (wpAny_loadName_free (s := ⟨hp, gs, dr, tk, os⟩) hk hx hc ⟨_, F.keep _ _ hg, hd⟩ h hn) hb
theorem in_bad {bl : Addr} {bs : List Value} {kb : Nat} {bad : List Int} {k : Int} {t : Tok} (F : Fr h₀ L hp m) (hg : h₀.get? bl = some (W.listOf bs.toArray kb)) (hi : IntsAre bs bad)
    (h : Q (.bool (bad.any (· == k))) ⟨hp, gs, dr, tk, os⟩) : wpAny (model prog w) A (compareOp .In (.int k t) (.ref bl)) Q E ⟨hp, gs, dr, tk, os⟩ :=
  PyProof.Rows.in_list_ints (s := ⟨hp, gs, dr, tk, os⟩) ⟨_, F.keep _ _ hg, rfl, _, rfl⟩ hi h
end
theorem news_rot {h₀ h : Heap} {L : Addr} {a b c d e : Addr × Obj} (N : News h₀ L h [a, b, c, d, e]) : News h₀ L h [a, e, b, c, d] := fun q hq => N q (by
  simp only [List.mem_cons, List.not_mem_nil, or_false] at hq ⊢
  rcases hq with h | h | h | h | h <;> simp only [h, true_or, or_true])
theorem mem_any {bad : List Int} {its : Array Value} {word : Value} (h : (bad.any fun x => x == ((its.push word).size : Int) - 1) = true) : (its.size : Int) ∈ bad := by
  obtain ⟨x, hx, e⟩ := List.any_eq_true.mp h
  rw [Array.size_push] at e
  have : x = (its.size : Int) := by have := eq_of_beq e; omega
  exact this ▸ hx
theorem not_mem_any {bad : List Int} {its : Array Value} {word : Value} (h : (bad.any fun x => x == ((its.push word).size : Int) - 1) = false) : (its.size : Int) ∉ bad := fun hx => by
  have := List.any_eq_false.mp h _ hx
  rw [Array.size_push] at this
  exact this (beq_iff_eq.mpr (by omega))
end Mine
set_option maxHeartbeats 40000000 in
theorem Mine.replies_fs {w : World} (al bl : Addr) (Pt : List (Addr × Obj)) (hPt : TabP Pt) : FS w 369 2 [.ref al, .ref bl] (fun g => CodeHd g 368 364) Pt (RepliesPost w al bl) := by
  w_top off
  k_with_none
  k_with "callWith ref" => (k_here; k_dflt (first | (refine' callWith_K ?k1z1 ?k2z1 ?_; (case k1z1 => k_asm); (case k2z1 => k_is); k_whole) | (refine' callWith_K0 ?k1z1 ?k2z1 ?_; (case k1z1 => k_in); (case k2z1 => k_is); k_whole)))
  k_with "binaryOp Add ref ref" => (k_here; with_reducible refine' Mine.add_mem ?Fz2 ?Nz2 ?az2 ?bz2 ?zz2 ?_; (case Fz2 => k_asm); (case Nz2 => k_asm); (case az2 => k_dflt k_mem); (case bz2 => k_dflt k_mem); (case zz2 => ((try dsimp only [Mine.T.size] at *); (try simp only [Array.size_append, List.size_toArray, List.length_cons, List.length_nil]); omega)); intro _ _ _ _ l1zz; (try k_lt l1zz); (try (revert l1zz; intro _)); (try k_sweep))
  k_with "call builtin:len" => (k_here; with_reducible refine' Mine.len_mem ?Nz3 ?mz3 ?ez3 ?zz3 ?_; (case Nz3 => k_asm); (case mz3 => k_dflt k_mem); (case ez3 => first | with_reducible assumption | exact rfl); (case zz3 => ((try dsimp only [Mine.T.size] at *); (try simp only [Array.size_push]); omega)); intro _ _)
  k_with "call builtin:len" => (k_here; with_reducible refine' Mine.len_tupN ?Tz4 ?ez4 ?zz4 ?_; (case Tz4 => k_dflt is_tup); (case ez4 => first | with_reducible assumption | exact rfl); (case zz4 => first | (k_dflt decide) | ((try dsimp only [Mine.T.size] at *); omega)); intro _ _)
  k_with "call builtin:list.extend" => (k_here; with_reducible refine' Mine.ext_mem ?Fz5 ?Nz5 ?bz5 ?Uz5 ?zz5 ?_; (case Fz5 => k_asm); (case Nz5 => k_asm); (case bz5 => k_dflt k_mem); (case Uz5 => k_dflt k_updF); (case zz5 => ((try dsimp only [Mine.T.size] at *); (try simp only [Array.size_append, List.size_toArray, List.length_cons, List.length_nil]); omega)); intro _ _ _ Nqzz; (try dsimp only at Nqzz); (try (revert Nqzz; intro _)); (try k_sweep))
  k_with "call ref" => (k_here; (with_reducible show wpAny _ _ (PySem.call (Value.ref 296) _) _ _ _); k_dflt (refine' Mine.ord_call ?Iz6 ?Bz6 ?Fz6 ?Xz6 ?Nz6 ?Tz6 ?rz6 ?kz6 ?fz6 ?ez6 ?sz6 ?wz6 ?dz6 ?uz6 ?_; (case Iz6 => assumption); (case Bz6 => k_asm); (case Fz6 => k_asm); (case Xz6 => k_asm); (case Nz6 => k_asm); (case Tz6 => k_asm); (case rz6 => assumption); (case kz6 => first | exact fun _ _ e => e | exact Fr.keep (by assumption) | exact fun _ _ e => Fr.keep (by assumption) _ _ (Fr.keep (by assumption) _ _ e)); (case fz6 => exact rfl); (case ez6 => exact rfl); (case sz6 => ((try dsimp only [Mine.T.size] at *); omega)); (case wz6 => first | assumption | exact And.left (by assumption) | exact And.right (by assumption)); (case dz6 => ((try dsimp only [Mine.T.size] at *); (try dsimp only [depth_deeper, Mine.top]); (first | exact Mine.rm2 (by assumption) rfl | exact Mine.rm_tree (by assumption) | exact Mine.rm_ord (by assumption) (Nat.succ_le_succ (Nat.le_add_right _ _)) | exact Mine.rm_ord (by assumption) (Nat.succ_le_succ (Nat.le_add_left _ _)) | exact Mine.rm_ord (by assumption) (Nat.le_refl _) | omega))); (case uz6 => ((try dsimp only [Mine.T.size] at *); (try dsimp only [units_deeper, units_in1, Mine.top]); (first | exact Mine.rm2 (by assumption) rfl | exact Mine.rm_treeu (by assumption) | exact Mine.rm_ordu (by assumption) (Nat.succ_le_succ (Nat.le_add_right _ _)) | exact Mine.rm_ordu (by assumption) (Nat.succ_le_succ (Nat.le_add_left _ _)) | exact Mine.rm_ordu (by assumption) (Nat.le_refl _) | omega)))); intro _ _ _ _ _ _ _ _ _ _ _ _ _; (try k_sweep))
  k_with "call ref" => (k_here; (with_reducible show wpAny _ _ (PySem.call (Value.ref 303) _) _ _ _); k_dflt (refine' Mine.fs_call0 (mo := 2) ?Iz7 ?Bz7 ?Fz7 ?Xz7 ?Nz7 ?Tz7 ?rz7 ?kz7 ?fz7 ?ez7 ?dz7 ?uz7 ?_; (case Iz7 => assumption); (case Bz7 => k_asm); (case Fz7 => k_asm); (case Xz7 => k_asm); (case Nz7 => k_asm); (case Tz7 => k_asm); (case rz7 => assumption); (case kz7 => first | exact fun _ _ e => e | exact Fr.keep (by assumption) | exact fun _ _ e => Fr.keep (by assumption) _ _ (Fr.keep (by assumption) _ _ e)); (case fz7 => exact rfl); (case ez7 => exact rfl); (case dz7 => ((try dsimp only [Mine.T.size] at *); (try dsimp only [depth_deeper, Mine.top]); (first | exact Mine.rm2 (by assumption) rfl | exact Mine.rm_tree (by assumption) | exact Mine.rm_ord (by assumption) (Nat.succ_le_succ (Nat.le_add_right _ _)) | exact Mine.rm_ord (by assumption) (Nat.succ_le_succ (Nat.le_add_left _ _)) | exact Mine.rm_ord (by assumption) (Nat.le_refl _) | omega))); (case uz7 => ((try dsimp only [Mine.T.size] at *); (try dsimp only [units_deeper, units_in1, Mine.top]); (first | exact Mine.rm2 (by assumption) rfl | exact Mine.rm_treeu (by assumption) | exact Mine.rm_ordu (by assumption) (Nat.succ_le_succ (Nat.le_add_right _ _)) | exact Mine.rm_ordu (by assumption) (Nat.succ_le_succ (Nat.le_add_left _ _)) | exact Mine.rm_ordu (by assumption) (Nat.le_refl _) | omega)))); intro _ _ _ _ _ _ _ _ _ _ _ _ _; (try k_sweep))
  k_with "call ref" => (k_here; (with_reducible show wpAny _ _ (PySem.call (Value.ref 338) _) _ _ _); k_dflt (refine' Mine.fs_pure ?Iz8 ?Bz8 ?Fz8 ?Xz8 ?Nz8 ?Tz8 ?rz8 ?fz8 ?ez8 ?dz8 ?uz8 ?_; (case Iz8 => assumption); (case Bz8 => k_asm); (case Fz8 => k_asm); (case Xz8 => k_asm); (case Nz8 => k_asm); (case Tz8 => k_asm); (case rz8 => exact fun g' hk _ => Mine.RO.mono (by assumption) hk); (case fz8 => exact rfl); (case ez8 => exact rfl); (case dz8 => ((try dsimp only [depth_deeper, Mine.top]); (first | exact Mine.rm2 (by assumption) rfl | exact Mine.rm_tree (by assumption) | exact Mine.rm_ord (by assumption) (Nat.succ_le_succ (Nat.le_add_right _ _)) | exact Mine.rm_ord (by assumption) (Nat.succ_le_succ (Nat.le_add_left _ _)) | exact Mine.rm_ord (by assumption) (Nat.le_refl _) | omega))); (case uz8 => ((try dsimp only [units_deeper, units_in1, Mine.top]); (first | exact Mine.rm2 (by assumption) rfl | exact Mine.rm_treeu (by assumption) | exact Mine.rm_ordu (by assumption) (Nat.succ_le_succ (Nat.le_add_right _ _)) | exact Mine.rm_ordu (by assumption) (Nat.succ_le_succ (Nat.le_add_left _ _)) | exact Mine.rm_ordu (by assumption) (Nat.le_refl _) | omega)))); intro _ _ _ _ _ eqzz; (obtain ⟨tqzz, eqzz⟩ := eqzz; subst eqzz); (try (revert tqzz; intro _)); (try k_sweep))
  k_with "call builtin:isinstance" => (k_here; with_reducible refine' Mine.isi_tup ?Tz9 ?_; (case Tz9 => k_dflt is_tup); intro _)
  k_with "execs cons" => (k_here; first | (with_reducible refine' Mine.skip_if0 ?Fz10 ?vz10 ?bz10 ?_ ?x1z10 ?x2z10 ?x3z10; (case Fz10 => k_asm); (case vz10 => k_dflt exact rfl); (case bz10 => k_dflt decide); (case x1z10 => k_dflt exact rfl); (case x2z10 => k_dflt exact rfl); (case x3z10 => k_dflt decide); intro _) | (with_reducible refine' Mine.skip_or0 ?Fz10 ?vz10 ?bz10 ?b2z10 ?_ ?x1z10 ?x2z10 ?x3z10; (case Fz10 => k_asm); (case vz10 => k_dflt exact rfl); (case bz10 => k_dflt decide); (case b2z10 => k_dflt decide); (case x1z10 => k_dflt exact rfl); (case x2z10 => k_dflt exact rfl); (case x3z10 => k_dflt decide); intro _) | (with_reducible refine' Mine.take_if0 ?Fz10 ?vz10 ?bz10 ?_ ?x1z10 ?x2z10 ?x3z10; (case Fz10 => k_asm); (case vz10 => k_dflt exact rfl); (case bz10 => k_dflt decide); (case x1z10 => k_dflt exact rfl); (case x2z10 => k_dflt exact rfl); (case x3z10 => k_dflt decide); intro _))
  k_with "execs cons" => (k_here; first | (with_reducible refine' Mine.skip_in0 ?Fz11 ?Nz11 ?vz11 ?sz11 ?nz11 ?bz11 ?mz11 ?_ ?x1z11 ?x2z11 ?x3z11; (case Fz11 => k_asm); (case Nz11 => k_asm); (case vz11 => k_dflt exact rfl); (case sz11 => k_dflt exact rfl); (case nz11 => k_dflt decide); (case bz11 => k_dflt decide); (case mz11 => k_dflt exact rfl); (case x1z11 => k_dflt exact rfl); (case x2z11 => k_dflt exact rfl); (case x3z11 => k_dflt decide); intro _ _ _ _; (try k_sweep)) | (with_reducible refine' Mine.take_in0 ?Fz11 ?Nz11 ?vz11 ?sz11 ?nz11 ?bz11 ?mz11 ?_ ?x1z11 ?x2z11 ?x3z11; (case Fz11 => k_asm); (case Nz11 => k_asm); (case vz11 => k_dflt exact rfl); (case sz11 => k_dflt exact rfl); (case nz11 => k_dflt decide); (case bz11 => k_dflt decide); (case mz11 => k_dflt exact rfl); (case x1z11 => k_dflt exact rfl); (case x2z11 => k_dflt exact rfl); (case x3z11 => k_dflt decide); intro _ _ _ _; (try k_sweep)))
  k_with "eval Subscript Name Constant" => (k_here; with_reducible refine' Mine.item_tup0 ?Fz12 ?vz12 ?tz12 ?loz12 ?hiz12 ?jz12 ?uz12 ?_ ?x1z12 ?x2z12 ?x3z12; (case Fz12 => k_asm); (case vz12 => k_dflt exact rfl); (case tz12 => k_dflt is_tup); (case loz12 => k_dflt decide); (case hiz12 => k_dflt decide); (case jz12 => k_dflt exact rfl); (case uz12 => k_dflt exact rfl); (case x1z12 => k_dflt exact rfl); (case x2z12 => k_dflt exact rfl); (case x3z12 => k_dflt decide); intro _)
  k_with "eval Name" => (k_here; k_dflt (refine' Mine.name_free ?Fz15 ?cz15 ?gz15 ?dz15 ?_ ?kz15 ?xz15 ?bz15 ?nz15; (case Fz15 => k_asm); (case cz15 => exact rfl); (case gz15 => assumption); (case dz15 => assumption); (case kz15 => exact rfl); (case xz15 => exact rfl); (case bz15 => decide); (case nz15 => decide)))
  k_with "compareOp In int ref" => (k_here; k_dflt (refine' Mine.in_bad ?Fz16 ?gz16 ?iz16 ?_; (case Fz16 => k_asm); (case gz16 => assumption); (case iz16 => assumption)))
  refine' Mine.fs_cells (binds := [(Str.ofString "asked", .ref al), (Str.ofString "bad", .ref bl)]) ?ho ?hcd ?hb ?hl ?hn ?h ?c2 ?c3 ?c4
  case ho => (intro P; k_dflt k_is)
  case hcd => (intro P; k_dflt k_is)
  case hb => (intro s; exact BindsTo.of_eq rfl)
  case hl => exact rfl
  case hn => decide +kernel
  case c2 => exact rfl
  case c3 => exact rfl
  case c4 => exact rfl
  case h =>
  intro dp un gd outer base g s p loose mean mg mb L' h' tk cells B' X' T' F' N' Y' l1 pre hd hu
  k_cells Y'
  simp only [List.cons_append, List.nil_append] at N'
  try dsimp only
  rcases hPt with rfl | ⟨cc, oc, vs, t, rfl, hoc, hvs⟩
  · k_lt l1
    with_reducible show wpAny _ _ _ _ _ _
    k_fold; k_steps
    (show Done _ _ _ _ _)
    rename_i o1 o2 e1 e2 f c oc vs t ct dc h1 tk1 d1 d2 l1 l2 h2 F N
    refine ⟨_, _, _, F, N, ⟨f, _, _, _, _, _, c, oc, vs, t, rfl, rfl, d1, d2, ?_⟩, rfl⟩
    clear F N l1 l2 B' X' T' pre hd hu
    refine ⟨⟨_, _, _, _, .head _⟩, ?_⟩
    intro word parts its k bs kb bad hbs hsz
    refine' Mine.fs_clos (binds := [(Str.ofString "word", word), (Str.ofString "parts", parts)]) ?ho ?hcd ?hb ?hl ?h ?c2 ?c3 ?c4 ?c5
    case ho => exact fun g h => h.1 _ (.head _)
    case hcd => exact fun g h => ⟨_, _, _, _, rfl, h.1 _ (.tail _ (.head _)), d1, d2⟩
    case hb => (intro s; exact BindsTo.of_eq rfl)
    case hl => exact locs rfl
    case c5 => decide
    case c2 => exact rfl
    case c3 => exact rfl
    case c4 => exact rfl
    case h =>
    intro dp un gd outer base g s p loose mean mg mb L' h' tk B' X' T' F' N' pre hd hu
    have gc1 := pre.1 _ (.tail _ (.tail _ (.head _)))
    have gc2 := pre.1 _ (.tail _ (.tail _ (.tail _ (.head _))))
    have gbl := pre.2
    try dsimp only
    with_reducible show wpAny _ _ _ _ _ _
    k_fold; k_steps
    · (show Done _ _ _ _ _); exact ⟨_, _, _, (by k_asm), (by k_asm), ⟨⟨_, rfl⟩, .inl ⟨mem_any (by assumption), rfl⟩⟩, rfl⟩
    · (show Done _ _ _ _ _); exact ⟨_, _, _, (by k_asm), (by k_asm), ⟨⟨_, rfl⟩, .inr ⟨not_mem_any (by assumption), _, rfl⟩⟩, rfl⟩
  · k_lt l1
    with_reducible show wpAny _ _ _ _ _ _
    k_fold; k_steps
    (show Done _ _ _ _ _)
    rename_i o1 o2 e1 e2 f ct dc h1 tk1 l1 h2 F N
    have N := news_rot N
    refine ⟨_, _, _, F, N, ⟨f, _, _, _, _, _, cc, oc, vs, t, rfl, rfl, hoc, hvs, ?_⟩, rfl⟩
    clear F N l1 B' X' T' pre hd hu
    refine ⟨⟨_, _, _, _, .head _⟩, ?_⟩
    intro word parts its k bs kb bad hbs hsz
    refine' Mine.fs_clos (binds := [(Str.ofString "word", word), (Str.ofString "parts", parts)]) ?ho ?hcd ?hb ?hl ?h ?c2 ?c3 ?c4 ?c5
    case ho => exact fun g h => h.1 _ (.head _)
    case hcd => exact fun g h => ⟨_, _, _, _, rfl, h.1 _ (.tail _ (.head _)), hoc, hvs⟩
    case hb => (intro s; exact BindsTo.of_eq rfl)
    case hl => exact locs rfl
    case c5 => decide
    case c2 => exact rfl
    case c3 => exact rfl
    case c4 => exact rfl
    case h =>
    intro dp un gd outer base g s p loose mean mg mb L' h' tk B' X' T' F' N' pre hd hu
    have gc1 := pre.1 _ (.tail _ (.tail _ (.head _)))
    have gc2 := pre.1 _ (.tail _ (.tail _ (.tail _ (.head _))))
    have gbl := pre.2
    try dsimp only
    with_reducible show wpAny _ _ _ _ _ _
    k_fold; k_steps
    · (show Done _ _ _ _ _); exact ⟨_, _, _, (by k_asm), (by k_asm), ⟨⟨_, rfl⟩, .inl ⟨mem_any (by assumption), rfl⟩⟩, rfl⟩
    · (show Done _ _ _ _ _); exact ⟨_, _, _, (by k_asm), (by k_asm), ⟨⟨_, rfl⟩, .inr ⟨not_mem_any (by assumption), _, rfl⟩⟩, rfl⟩
namespace Mine
noncomputable def NeA (a b : Addr) : Prop := a ≠ b
theorem NeA.out {a b : Addr} (h : NeA a b) : a ≠ b := h
theorem NeA.out' {a b : Addr} (h : NeA a b) : b ≠ a := Ne.symm h
theorem NeA.lt {a b : Addr} (h : @LT.lt Nat _ a b) : NeA a b := Nat.ne_of_lt h
theorem NeA.gt {a b : Addr} (h : @LT.lt Nat _ b a) : NeA a b := Nat.ne_of_gt h
noncomputable def Dist : List Addr → Prop
  | [] => True
  | a :: r => (∀ b ∈ r, NeA a b) ∧ Dist r
theorem updF_rest {d : Addr} {o : Obj} {l : List (Addr × Obj)} {f : Obj → List (Addr × Obj)} (U : UpdF d o l f) : (d, o) ∈ l ∧ ∃ R : List (Addr × Obj), (∀ q ∈ R, q ∈ l ∧ q.1 ≠ d) ∧ ∀ o', ∀ q ∈ f o', q = (d, o') ∨ q ∈ R := by
  induction U with
  | head h => exact ⟨.head _, _, fun q hq => ⟨.tail _ hq, h q hq⟩, fun o' q hq => (List.mem_cons.mp hq).elim .inl .inr⟩
  | @tail q' r g h _ i =>
    obtain ⟨i1, R, i2, i3⟩ := i
    refine ⟨.tail _ i1, q' :: R, fun q hq => ?_, fun o' q hq => ?_⟩
    · rcases List.mem_cons.mp hq with rfl | hq
      · exact ⟨.head _, h⟩
      · exact ⟨.tail _ (i2 q hq).1, (i2 q hq).2⟩
    · rcases List.mem_cons.mp hq with rfl | hq
      · exact .inr (.head _)
      · exact (i3 o' q hq).imp id fun z => .tail _ z
section
variable {w : World} {A : Around} {base h₀ g₀ : Heap} {outer : List Env} {L : Addr} {m : Str → Option Value} {env : Env} {news R : List (Addr × Obj)} {hp : Heap} {gs : Array GenState} {dr : Drawn} {tk : Nat} {os : OsState} {p : Program} {loose : List Str} {mean : ExcName → Option Value} {mg mb : Str → Option Value}
  {A₀ : Around} {dp un : Nat} {gd : Option (List Code)} {Q E : Value → Shared → Prop}
/-- the answering def is called -/
theorem clos_call {f al bl : Addr} {HT : List (Addr × Obj)} {bs : List Value} {kb k : Nat} {bad : List Int} {its : Array Value} {word parts : Value} {fN : Obj → List (Addr × Obj)} (C : Rep w f al bl HT) (hHT : (∀ q ∈ HT, g₀.get? q.1 = some q.2) ∧ g₀.get? bl = some (W.listOf bs.toArray kb)) (hk : ∀ b o, g₀.get? b = some o → h₀.get? b = some o) (hbs : IntsAre bs bad) (hsz : its.size < 90000)
    (B : Below A₀ base outer h₀) (F : Fr h₀ L hp m) (X : (Mine.hd.heap_39 w.params).In h₀) (N : News h₀ L hp news) (T : Top p loose mean mg mb h₀) (U : UpdF al (W.listOf its k) news fN)
    (hf : env.frame = some L) (hke : env.scope.kind = .function) (hd : dp + 1 < 900) (hu : un + 5 * 1 < 3000)
    (ret : ∀ r h' tk' k', Fr h₀ L h' m → News h₀ L h' (fN (W.listOf (its.push word) k')) → (((its.size : Int) ∈ bad ∧ r = .none) ∨ ((its.size : Int) ∉ bad ∧ ∃ t, r = str "v" t)) → Q r ⟨h', gs, dr, tk', os⟩) :
    wpAny (model pw w) (top dp un gd (env :: outer)) (call (.ref f) [word, parts]) Q E ⟨hp, gs, dr, tk, os⟩ := by
  obtain ⟨hm, R, hR, hN⟩ := updF_rest U
  refine call_fs (R := R) (C.call word parts its k bs kb bad hbs hsz) B F X N T hf hke (fun q hq => ?_) (fun q hq => ⟨(hR q hq).1, fun r hr => ?_⟩) hd hu (fun g' _ hk' => ⟨fun q hq => hk' _ _ (hk _ _ (hHT.1 q hq)), hk' _ _ (hk _ _ hHT.2)⟩) ?_
  · rw [List.mem_singleton.mp hq]; exact hm
  · rw [List.mem_singleton.mp hr]; exact (hR q hq).2
  intro r h' tk' P' F' N' _ _ hp
  obtain ⟨⟨k', rfl⟩, hr⟩ := hp
  exact ret r h' tk' k' F' (fun q hq => N' q ((hN _ q hq).elim (fun e => by rw [e]; exact .head _) fun z => List.mem_append_right _ z)) hr
end
abbrev wdict (w : World) (S G : Addr) (k1 k2 k3 k4 : Tok) : Obj := dictOf [⟨PyData.keyHash w.params (Str.ofString "stack"), str "stack" k1, .ref S⟩, ⟨PyData.keyHash w.params (Str.ofString "guards"), str "guards" k2, .ref G⟩, ⟨PyData.keyHash w.params (Str.ofString "found"), str "found" k3, .none⟩, ⟨PyData.keyHash w.params (Str.ofString "goal"), str "goal" k4, .none⟩] 4
abbrev hdict (w : World) (f : Addr) (lab nts : Value) (q1 q2 q3 : Tok) : Obj := dictOf [⟨PyData.keyHash w.params (Str.ofString "replies"), str "replies" q1, .ref f⟩, ⟨PyData.keyHash w.params (Str.ofString "labels"), str "labels" q2, lab⟩, ⟨PyData.keyHash w.params (Str.ofString "notes"), str "notes" q3, nts⟩] 3
/-- the hooks' addresses -/
structure Hk where
  (H HD f al bl : Addr) (lab nts : Value) (q1 q2 q3 : Tok) (HT : List (Addr × Obj)) (bs : List Value) (kb : Nat) (bad : List Int)
/-- the work's addresses -/
structure Wk where
  (W D G : Addr) (k1 k2 k3 k4 : Tok)
structure Hk.Ok (K : Hk) (w : World) : Prop where
  rep : Rep w K.f K.al K.bl K.HT
  isi : IntsAre K.bs K.bad
  ne1 : NeA K.H K.HD
  ne2 : NeA K.H K.al
  ne3 : NeA K.HD K.al
noncomputable def Hk.pre (K : Hk) (g : Heap) : Prop := (∀ q ∈ K.HT, g.get? q.1 = some q.2) ∧ g.get? K.bl = some (W.listOf K.bs.toArray K.kb)
noncomputable def Hk.led (K : Hk) (w : World) (as : Array Value) (ka : Nat) : List (Addr × Obj) := [(K.H, instObj 250 K.HD), (K.HD, hdict w K.f K.lab K.nts K.q1 K.q2 K.q3), (K.al, W.listOf as ka)]
noncomputable def Wk.led (V : Wk) (w : World) (S : Addr) (st gs : Array Value) (ks kg : Nat) : List (Addr × Obj) := [(V.W, instObj 103 V.D), (V.D, wdict w S V.G V.k1 V.k2 V.k3 V.k4), (S, W.listOf st ks), (V.G, W.listOf gs kg)]
noncomputable def Wk.sled (V : Wk) (w : World) (S : Addr) (st : Array Value) (ks : Nat) : List (Addr × Obj) := [(V.W, instObj 103 V.D), (V.D, wdict w S V.G V.k1 V.k2 V.k3 V.k4), (S, W.listOf st ks)]
noncomputable def PushPost (w : World) (V : Wk) (S : Addr) (st : Array Value) (v r : Value) (P' : List (Addr × Obj)) : Prop :=
  (v = .none ∧ r = .bool false ∧ ∃ k', P' = V.sled w S st k') ∨ (v ≠ .none ∧ r = .bool true ∧ ∃ k', P' = V.sled w S (st.push v) k')
noncomputable def PopPost (w : World) (V : Wk) (S : Addr) (st : Array Value) (r : Value) (P' : List (Addr × Obj)) : Prop :=
  ∃ k', st.toList.getLast? = some r ∧ P' = V.sled w S st.pop k'
noncomputable def TkPost (w : World) (V : Wk) (st : Array Value) (k : Nat) (r : Value) (P' : List (Addr × Obj)) : Prop :=
  ∃ S' ks' D its kd, r = .ref D ∧ P' = V.sled w S' (st.toList.take (st.size - k)).toArray ks' ++ [(D, W.listOf its kd)] ∧ NeA V.W S' ∧ NeA V.D S'
noncomputable def Hk.ans (K : Hk) (n : Nat) (r : Value) : Prop := ((n : Int) ∈ K.bad ∧ r = .none) ∨ ((n : Int) ∉ K.bad ∧ ∃ t, r = str "v" t)
noncomputable def HookPost (w : World) (K : Hk) (n : Nat) (r : Value) (P' : List (Addr × Obj)) : Prop := ∃ as' k', P' = K.led w as' k' ∧ as'.size = n + 1 ∧ K.ans n r
inductive RSs : List Value → List SV → Prop
  | nil : RSs [] []
  | cons {v x vs xs} : RS v x → RSs vs xs → RSs (v :: vs) (x :: xs)
theorem RSs.length {vs : List Value} {xs : List SV} (h : RSs vs xs) : vs.length = xs.length := by induction h with | nil => rfl | cons _ _ i => simp [i]
theorem RSs.snoc {vs : List Value} {xs : List SV} {v : Value} {x : SV} (h : RSs vs xs) (k : RS v x) : RSs (vs ++ [v]) (xs ++ [x]) := by induction h with | nil => exact .cons k .nil | cons h _ i => exact .cons h i
theorem RSs.take {vs : List Value} {xs : List SV} (h : RSs vs xs) (n : Nat) : RSs (vs.take n) (xs.take n) := by
  induction h generalizing n with
  | nil => simp; exact .nil
  | cons h _ i => cases n with | zero => exact .nil | succ n => exact .cons h (i n)
theorem news_sub {h₀ h : Heap} {L : Addr} {l l' : List (Addr × Obj)} (N : News h₀ L h l) (h' : ∀ q ∈ l', q ∈ l) : News h₀ L h l' := fun q hq => N q (h' q hq)
theorem fnAt_fr {q L : Addr} {g h : Heap} {m : Str → Option Value} (F : Fr g L h m) (X : FnAt q g) : FnAt q h := by
  obtain ⟨a, b, c, d, e⟩ := X
  exact ⟨a, b, c, d, F.keep _ _ e⟩
theorem fnAt_rep {w : World} {f al bl : Addr} {HT : List (Addr × Obj)} {g : Heap} (C : Rep w f al bl HT) (h : ∀ q ∈ HT, g.get? q.1 = some q.2) : FnAt f g := by
  obtain ⟨a, b, c, d, e⟩ := C.fn
  exact ⟨a, b, c, d, h _ e⟩
section
variable {w : World} {A : Around} {base h₀ g₀ : Heap} {outer : List Env} {L : Addr} {m : Str → Option Value} {env : Env} {news R : List (Addr × Obj)} {hp : Heap} {gs : Array GenState} {dr : Drawn} {tk : Nat} {os : OsState} {p : Program} {loose : List Str} {mean : ExcName → Option Value} {mg mb : Str → Option Value}
  {A₀ : Around} {dp un dep : Nat} {gd : Option (List Code)} {Q E : Value → Shared → Prop} {f : Addr} {args : List Value} {K : Hk} {as : Array Value} {ka : Nat}
/-- a hook is called -/
theorem hook_call (S : FS w f dep args K.pre (K.led w as ka) (HookPost w K as.size)) (hpre : K.pre g₀) (hk : ∀ b o, g₀.get? b = some o → h₀.get? b = some o)
    (B : Below A₀ base outer h₀) (F : Fr h₀ L hp m) (X : (Mine.hd.heap_39 w.params).In h₀) (N : News h₀ L hp news) (T : Top p loose mean mg mb h₀)
    (hm : ∀ q ∈ K.led w as ka, q ∈ news) (hR : ∀ q ∈ R, q ∈ news ∧ q.1 ≠ K.H ∧ q.1 ≠ K.HD ∧ q.1 ≠ K.al)
    (hf : env.frame = some L) (hke : env.scope.kind = .function) (hd : dp + dep < 900) (hu : un + 5 * dep < 3000)
    (ret : ∀ r h' tk' as' k', Fr h₀ L h' m → News h₀ L h' (K.led w as' k' ++ R) → as'.size = as.size + 1 → K.ans as.size r → Q r ⟨h', gs, dr, tk', os⟩) :
    wpAny (model pw w) (top dp un gd (env :: outer)) (call (.ref f) args) Q E ⟨hp, gs, dr, tk, os⟩ := by
  refine call_fs (R := R) S B F X N T hf hke hm (fun q hq => ⟨(hR q hq).1, fun r hr => ?_⟩) hd hu (fun g' _ hk' => ⟨fun q hq => hk' _ _ (hk _ _ (hpre.1 q hq)), hk' _ _ (hk _ _ hpre.2)⟩) ?_
  · obtain ⟨_, n1, n2, n3⟩ := hR q hq
    simp only [Hk.led, List.mem_cons, List.not_mem_nil, or_false] at hr
    rcases hr with rfl | rfl | rfl <;> assumption
  intro r h' tk' P' F' N' _ _ hp
  obtain ⟨as', k', rfl, h1, h2⟩ := hp
  exact ret r h' tk' as' k' F' N' h1 h2
end
section
variable {prog : Program} {w : World} {A : Around} {E : Value → Shared → Prop} {hp : Heap} {gs : Array GenState} {dr : Drawn} {tk : Nat} {os : OsState} {h₀ : Heap} {L l D : Addr} {m : Str → Option Value} {news : List (Addr × Obj)} {its zs : Array Value} {n : Nat} {vl vu : Value} {lo hi : Option Int} {value slice : PySem.Expr}
theorem pop_any {f : Obj → List (Addr × Obj)} {Q : Value → Shared → Prop} (F : Fr h₀ L hp m) (N : News h₀ L hp news) (U : UpdF D (W.listOf its n) news f) (hpos : 0 < its.size) (hz : its.size ≤ 100000)
    (h : ∀ h' y, Fr h₀ L h' m → News h₀ L h' (f (W.listOf its.pop (n + 1))) → its.toList.getLast? = some y → Q y ⟨h', gs, dr, tk, os⟩) : wpAny (model prog w) A (call (.builtin "list.pop") [.ref D]) Q E ⟨hp, gs, dr, tk, os⟩ := by
  have hne : its.toList ≠ [] := fun e => by
    have : its.toList.length = 0 := by rw [e]; rfl
    rw [Array.length_toList] at this; omega
  have e1 : its.toList = its.toList.dropLast ++ [its.toList.getLast hne] := (List.dropLast_concat_getLast hne).symm
  have U' := updF_upd (o' := W.listOf its.toList.dropLast.toArray (n + 1)) U
  refine kl_pop (s := ⟨hp, gs, dr, tk, os⟩) F N (p := its.toList.dropLast) (y := its.toList.getLast hne) ?_ U' (by rw [Array.length_toList, sizeLine_eq]; omega) fun h' F' N' => ?_
  · rw [show kl_last its.toList = kl_last (its.toList.dropLast ++ [its.toList.getLast hne]) from congrArg kl_last e1]; exact kpa_last _ _
  · refine h h' _ F' ?_ (List.getLast?_eq_some_getLast hne)
    have : its.toList.dropLast.toArray = its.pop := by rw [← Array.toList_pop]
    rw [← this]; exact N'
theorem slice_mem {Q : Value → Shared → Prop} (F : Fr h₀ L hp m) (N : News h₀ L hp news) (hm : (l, W.listOf its n) ∈ news) (pl : IsPart vl lo) (pu : IsPart vu hi) (e : slicePick its lo hi none = zs) (hz : its.size ≤ 100000)
    (h : ∀ D h', Fr h₀ L h' m → News h₀ L h' ((D, W.listOf zs 0) :: news) → (∀ p ∈ news, p.1 < D) → Q (.ref D) ⟨h', gs, dr, tk, os⟩)
    (hs : subscripted slice false (.ref l) (.ref hp.objs.size) = operate [.ref hp.objs.size, .ref l] (getItem (.ref l) (.ref hp.objs.size))) (ht : ∀ r, letTemporaryGo value (.ref l) r = pure ()) :
    wpAny (model prog w) A (subscriptTail value slice (.ref l) (.ref hp.objs.size)) Q E ⟨hp.push { cls := .type "slice", data := .fields #[vl, vu, .none] }, gs, dr, tk, os⟩ := by
  subst e
  exact kmk_slice (s := ⟨hp, gs, dr, tk, os⟩) F N (N.isList hm) pl pu h hs ht (by rw [sizeLine_eq]; omega)
theorem pick_from_k {k : Nat} (hk : k ≤ its.size) : slicePick its (some ((its.size : Int) - (k : Int))) none none = (its.toList.drop (its.size - k)).toArray := by
  rw [← Int.ofNat_sub hk]; exact slicePick_from its _ (Nat.sub_le _ _)
theorem pick_upto_k {k : Nat} (hk : k ≤ its.size) : slicePick its none (some ((its.size : Int) - (k : Int))) none = (its.toList.take (its.size - k)).toArray := by
  rw [← Int.ofNat_sub hk]; exact slicePick_upto its _ (Nat.sub_le _ _)
end
end Mine
local macro_rules | `(tactic| k_ne) => `(tactic| first | exact Mine.NeA.out (by assumption) | exact Mine.NeA.out' (by assumption) | fail)
set_option maxHeartbeats 40000000 in
theorem Mine.ask_fs {w : World} (K : Hk) (O : K.Ok w) (word parts : Value) (as : Array Value) (ka : Nat) (hsz : as.size < 90000) :
    FS w 128 2 [.ref K.H, word, parts] K.pre (K.led w as ka) (HookPost w K as.size) := by
  w_top off
  k_with_none
  k_with "callWith ref" => (k_here; k_dflt (first | (refine' callWith_K ?k1z1 ?k2z1 ?_; (case k1z1 => k_asm); (case k2z1 => k_is); k_whole) | (refine' callWith_K0 ?k1z1 ?k2z1 ?_; (case k1z1 => k_in); (case k2z1 => k_is); k_whole)))
  k_with "binaryOp Add ref ref" => (k_here; with_reducible refine' Mine.add_mem ?Fz2 ?Nz2 ?az2 ?bz2 ?zz2 ?_; (case Fz2 => k_asm); (case Nz2 => k_asm); (case az2 => k_dflt k_mem); (case bz2 => k_dflt k_mem); (case zz2 => ((try dsimp only [Mine.T.size] at *); (try simp only [Array.size_append, List.size_toArray, List.length_cons, List.length_nil]); omega)); intro _ _ _ _ l1zz; (try k_lt l1zz); (try (revert l1zz; intro _)); (try k_sweep))
  k_with "call builtin:len" => (k_here; with_reducible refine' Mine.len_mem ?Nz3 ?mz3 ?ez3 ?zz3 ?_; (case Nz3 => k_asm); (case mz3 => k_dflt k_mem); (case ez3 => first | with_reducible assumption | exact rfl); (case zz3 => ((try dsimp only [Mine.T.size] at *); (try simp only [Array.size_push]); omega)); intro _ _)
  k_with "call builtin:len" => (k_here; with_reducible refine' Mine.len_tupN ?Tz4 ?ez4 ?zz4 ?_; (case Tz4 => k_dflt is_tup); (case ez4 => first | with_reducible assumption | exact rfl); (case zz4 => first | (k_dflt decide) | ((try dsimp only [Mine.T.size] at *); omega)); intro _ _)
  k_with "call builtin:list.extend" => (k_here; with_reducible refine' Mine.ext_mem ?Fz5 ?Nz5 ?bz5 ?Uz5 ?zz5 ?_; (case Fz5 => k_asm); (case Nz5 => k_asm); (case bz5 => k_dflt k_mem); (case Uz5 => k_dflt k_updF); (case zz5 => ((try dsimp only [Mine.T.size] at *); (try simp only [Array.size_append, List.size_toArray, List.length_cons, List.length_nil]); omega)); intro _ _ _ Nqzz; (try dsimp only at Nqzz); (try (revert Nqzz; intro _)); (try k_sweep))
  k_with "call ref" => (k_here; (with_reducible show wpAny _ _ (PySem.call (Value.ref 296) _) _ _ _); k_dflt (refine' Mine.ord_call ?Iz6 ?Bz6 ?Fz6 ?Xz6 ?Nz6 ?Tz6 ?rz6 ?kz6 ?fz6 ?ez6 ?sz6 ?wz6 ?dz6 ?uz6 ?_; (case Iz6 => assumption); (case Bz6 => k_asm); (case Fz6 => k_asm); (case Xz6 => k_asm); (case Nz6 => k_asm); (case Tz6 => k_asm); (case rz6 => assumption); (case kz6 => first | exact fun _ _ e => e | exact Fr.keep (by assumption) | exact fun _ _ e => Fr.keep (by assumption) _ _ (Fr.keep (by assumption) _ _ e)); (case fz6 => exact rfl); (case ez6 => exact rfl); (case sz6 => ((try dsimp only [Mine.T.size] at *); omega)); (case wz6 => first | assumption | exact And.left (by assumption) | exact And.right (by assumption)); (case dz6 => ((try dsimp only [Mine.T.size] at *); (try dsimp only [depth_deeper, Mine.top]); (first | exact Mine.rm2 (by assumption) rfl | exact Mine.rm_tree (by assumption) | exact Mine.rm_ord (by assumption) (Nat.succ_le_succ (Nat.le_add_right _ _)) | exact Mine.rm_ord (by assumption) (Nat.succ_le_succ (Nat.le_add_left _ _)) | exact Mine.rm_ord (by assumption) (Nat.le_refl _) | omega))); (case uz6 => ((try dsimp only [Mine.T.size] at *); (try dsimp only [units_deeper, units_in1, Mine.top]); (first | exact Mine.rm2 (by assumption) rfl | exact Mine.rm_treeu (by assumption) | exact Mine.rm_ordu (by assumption) (Nat.succ_le_succ (Nat.le_add_right _ _)) | exact Mine.rm_ordu (by assumption) (Nat.succ_le_succ (Nat.le_add_left _ _)) | exact Mine.rm_ordu (by assumption) (Nat.le_refl _) | omega)))); intro _ _ _ _ _ _ _ _ _ _ _ _ _; (try k_sweep))
  k_with "call ref" => (k_here; (with_reducible show wpAny _ _ (PySem.call (Value.ref 303) _) _ _ _); k_dflt (refine' Mine.fs_call0 (mo := 2) ?Iz7 ?Bz7 ?Fz7 ?Xz7 ?Nz7 ?Tz7 ?rz7 ?kz7 ?fz7 ?ez7 ?dz7 ?uz7 ?_; (case Iz7 => assumption); (case Bz7 => k_asm); (case Fz7 => k_asm); (case Xz7 => k_asm); (case Nz7 => k_asm); (case Tz7 => k_asm); (case rz7 => assumption); (case kz7 => first | exact fun _ _ e => e | exact Fr.keep (by assumption) | exact fun _ _ e => Fr.keep (by assumption) _ _ (Fr.keep (by assumption) _ _ e)); (case fz7 => exact rfl); (case ez7 => exact rfl); (case dz7 => ((try dsimp only [Mine.T.size] at *); (try dsimp only [depth_deeper, Mine.top]); (first | exact Mine.rm2 (by assumption) rfl | exact Mine.rm_tree (by assumption) | exact Mine.rm_ord (by assumption) (Nat.succ_le_succ (Nat.le_add_right _ _)) | exact Mine.rm_ord (by assumption) (Nat.succ_le_succ (Nat.le_add_left _ _)) | exact Mine.rm_ord (by assumption) (Nat.le_refl _) | omega))); (case uz7 => ((try dsimp only [Mine.T.size] at *); (try dsimp only [units_deeper, units_in1, Mine.top]); (first | exact Mine.rm2 (by assumption) rfl | exact Mine.rm_treeu (by assumption) | exact Mine.rm_ordu (by assumption) (Nat.succ_le_succ (Nat.le_add_right _ _)) | exact Mine.rm_ordu (by assumption) (Nat.succ_le_succ (Nat.le_add_left _ _)) | exact Mine.rm_ordu (by assumption) (Nat.le_refl _) | omega)))); intro _ _ _ _ _ _ _ _ _ _ _ _ _; (try k_sweep))
  k_with "call ref" => (k_here; (with_reducible show wpAny _ _ (PySem.call (Value.ref 338) _) _ _ _); k_dflt (refine' Mine.fs_pure ?Iz8 ?Bz8 ?Fz8 ?Xz8 ?Nz8 ?Tz8 ?rz8 ?fz8 ?ez8 ?dz8 ?uz8 ?_; (case Iz8 => assumption); (case Bz8 => k_asm); (case Fz8 => k_asm); (case Xz8 => k_asm); (case Nz8 => k_asm); (case Tz8 => k_asm); (case rz8 => exact fun g' hk _ => Mine.RO.mono (by assumption) hk); (case fz8 => exact rfl); (case ez8 => exact rfl); (case dz8 => ((try dsimp only [depth_deeper, Mine.top]); (first | exact Mine.rm2 (by assumption) rfl | exact Mine.rm_tree (by assumption) | exact Mine.rm_ord (by assumption) (Nat.succ_le_succ (Nat.le_add_right _ _)) | exact Mine.rm_ord (by assumption) (Nat.succ_le_succ (Nat.le_add_left _ _)) | exact Mine.rm_ord (by assumption) (Nat.le_refl _) | omega))); (case uz8 => ((try dsimp only [units_deeper, units_in1, Mine.top]); (first | exact Mine.rm2 (by assumption) rfl | exact Mine.rm_treeu (by assumption) | exact Mine.rm_ordu (by assumption) (Nat.succ_le_succ (Nat.le_add_right _ _)) | exact Mine.rm_ordu (by assumption) (Nat.succ_le_succ (Nat.le_add_left _ _)) | exact Mine.rm_ordu (by assumption) (Nat.le_refl _) | omega)))); intro _ _ _ _ _ eqzz; (obtain ⟨tqzz, eqzz⟩ := eqzz; subst eqzz); (try (revert tqzz; intro _)); (try k_sweep))
  k_with "call builtin:isinstance" => (k_here; with_reducible refine' Mine.isi_tup ?Tz9 ?_; (case Tz9 => k_dflt is_tup); intro _)
  k_with "execs cons" => (k_here; first | (with_reducible refine' Mine.skip_if0 ?Fz10 ?vz10 ?bz10 ?_ ?x1z10 ?x2z10 ?x3z10; (case Fz10 => k_asm); (case vz10 => k_dflt exact rfl); (case bz10 => k_dflt decide); (case x1z10 => k_dflt exact rfl); (case x2z10 => k_dflt exact rfl); (case x3z10 => k_dflt decide); intro _) | (with_reducible refine' Mine.skip_or0 ?Fz10 ?vz10 ?bz10 ?b2z10 ?_ ?x1z10 ?x2z10 ?x3z10; (case Fz10 => k_asm); (case vz10 => k_dflt exact rfl); (case bz10 => k_dflt decide); (case b2z10 => k_dflt decide); (case x1z10 => k_dflt exact rfl); (case x2z10 => k_dflt exact rfl); (case x3z10 => k_dflt decide); intro _) | (with_reducible refine' Mine.take_if0 ?Fz10 ?vz10 ?bz10 ?_ ?x1z10 ?x2z10 ?x3z10; (case Fz10 => k_asm); (case vz10 => k_dflt exact rfl); (case bz10 => k_dflt decide); (case x1z10 => k_dflt exact rfl); (case x2z10 => k_dflt exact rfl); (case x3z10 => k_dflt decide); intro _))
  k_with "execs cons" => (k_here; first | (with_reducible refine' Mine.skip_in0 ?Fz11 ?Nz11 ?vz11 ?sz11 ?nz11 ?bz11 ?mz11 ?_ ?x1z11 ?x2z11 ?x3z11; (case Fz11 => k_asm); (case Nz11 => k_asm); (case vz11 => k_dflt exact rfl); (case sz11 => k_dflt exact rfl); (case nz11 => k_dflt decide); (case bz11 => k_dflt decide); (case mz11 => k_dflt exact rfl); (case x1z11 => k_dflt exact rfl); (case x2z11 => k_dflt exact rfl); (case x3z11 => k_dflt decide); intro _ _ _ _; (try k_sweep)) | (with_reducible refine' Mine.take_in0 ?Fz11 ?Nz11 ?vz11 ?sz11 ?nz11 ?bz11 ?mz11 ?_ ?x1z11 ?x2z11 ?x3z11; (case Fz11 => k_asm); (case Nz11 => k_asm); (case vz11 => k_dflt exact rfl); (case sz11 => k_dflt exact rfl); (case nz11 => k_dflt decide); (case bz11 => k_dflt decide); (case mz11 => k_dflt exact rfl); (case x1z11 => k_dflt exact rfl); (case x2z11 => k_dflt exact rfl); (case x3z11 => k_dflt decide); intro _ _ _ _; (try k_sweep)))
  k_with "eval Subscript Name Constant" => (k_here; with_reducible refine' Mine.item_tup0 ?Fz12 ?vz12 ?tz12 ?loz12 ?hiz12 ?jz12 ?uz12 ?_ ?x1z12 ?x2z12 ?x3z12; (case Fz12 => k_asm); (case vz12 => k_dflt exact rfl); (case tz12 => k_dflt is_tup); (case loz12 => k_dflt decide); (case hiz12 => k_dflt decide); (case jz12 => k_dflt exact rfl); (case uz12 => k_dflt exact rfl); (case x1z12 => k_dflt exact rfl); (case x2z12 => k_dflt exact rfl); (case x3z12 => k_dflt decide); intro _)
  k_with "call ref" => (k_here; k_dflt (refine' Mine.clos_call ?Cz17 ?hHTz17 ?hkz17 ?hbsz17 ?hszz17 ?Bz17 ?Fz17 ?Xz17 ?Nz17 ?Tz17 ?Uz17 ?hfz17 ?hkez17 ?hdz17 ?huz17 ?_; (case Cz17 => assumption); (case hHTz17 => assumption); (case hkz17 => first | exact fun _ _ e => e | exact Fr.keep (by assumption) | exact fun _ _ e => Fr.keep (by assumption) _ _ (Fr.keep (by assumption) _ _ e) | exact Below.stays (by assumption)); (case hbsz17 => assumption); (case hszz17 => assumption); (case Bz17 => k_asm); (case Fz17 => k_asm); (case Xz17 => k_asm); (case Nz17 => k_asm); (case Tz17 => k_asm); (case Uz17 => k_dflt k_updF); (case hfz17 => exact rfl); (case hkez17 => exact rfl); (case hdz17 => ((try dsimp only [depth_deeper, Mine.top]); (first | exact Mine.rm2 (by assumption) rfl | exact Mine.rm_tree (by assumption) | exact Mine.rm_ord (by assumption) (Nat.succ_le_succ (Nat.le_add_right _ _)) | exact Mine.rm_ord (by assumption) (Nat.succ_le_succ (Nat.le_add_left _ _)) | exact Mine.rm_ord (by assumption) (Nat.le_refl _) | omega))); (case huz17 => ((try dsimp only [units_deeper, units_in1, Mine.top]); (first | exact Mine.rm2 (by assumption) rfl | exact Mine.rm_treeu (by assumption) | exact Mine.rm_ordu (by assumption) (Nat.succ_le_succ (Nat.le_add_right _ _)) | exact Mine.rm_ordu (by assumption) (Nat.succ_le_succ (Nat.le_add_left _ _)) | exact Mine.rm_ordu (by assumption) (Nat.le_refl _) | omega)))); intro _ _ _ _ _ Nqzz hrqzz; (try dsimp only at Nqzz); (try (revert Nqzz hrqzz; intro _ _)); (try k_sweep))
  k_with "FnAt" => (k_dflt exact Mine.fnAt_fr (by k_asm) (by assumption))
  k_with "callWith ref" => (k_here; k_dflt (refine' callWith_F ?k1z19 ?_; (case k1z19 => exact Mine.fnAt_fr (by k_asm) (by assumption)); k_whole))
  obtain ⟨H, HD, f, al, bl, lab, nts, q1, q2, q3, HT, bs, kb, bad⟩ := K
  obtain ⟨C, hbs, ne1, ne2, ne3⟩ := O
  simp only [Hk.led] at *
  refine' Mine.fs_plain (binds := [(Str.ofString "self", .ref H), (Str.ofString "word", word), (Str.ofString "parts", parts)]) ?ho ?hcd ?hb ?hl ?h ?c2 ?c3 ?c4 ?c5
  case ho => (intro P; k_dflt k_is)
  case hcd => (intro P; k_dflt k_is)
  case hb => (intro s; exact BindsTo.of_eq rfl)
  case hl => exact locs rfl
  case c5 => decide
  case c2 => exact rfl
  case c3 => exact rfl
  case c4 => exact rfl
  case h =>
  intro dp un gd outer base g s p loose mean mg mb L' h' tk B' X' T' F' N' pre hd hu
  simp only [Hk.pre] at pre
  have hfn := fnAt_rep C pre.1
  try dsimp only
  (with_reducible show wpAny _ _ _ _ _ _); k_fold; k_steps
  rename_i as9 k9 F9 N9 hr9
  (show Done _ _ _ _ _); exact ⟨_, _, _, F9, N9, ⟨_, _, rfl, Array.size_push _, hr9⟩, rfl⟩
set_option maxHeartbeats 40000000 in
theorem Mine.var_value_fs {w : World} (K : Hk) (O : K.Ok w) (v0 : Value) (as : Array Value) (ka : Nat) (hsz : as.size < 90000) : FS w 135 3 [.ref K.H, v0] K.pre (K.led w as ka) (HookPost w K as.size) := by
  w_top off
  k_with_none
  k_with "callWith ref" => (k_here; k_dflt (first | (refine' callWith_K ?k1z1 ?k2z1 ?_; (case k1z1 => k_asm); (case k2z1 => k_is); k_whole) | (refine' callWith_K0 ?k1z1 ?k2z1 ?_; (case k1z1 => k_in); (case k2z1 => k_is); k_whole)))
  k_with "binaryOp Add ref ref" => (k_here; with_reducible refine' Mine.add_mem ?Fz2 ?Nz2 ?az2 ?bz2 ?zz2 ?_; (case Fz2 => k_asm); (case Nz2 => k_asm); (case az2 => k_dflt k_mem); (case bz2 => k_dflt k_mem); (case zz2 => ((try dsimp only [Mine.T.size] at *); (try simp only [Array.size_append, List.size_toArray, List.length_cons, List.length_nil]); omega)); intro _ _ _ _ l1zz; (try k_lt l1zz); (try (revert l1zz; intro _)); (try k_sweep))
  k_with "call builtin:len" => (k_here; with_reducible refine' Mine.len_mem ?Nz3 ?mz3 ?ez3 ?zz3 ?_; (case Nz3 => k_asm); (case mz3 => k_dflt k_mem); (case ez3 => first | with_reducible assumption | exact rfl); (case zz3 => ((try dsimp only [Mine.T.size] at *); (try simp only [Array.size_push]); omega)); intro _ _)
  k_with "call builtin:len" => (k_here; with_reducible refine' Mine.len_tupN ?Tz4 ?ez4 ?zz4 ?_; (case Tz4 => k_dflt is_tup); (case ez4 => first | with_reducible assumption | exact rfl); (case zz4 => first | (k_dflt decide) | ((try dsimp only [Mine.T.size] at *); omega)); intro _ _)
  k_with "call builtin:list.extend" => (k_here; with_reducible refine' Mine.ext_mem ?Fz5 ?Nz5 ?bz5 ?Uz5 ?zz5 ?_; (case Fz5 => k_asm); (case Nz5 => k_asm); (case bz5 => k_dflt k_mem); (case Uz5 => k_dflt k_updF); (case zz5 => ((try dsimp only [Mine.T.size] at *); (try simp only [Array.size_append, List.size_toArray, List.length_cons, List.length_nil]); omega)); intro _ _ _ Nqzz; (try dsimp only at Nqzz); (try (revert Nqzz; intro _)); (try k_sweep))
  k_with "call ref" => (k_here; (with_reducible show wpAny _ _ (PySem.call (Value.ref 296) _) _ _ _); k_dflt (refine' Mine.ord_call ?Iz6 ?Bz6 ?Fz6 ?Xz6 ?Nz6 ?Tz6 ?rz6 ?kz6 ?fz6 ?ez6 ?sz6 ?wz6 ?dz6 ?uz6 ?_; (case Iz6 => assumption); (case Bz6 => k_asm); (case Fz6 => k_asm); (case Xz6 => k_asm); (case Nz6 => k_asm); (case Tz6 => k_asm); (case rz6 => assumption); (case kz6 => first | exact fun _ _ e => e | exact Fr.keep (by assumption) | exact fun _ _ e => Fr.keep (by assumption) _ _ (Fr.keep (by assumption) _ _ e)); (case fz6 => exact rfl); (case ez6 => exact rfl); (case sz6 => ((try dsimp only [Mine.T.size] at *); omega)); (case wz6 => first | assumption | exact And.left (by assumption) | exact And.right (by assumption)); (case dz6 => ((try dsimp only [Mine.T.size] at *); (try dsimp only [depth_deeper, Mine.top]); (first | exact Mine.rm2 (by assumption) rfl | exact Mine.rm_tree (by assumption) | exact Mine.rm_ord (by assumption) (Nat.succ_le_succ (Nat.le_add_right _ _)) | exact Mine.rm_ord (by assumption) (Nat.succ_le_succ (Nat.le_add_left _ _)) | exact Mine.rm_ord (by assumption) (Nat.le_refl _) | omega))); (case uz6 => ((try dsimp only [Mine.T.size] at *); (try dsimp only [units_deeper, units_in1, Mine.top]); (first | exact Mine.rm2 (by assumption) rfl | exact Mine.rm_treeu (by assumption) | exact Mine.rm_ordu (by assumption) (Nat.succ_le_succ (Nat.le_add_right _ _)) | exact Mine.rm_ordu (by assumption) (Nat.succ_le_succ (Nat.le_add_left _ _)) | exact Mine.rm_ordu (by assumption) (Nat.le_refl _) | omega)))); intro _ _ _ _ _ _ _ _ _ _ _ _ _; (try k_sweep))
  k_with "call ref" => (k_here; (with_reducible show wpAny _ _ (PySem.call (Value.ref 303) _) _ _ _); k_dflt (refine' Mine.fs_call0 (mo := 2) ?Iz7 ?Bz7 ?Fz7 ?Xz7 ?Nz7 ?Tz7 ?rz7 ?kz7 ?fz7 ?ez7 ?dz7 ?uz7 ?_; (case Iz7 => assumption); (case Bz7 => k_asm); (case Fz7 => k_asm); (case Xz7 => k_asm); (case Nz7 => k_asm); (case Tz7 => k_asm); (case rz7 => assumption); (case kz7 => first | exact fun _ _ e => e | exact Fr.keep (by assumption) | exact fun _ _ e => Fr.keep (by assumption) _ _ (Fr.keep (by assumption) _ _ e)); (case fz7 => exact rfl); (case ez7 => exact rfl); (case dz7 => ((try dsimp only [Mine.T.size] at *); (try dsimp only [depth_deeper, Mine.top]); (first | exact Mine.rm2 (by assumption) rfl | exact Mine.rm_tree (by assumption) | exact Mine.rm_ord (by assumption) (Nat.succ_le_succ (Nat.le_add_right _ _)) | exact Mine.rm_ord (by assumption) (Nat.succ_le_succ (Nat.le_add_left _ _)) | exact Mine.rm_ord (by assumption) (Nat.le_refl _) | omega))); (case uz7 => ((try dsimp only [Mine.T.size] at *); (try dsimp only [units_deeper, units_in1, Mine.top]); (first | exact Mine.rm2 (by assumption) rfl | exact Mine.rm_treeu (by assumption) | exact Mine.rm_ordu (by assumption) (Nat.succ_le_succ (Nat.le_add_right _ _)) | exact Mine.rm_ordu (by assumption) (Nat.succ_le_succ (Nat.le_add_left _ _)) | exact Mine.rm_ordu (by assumption) (Nat.le_refl _) | omega)))); intro _ _ _ _ _ _ _ _ _ _ _ _ _; (try k_sweep))
  k_with "call ref" => (k_here; (with_reducible show wpAny _ _ (PySem.call (Value.ref 338) _) _ _ _); k_dflt (refine' Mine.fs_pure ?Iz8 ?Bz8 ?Fz8 ?Xz8 ?Nz8 ?Tz8 ?rz8 ?fz8 ?ez8 ?dz8 ?uz8 ?_; (case Iz8 => assumption); (case Bz8 => k_asm); (case Fz8 => k_asm); (case Xz8 => k_asm); (case Nz8 => k_asm); (case Tz8 => k_asm); (case rz8 => exact fun g' hk _ => Mine.RO.mono (by assumption) hk); (case fz8 => exact rfl); (case ez8 => exact rfl); (case dz8 => ((try dsimp only [depth_deeper, Mine.top]); (first | exact Mine.rm2 (by assumption) rfl | exact Mine.rm_tree (by assumption) | exact Mine.rm_ord (by assumption) (Nat.succ_le_succ (Nat.le_add_right _ _)) | exact Mine.rm_ord (by assumption) (Nat.succ_le_succ (Nat.le_add_left _ _)) | exact Mine.rm_ord (by assumption) (Nat.le_refl _) | omega))); (case uz8 => ((try dsimp only [units_deeper, units_in1, Mine.top]); (first | exact Mine.rm2 (by assumption) rfl | exact Mine.rm_treeu (by assumption) | exact Mine.rm_ordu (by assumption) (Nat.succ_le_succ (Nat.le_add_right _ _)) | exact Mine.rm_ordu (by assumption) (Nat.succ_le_succ (Nat.le_add_left _ _)) | exact Mine.rm_ordu (by assumption) (Nat.le_refl _) | omega)))); intro _ _ _ _ _ eqzz; (obtain ⟨tqzz, eqzz⟩ := eqzz; subst eqzz); (try (revert tqzz; intro _)); (try k_sweep))
  k_with "call builtin:isinstance" => (k_here; with_reducible refine' Mine.isi_tup ?Tz9 ?_; (case Tz9 => k_dflt is_tup); intro _)
  k_with "execs cons" => (k_here; first | (with_reducible refine' Mine.skip_if0 ?Fz10 ?vz10 ?bz10 ?_ ?x1z10 ?x2z10 ?x3z10; (case Fz10 => k_asm); (case vz10 => k_dflt exact rfl); (case bz10 => k_dflt decide); (case x1z10 => k_dflt exact rfl); (case x2z10 => k_dflt exact rfl); (case x3z10 => k_dflt decide); intro _) | (with_reducible refine' Mine.skip_or0 ?Fz10 ?vz10 ?bz10 ?b2z10 ?_ ?x1z10 ?x2z10 ?x3z10; (case Fz10 => k_asm); (case vz10 => k_dflt exact rfl); (case bz10 => k_dflt decide); (case b2z10 => k_dflt decide); (case x1z10 => k_dflt exact rfl); (case x2z10 => k_dflt exact rfl); (case x3z10 => k_dflt decide); intro _) | (with_reducible refine' Mine.take_if0 ?Fz10 ?vz10 ?bz10 ?_ ?x1z10 ?x2z10 ?x3z10; (case Fz10 => k_asm); (case vz10 => k_dflt exact rfl); (case bz10 => k_dflt decide); (case x1z10 => k_dflt exact rfl); (case x2z10 => k_dflt exact rfl); (case x3z10 => k_dflt decide); intro _))
  k_with "execs cons" => (k_here; first | (with_reducible refine' Mine.skip_in0 ?Fz11 ?Nz11 ?vz11 ?sz11 ?nz11 ?bz11 ?mz11 ?_ ?x1z11 ?x2z11 ?x3z11; (case Fz11 => k_asm); (case Nz11 => k_asm); (case vz11 => k_dflt exact rfl); (case sz11 => k_dflt exact rfl); (case nz11 => k_dflt decide); (case bz11 => k_dflt decide); (case mz11 => k_dflt exact rfl); (case x1z11 => k_dflt exact rfl); (case x2z11 => k_dflt exact rfl); (case x3z11 => k_dflt decide); intro _ _ _ _; (try k_sweep)) | (with_reducible refine' Mine.take_in0 ?Fz11 ?Nz11 ?vz11 ?sz11 ?nz11 ?bz11 ?mz11 ?_ ?x1z11 ?x2z11 ?x3z11; (case Fz11 => k_asm); (case Nz11 => k_asm); (case vz11 => k_dflt exact rfl); (case sz11 => k_dflt exact rfl); (case nz11 => k_dflt decide); (case bz11 => k_dflt decide); (case mz11 => k_dflt exact rfl); (case x1z11 => k_dflt exact rfl); (case x2z11 => k_dflt exact rfl); (case x3z11 => k_dflt decide); intro _ _ _ _; (try k_sweep)))
  k_with "eval Subscript Name Constant" => (k_here; with_reducible refine' Mine.item_tup0 ?Fz12 ?vz12 ?tz12 ?loz12 ?hiz12 ?jz12 ?uz12 ?_ ?x1z12 ?x2z12 ?x3z12; (case Fz12 => k_asm); (case vz12 => k_dflt exact rfl); (case tz12 => k_dflt is_tup); (case loz12 => k_dflt decide); (case hiz12 => k_dflt decide); (case jz12 => k_dflt exact rfl); (case uz12 => k_dflt exact rfl); (case x1z12 => k_dflt exact rfl); (case x2z12 => k_dflt exact rfl); (case x3z12 => k_dflt decide); intro _)
  k_with "call ref" => (k_here; (with_reducible show wpAny _ _ (PySem.call (Value.ref 128) _) _ _ _); k_dflt (refine' Mine.hook_call (R := []) ?Sz20 ?prez20 ?hkz20 ?Bz20 ?Fz20 ?Xz20 ?Nz20 ?Tz20 ?hmz20 ?hRz20 ?hfz20 ?hkez20 ?hdz20 ?huz20 ?_; (case hkz20 => first | exact fun _ _ e => e | exact Fr.keep (by assumption) | exact fun _ _ e => Fr.keep (by assumption) _ _ (Fr.keep (by assumption) _ _ e) | exact Below.stays (by assumption)); (case Bz20 => k_asm); (case Fz20 => k_asm); (case Xz20 => k_asm); (case Nz20 => k_asm); (case Tz20 => k_asm); (case prez20 => assumption); (case hmz20 => exact fun _ h => .tail _ h); (case Sz20 => exact Mine.ask_fs _ (by assumption) _ _ _ _ (by assumption)); (case hRz20 => exact fun _ h => nomatch h); (case hfz20 => exact rfl); (case hkez20 => exact rfl); (case hdz20 => ((try dsimp only [depth_deeper, Mine.top]); (first | exact Mine.rm2 (by assumption) rfl | exact Mine.rm_tree (by assumption) | exact Mine.rm_ord (by assumption) (Nat.succ_le_succ (Nat.le_add_right _ _)) | exact Mine.rm_ord (by assumption) (Nat.succ_le_succ (Nat.le_add_left _ _)) | exact Mine.rm_ord (by assumption) (Nat.le_refl _) | omega))); (case huz20 => ((try dsimp only [units_deeper, units_in1, Mine.top]); (first | exact Mine.rm2 (by assumption) rfl | exact Mine.rm_treeu (by assumption) | exact Mine.rm_ordu (by assumption) (Nat.succ_le_succ (Nat.le_add_right _ _)) | exact Mine.rm_ordu (by assumption) (Nat.succ_le_succ (Nat.le_add_left _ _)) | exact Mine.rm_ordu (by assumption) (Nat.le_refl _) | omega)))); intro _ _ _ _ _ _ _ _ _; (try k_sweep))
  have ne1 := O.ne1; have ne2 := O.ne2; have ne3 := O.ne3
  refine' Mine.fs_plain (binds := [(Str.ofString "self", .ref K.H), (Str.ofString "name", v0)]) ?ho ?hcd ?hb ?hl ?h ?c2 ?c3 ?c4 ?c5
  case ho => (intro P; k_dflt k_is)
  case hcd => (intro P; k_dflt k_is)
  case hb => (intro s; exact BindsTo.of_eq rfl)
  case hl => exact locs rfl
  case c5 => decide
  case c2 => exact rfl
  case c3 => exact rfl
  case c4 => exact rfl
  case h =>
  intro dp un gd outer base g s p loose mean mg mb L' h' tk B' X' T' F' N' pre hd hu
  simp only [Hk.led] at N'
  try dsimp only
  (with_reducible show wpAny _ _ _ _ _ _); k_fold; k_steps
  (show Done _ _ _ _ _); exact ⟨_, _, _, (by k_asm), (by k_asm), ⟨_, _, by exact List.append_nil _, (by assumption), (by assumption)⟩, rfl⟩
set_option maxHeartbeats 40000000 in
theorem Mine.name_of_fs {w : World} (K : Hk) (O : K.Ok w) (v0 v1 : Value) (as : Array Value) (ka : Nat) (hsz : as.size < 90000) : FS w 142 3 [.ref K.H, v0, v1] K.pre (K.led w as ka) (HookPost w K as.size) := by
  w_top off
  k_with_none
  k_with "callWith ref" => (k_here; k_dflt (first | (refine' callWith_K ?k1z1 ?k2z1 ?_; (case k1z1 => k_asm); (case k2z1 => k_is); k_whole) | (refine' callWith_K0 ?k1z1 ?k2z1 ?_; (case k1z1 => k_in); (case k2z1 => k_is); k_whole)))
  k_with "binaryOp Add ref ref" => (k_here; with_reducible refine' Mine.add_mem ?Fz2 ?Nz2 ?az2 ?bz2 ?zz2 ?_; (case Fz2 => k_asm); (case Nz2 => k_asm); (case az2 => k_dflt k_mem); (case bz2 => k_dflt k_mem); (case zz2 => ((try dsimp only [Mine.T.size] at *); (try simp only [Array.size_append, List.size_toArray, List.length_cons, List.length_nil]); omega)); intro _ _ _ _ l1zz; (try k_lt l1zz); (try (revert l1zz; intro _)); (try k_sweep))
  k_with "call builtin:len" => (k_here; with_reducible refine' Mine.len_mem ?Nz3 ?mz3 ?ez3 ?zz3 ?_; (case Nz3 => k_asm); (case mz3 => k_dflt k_mem); (case ez3 => first | with_reducible assumption | exact rfl); (case zz3 => ((try dsimp only [Mine.T.size] at *); (try simp only [Array.size_push]); omega)); intro _ _)
  k_with "call builtin:len" => (k_here; with_reducible refine' Mine.len_tupN ?Tz4 ?ez4 ?zz4 ?_; (case Tz4 => k_dflt is_tup); (case ez4 => first | with_reducible assumption | exact rfl); (case zz4 => first | (k_dflt decide) | ((try dsimp only [Mine.T.size] at *); omega)); intro _ _)
  k_with "call builtin:list.extend" => (k_here; with_reducible refine' Mine.ext_mem ?Fz5 ?Nz5 ?bz5 ?Uz5 ?zz5 ?_; (case Fz5 => k_asm); (case Nz5 => k_asm); (case bz5 => k_dflt k_mem); (case Uz5 => k_dflt k_updF); (case zz5 => ((try dsimp only [Mine.T.size] at *); (try simp only [Array.size_append, List.size_toArray, List.length_cons, List.length_nil]); omega)); intro _ _ _ Nqzz; (try dsimp only at Nqzz); (try (revert Nqzz; intro _)); (try k_sweep))
  k_with "call ref" => (k_here; (with_reducible show wpAny _ _ (PySem.call (Value.ref 296) _) _ _ _); k_dflt (refine' Mine.ord_call ?Iz6 ?Bz6 ?Fz6 ?Xz6 ?Nz6 ?Tz6 ?rz6 ?kz6 ?fz6 ?ez6 ?sz6 ?wz6 ?dz6 ?uz6 ?_; (case Iz6 => assumption); (case Bz6 => k_asm); (case Fz6 => k_asm); (case Xz6 => k_asm); (case Nz6 => k_asm); (case Tz6 => k_asm); (case rz6 => assumption); (case kz6 => first | exact fun _ _ e => e | exact Fr.keep (by assumption) | exact fun _ _ e => Fr.keep (by assumption) _ _ (Fr.keep (by assumption) _ _ e)); (case fz6 => exact rfl); (case ez6 => exact rfl); (case sz6 => ((try dsimp only [Mine.T.size] at *); omega)); (case wz6 => first | assumption | exact And.left (by assumption) | exact And.right (by assumption)); (case dz6 => ((try dsimp only [Mine.T.size] at *); (try dsimp only [depth_deeper, Mine.top]); (first | exact Mine.rm2 (by assumption) rfl | exact Mine.rm_tree (by assumption) | exact Mine.rm_ord (by assumption) (Nat.succ_le_succ (Nat.le_add_right _ _)) | exact Mine.rm_ord (by assumption) (Nat.succ_le_succ (Nat.le_add_left _ _)) | exact Mine.rm_ord (by assumption) (Nat.le_refl _) | omega))); (case uz6 => ((try dsimp only [Mine.T.size] at *); (try dsimp only [units_deeper, units_in1, Mine.top]); (first | exact Mine.rm2 (by assumption) rfl | exact Mine.rm_treeu (by assumption) | exact Mine.rm_ordu (by assumption) (Nat.succ_le_succ (Nat.le_add_right _ _)) | exact Mine.rm_ordu (by assumption) (Nat.succ_le_succ (Nat.le_add_left _ _)) | exact Mine.rm_ordu (by assumption) (Nat.le_refl _) | omega)))); intro _ _ _ _ _ _ _ _ _ _ _ _ _; (try k_sweep))
  k_with "call ref" => (k_here; (with_reducible show wpAny _ _ (PySem.call (Value.ref 303) _) _ _ _); k_dflt (refine' Mine.fs_call0 (mo := 2) ?Iz7 ?Bz7 ?Fz7 ?Xz7 ?Nz7 ?Tz7 ?rz7 ?kz7 ?fz7 ?ez7 ?dz7 ?uz7 ?_; (case Iz7 => assumption); (case Bz7 => k_asm); (case Fz7 => k_asm); (case Xz7 => k_asm); (case Nz7 => k_asm); (case Tz7 => k_asm); (case rz7 => assumption); (case kz7 => first | exact fun _ _ e => e | exact Fr.keep (by assumption) | exact fun _ _ e => Fr.keep (by assumption) _ _ (Fr.keep (by assumption) _ _ e)); (case fz7 => exact rfl); (case ez7 => exact rfl); (case dz7 => ((try dsimp only [Mine.T.size] at *); (try dsimp only [depth_deeper, Mine.top]); (first | exact Mine.rm2 (by assumption) rfl | exact Mine.rm_tree (by assumption) | exact Mine.rm_ord (by assumption) (Nat.succ_le_succ (Nat.le_add_right _ _)) | exact Mine.rm_ord (by assumption) (Nat.succ_le_succ (Nat.le_add_left _ _)) | exact Mine.rm_ord (by assumption) (Nat.le_refl _) | omega))); (case uz7 => ((try dsimp only [Mine.T.size] at *); (try dsimp only [units_deeper, units_in1, Mine.top]); (first | exact Mine.rm2 (by assumption) rfl | exact Mine.rm_treeu (by assumption) | exact Mine.rm_ordu (by assumption) (Nat.succ_le_succ (Nat.le_add_right _ _)) | exact Mine.rm_ordu (by assumption) (Nat.succ_le_succ (Nat.le_add_left _ _)) | exact Mine.rm_ordu (by assumption) (Nat.le_refl _) | omega)))); intro _ _ _ _ _ _ _ _ _ _ _ _ _; (try k_sweep))
  k_with "call ref" => (k_here; (with_reducible show wpAny _ _ (PySem.call (Value.ref 338) _) _ _ _); k_dflt (refine' Mine.fs_pure ?Iz8 ?Bz8 ?Fz8 ?Xz8 ?Nz8 ?Tz8 ?rz8 ?fz8 ?ez8 ?dz8 ?uz8 ?_; (case Iz8 => assumption); (case Bz8 => k_asm); (case Fz8 => k_asm); (case Xz8 => k_asm); (case Nz8 => k_asm); (case Tz8 => k_asm); (case rz8 => exact fun g' hk _ => Mine.RO.mono (by assumption) hk); (case fz8 => exact rfl); (case ez8 => exact rfl); (case dz8 => ((try dsimp only [depth_deeper, Mine.top]); (first | exact Mine.rm2 (by assumption) rfl | exact Mine.rm_tree (by assumption) | exact Mine.rm_ord (by assumption) (Nat.succ_le_succ (Nat.le_add_right _ _)) | exact Mine.rm_ord (by assumption) (Nat.succ_le_succ (Nat.le_add_left _ _)) | exact Mine.rm_ord (by assumption) (Nat.le_refl _) | omega))); (case uz8 => ((try dsimp only [units_deeper, units_in1, Mine.top]); (first | exact Mine.rm2 (by assumption) rfl | exact Mine.rm_treeu (by assumption) | exact Mine.rm_ordu (by assumption) (Nat.succ_le_succ (Nat.le_add_right _ _)) | exact Mine.rm_ordu (by assumption) (Nat.succ_le_succ (Nat.le_add_left _ _)) | exact Mine.rm_ordu (by assumption) (Nat.le_refl _) | omega)))); intro _ _ _ _ _ eqzz; (obtain ⟨tqzz, eqzz⟩ := eqzz; subst eqzz); (try (revert tqzz; intro _)); (try k_sweep))
  k_with "call builtin:isinstance" => (k_here; with_reducible refine' Mine.isi_tup ?Tz9 ?_; (case Tz9 => k_dflt is_tup); intro _)
  k_with "execs cons" => (k_here; first | (with_reducible refine' Mine.skip_if0 ?Fz10 ?vz10 ?bz10 ?_ ?x1z10 ?x2z10 ?x3z10; (case Fz10 => k_asm); (case vz10 => k_dflt exact rfl); (case bz10 => k_dflt decide); (case x1z10 => k_dflt exact rfl); (case x2z10 => k_dflt exact rfl); (case x3z10 => k_dflt decide); intro _) | (with_reducible refine' Mine.skip_or0 ?Fz10 ?vz10 ?bz10 ?b2z10 ?_ ?x1z10 ?x2z10 ?x3z10; (case Fz10 => k_asm); (case vz10 => k_dflt exact rfl); (case bz10 => k_dflt decide); (case b2z10 => k_dflt decide); (case x1z10 => k_dflt exact rfl); (case x2z10 => k_dflt exact rfl); (case x3z10 => k_dflt decide); intro _) | (with_reducible refine' Mine.take_if0 ?Fz10 ?vz10 ?bz10 ?_ ?x1z10 ?x2z10 ?x3z10; (case Fz10 => k_asm); (case vz10 => k_dflt exact rfl); (case bz10 => k_dflt decide); (case x1z10 => k_dflt exact rfl); (case x2z10 => k_dflt exact rfl); (case x3z10 => k_dflt decide); intro _))
  k_with "execs cons" => (k_here; first | (with_reducible refine' Mine.skip_in0 ?Fz11 ?Nz11 ?vz11 ?sz11 ?nz11 ?bz11 ?mz11 ?_ ?x1z11 ?x2z11 ?x3z11; (case Fz11 => k_asm); (case Nz11 => k_asm); (case vz11 => k_dflt exact rfl); (case sz11 => k_dflt exact rfl); (case nz11 => k_dflt decide); (case bz11 => k_dflt decide); (case mz11 => k_dflt exact rfl); (case x1z11 => k_dflt exact rfl); (case x2z11 => k_dflt exact rfl); (case x3z11 => k_dflt decide); intro _ _ _ _; (try k_sweep)) | (with_reducible refine' Mine.take_in0 ?Fz11 ?Nz11 ?vz11 ?sz11 ?nz11 ?bz11 ?mz11 ?_ ?x1z11 ?x2z11 ?x3z11; (case Fz11 => k_asm); (case Nz11 => k_asm); (case vz11 => k_dflt exact rfl); (case sz11 => k_dflt exact rfl); (case nz11 => k_dflt decide); (case bz11 => k_dflt decide); (case mz11 => k_dflt exact rfl); (case x1z11 => k_dflt exact rfl); (case x2z11 => k_dflt exact rfl); (case x3z11 => k_dflt decide); intro _ _ _ _; (try k_sweep)))
  k_with "eval Subscript Name Constant" => (k_here; with_reducible refine' Mine.item_tup0 ?Fz12 ?vz12 ?tz12 ?loz12 ?hiz12 ?jz12 ?uz12 ?_ ?x1z12 ?x2z12 ?x3z12; (case Fz12 => k_asm); (case vz12 => k_dflt exact rfl); (case tz12 => k_dflt is_tup); (case loz12 => k_dflt decide); (case hiz12 => k_dflt decide); (case jz12 => k_dflt exact rfl); (case uz12 => k_dflt exact rfl); (case x1z12 => k_dflt exact rfl); (case x2z12 => k_dflt exact rfl); (case x3z12 => k_dflt decide); intro _)
  k_with "call ref" => (k_here; (with_reducible show wpAny _ _ (PySem.call (Value.ref 128) _) _ _ _); k_dflt (refine' Mine.hook_call (R := []) ?Sz20 ?prez20 ?hkz20 ?Bz20 ?Fz20 ?Xz20 ?Nz20 ?Tz20 ?hmz20 ?hRz20 ?hfz20 ?hkez20 ?hdz20 ?huz20 ?_; (case hkz20 => first | exact fun _ _ e => e | exact Fr.keep (by assumption) | exact fun _ _ e => Fr.keep (by assumption) _ _ (Fr.keep (by assumption) _ _ e) | exact Below.stays (by assumption)); (case Bz20 => k_asm); (case Fz20 => k_asm); (case Xz20 => k_asm); (case Nz20 => k_asm); (case Tz20 => k_asm); (case prez20 => assumption); (case hmz20 => exact fun _ h => .tail _ h); (case Sz20 => exact Mine.ask_fs _ (by assumption) _ _ _ _ (by assumption)); (case hRz20 => exact fun _ h => nomatch h); (case hfz20 => exact rfl); (case hkez20 => exact rfl); (case hdz20 => ((try dsimp only [depth_deeper, Mine.top]); (first | exact Mine.rm2 (by assumption) rfl | exact Mine.rm_tree (by assumption) | exact Mine.rm_ord (by assumption) (Nat.succ_le_succ (Nat.le_add_right _ _)) | exact Mine.rm_ord (by assumption) (Nat.succ_le_succ (Nat.le_add_left _ _)) | exact Mine.rm_ord (by assumption) (Nat.le_refl _) | omega))); (case huz20 => ((try dsimp only [units_deeper, units_in1, Mine.top]); (first | exact Mine.rm2 (by assumption) rfl | exact Mine.rm_treeu (by assumption) | exact Mine.rm_ordu (by assumption) (Nat.succ_le_succ (Nat.le_add_right _ _)) | exact Mine.rm_ordu (by assumption) (Nat.succ_le_succ (Nat.le_add_left _ _)) | exact Mine.rm_ordu (by assumption) (Nat.le_refl _) | omega)))); intro _ _ _ _ _ _ _ _ _; (try k_sweep))
  have ne1 := O.ne1; have ne2 := O.ne2; have ne3 := O.ne3
  refine' Mine.fs_plain (binds := [(Str.ofString "self", .ref K.H), (Str.ofString "kind", v0), (Str.ofString "name", v1)]) ?ho ?hcd ?hb ?hl ?h ?c2 ?c3 ?c4 ?c5
  case ho => (intro P; k_dflt k_is)
  case hcd => (intro P; k_dflt k_is)
  case hb => (intro s; exact BindsTo.of_eq rfl)
  case hl => exact locs rfl
  case c5 => decide
  case c2 => exact rfl
  case c3 => exact rfl
  case c4 => exact rfl
  case h =>
  intro dp un gd outer base g s p loose mean mg mb L' h' tk B' X' T' F' N' pre hd hu
  simp only [Hk.led] at N'
  try dsimp only
  (with_reducible show wpAny _ _ _ _ _ _); k_fold; k_steps
  (show Done _ _ _ _ _); exact ⟨_, _, _, (by k_asm), (by k_asm), ⟨_, _, by exact List.append_nil _, (by assumption), (by assumption)⟩, rfl⟩
set_option maxHeartbeats 40000000 in
theorem Mine.named_by_fs {w : World} (K : Hk) (O : K.Ok w) (v0 : Value) (as : Array Value) (ka : Nat) (hsz : as.size < 90000) : FS w 149 3 [.ref K.H, v0] K.pre (K.led w as ka) (HookPost w K as.size) := by
  w_top off
  k_with_none
  k_with "callWith ref" => (k_here; k_dflt (first | (refine' callWith_K ?k1z1 ?k2z1 ?_; (case k1z1 => k_asm); (case k2z1 => k_is); k_whole) | (refine' callWith_K0 ?k1z1 ?k2z1 ?_; (case k1z1 => k_in); (case k2z1 => k_is); k_whole)))
  k_with "binaryOp Add ref ref" => (k_here; with_reducible refine' Mine.add_mem ?Fz2 ?Nz2 ?az2 ?bz2 ?zz2 ?_; (case Fz2 => k_asm); (case Nz2 => k_asm); (case az2 => k_dflt k_mem); (case bz2 => k_dflt k_mem); (case zz2 => ((try dsimp only [Mine.T.size] at *); (try simp only [Array.size_append, List.size_toArray, List.length_cons, List.length_nil]); omega)); intro _ _ _ _ l1zz; (try k_lt l1zz); (try (revert l1zz; intro _)); (try k_sweep))
  k_with "call builtin:len" => (k_here; with_reducible refine' Mine.len_mem ?Nz3 ?mz3 ?ez3 ?zz3 ?_; (case Nz3 => k_asm); (case mz3 => k_dflt k_mem); (case ez3 => first | with_reducible assumption | exact rfl); (case zz3 => ((try dsimp only [Mine.T.size] at *); (try simp only [Array.size_push]); omega)); intro _ _)
  k_with "call builtin:len" => (k_here; with_reducible refine' Mine.len_tupN ?Tz4 ?ez4 ?zz4 ?_; (case Tz4 => k_dflt is_tup); (case ez4 => first | with_reducible assumption | exact rfl); (case zz4 => first | (k_dflt decide) | ((try dsimp only [Mine.T.size] at *); omega)); intro _ _)
  k_with "call builtin:list.extend" => (k_here; with_reducible refine' Mine.ext_mem ?Fz5 ?Nz5 ?bz5 ?Uz5 ?zz5 ?_; (case Fz5 => k_asm); (case Nz5 => k_asm); (case bz5 => k_dflt k_mem); (case Uz5 => k_dflt k_updF); (case zz5 => ((try dsimp only [Mine.T.size] at *); (try simp only [Array.size_append, List.size_toArray, List.length_cons, List.length_nil]); omega)); intro _ _ _ Nqzz; (try dsimp only at Nqzz); (try (revert Nqzz; intro _)); (try k_sweep))
  k_with "call ref" => (k_here; (with_reducible show wpAny _ _ (PySem.call (Value.ref 296) _) _ _ _); k_dflt (refine' Mine.ord_call ?Iz6 ?Bz6 ?Fz6 ?Xz6 ?Nz6 ?Tz6 ?rz6 ?kz6 ?fz6 ?ez6 ?sz6 ?wz6 ?dz6 ?uz6 ?_; (case Iz6 => assumption); (case Bz6 => k_asm); (case Fz6 => k_asm); (case Xz6 => k_asm); (case Nz6 => k_asm); (case Tz6 => k_asm); (case rz6 => assumption); (case kz6 => first | exact fun _ _ e => e | exact Fr.keep (by assumption) | exact fun _ _ e => Fr.keep (by assumption) _ _ (Fr.keep (by assumption) _ _ e)); (case fz6 => exact rfl); (case ez6 => exact rfl); (case sz6 => ((try dsimp only [Mine.T.size] at *); omega)); (case wz6 => first | assumption | exact And.left (by assumption) | exact And.right (by assumption)); (case dz6 => ((try dsimp only [Mine.T.size] at *); (try dsimp only [depth_deeper, Mine.top]); (first | exact Mine.rm2 (by assumption) rfl | exact Mine.rm_tree (by assumption) | exact Mine.rm_ord (by assumption) (Nat.succ_le_succ (Nat.le_add_right _ _)) | exact Mine.rm_ord (by assumption) (Nat.succ_le_succ (Nat.le_add_left _ _)) | exact Mine.rm_ord (by assumption) (Nat.le_refl _) | omega))); (case uz6 => ((try dsimp only [Mine.T.size] at *); (try dsimp only [units_deeper, units_in1, Mine.top]); (first | exact Mine.rm2 (by assumption) rfl | exact Mine.rm_treeu (by assumption) | exact Mine.rm_ordu (by assumption) (Nat.succ_le_succ (Nat.le_add_right _ _)) | exact Mine.rm_ordu (by assumption) (Nat.succ_le_succ (Nat.le_add_left _ _)) | exact Mine.rm_ordu (by assumption) (Nat.le_refl _) | omega)))); intro _ _ _ _ _ _ _ _ _ _ _ _ _; (try k_sweep))
  k_with "call ref" => (k_here; (with_reducible show wpAny _ _ (PySem.call (Value.ref 303) _) _ _ _); k_dflt (refine' Mine.fs_call0 (mo := 2) ?Iz7 ?Bz7 ?Fz7 ?Xz7 ?Nz7 ?Tz7 ?rz7 ?kz7 ?fz7 ?ez7 ?dz7 ?uz7 ?_; (case Iz7 => assumption); (case Bz7 => k_asm); (case Fz7 => k_asm); (case Xz7 => k_asm); (case Nz7 => k_asm); (case Tz7 => k_asm); (case rz7 => assumption); (case kz7 => first | exact fun _ _ e => e | exact Fr.keep (by assumption) | exact fun _ _ e => Fr.keep (by assumption) _ _ (Fr.keep (by assumption) _ _ e)); (case fz7 => exact rfl); (case ez7 => exact rfl); (case dz7 => ((try dsimp only [Mine.T.size] at *); (try dsimp only [depth_deeper, Mine.top]); (first | exact Mine.rm2 (by assumption) rfl | exact Mine.rm_tree (by assumption) | exact Mine.rm_ord (by assumption) (Nat.succ_le_succ (Nat.le_add_right _ _)) | exact Mine.rm_ord (by assumption) (Nat.succ_le_succ (Nat.le_add_left _ _)) | exact Mine.rm_ord (by assumption) (Nat.le_refl _) | omega))); (case uz7 => ((try dsimp only [Mine.T.size] at *); (try dsimp only [units_deeper, units_in1, Mine.top]); (first | exact Mine.rm2 (by assumption) rfl | exact Mine.rm_treeu (by assumption) | exact Mine.rm_ordu (by assumption) (Nat.succ_le_succ (Nat.le_add_right _ _)) | exact Mine.rm_ordu (by assumption) (Nat.succ_le_succ (Nat.le_add_left _ _)) | exact Mine.rm_ordu (by assumption) (Nat.le_refl _) | omega)))); intro _ _ _ _ _ _ _ _ _ _ _ _ _; (try k_sweep))
  k_with "call ref" => (k_here; (with_reducible show wpAny _ _ (PySem.call (Value.ref 338) _) _ _ _); k_dflt (refine' Mine.fs_pure ?Iz8 ?Bz8 ?Fz8 ?Xz8 ?Nz8 ?Tz8 ?rz8 ?fz8 ?ez8 ?dz8 ?uz8 ?_; (case Iz8 => assumption); (case Bz8 => k_asm); (case Fz8 => k_asm); (case Xz8 => k_asm); (case Nz8 => k_asm); (case Tz8 => k_asm); (case rz8 => exact fun g' hk _ => Mine.RO.mono (by assumption) hk); (case fz8 => exact rfl); (case ez8 => exact rfl); (case dz8 => ((try dsimp only [depth_deeper, Mine.top]); (first | exact Mine.rm2 (by assumption) rfl | exact Mine.rm_tree (by assumption) | exact Mine.rm_ord (by assumption) (Nat.succ_le_succ (Nat.le_add_right _ _)) | exact Mine.rm_ord (by assumption) (Nat.succ_le_succ (Nat.le_add_left _ _)) | exact Mine.rm_ord (by assumption) (Nat.le_refl _) | omega))); (case uz8 => ((try dsimp only [units_deeper, units_in1, Mine.top]); (first | exact Mine.rm2 (by assumption) rfl | exact Mine.rm_treeu (by assumption) | exact Mine.rm_ordu (by assumption) (Nat.succ_le_succ (Nat.le_add_right _ _)) | exact Mine.rm_ordu (by assumption) (Nat.succ_le_succ (Nat.le_add_left _ _)) | exact Mine.rm_ordu (by assumption) (Nat.le_refl _) | omega)))); intro _ _ _ _ _ eqzz; (obtain ⟨tqzz, eqzz⟩ := eqzz; subst eqzz); (try (revert tqzz; intro _)); (try k_sweep))
  k_with "call builtin:isinstance" => (k_here; with_reducible refine' Mine.isi_tup ?Tz9 ?_; (case Tz9 => k_dflt is_tup); intro _)
  k_with "execs cons" => (k_here; first | (with_reducible refine' Mine.skip_if0 ?Fz10 ?vz10 ?bz10 ?_ ?x1z10 ?x2z10 ?x3z10; (case Fz10 => k_asm); (case vz10 => k_dflt exact rfl); (case bz10 => k_dflt decide); (case x1z10 => k_dflt exact rfl); (case x2z10 => k_dflt exact rfl); (case x3z10 => k_dflt decide); intro _) | (with_reducible refine' Mine.skip_or0 ?Fz10 ?vz10 ?bz10 ?b2z10 ?_ ?x1z10 ?x2z10 ?x3z10; (case Fz10 => k_asm); (case vz10 => k_dflt exact rfl); (case bz10 => k_dflt decide); (case b2z10 => k_dflt decide); (case x1z10 => k_dflt exact rfl); (case x2z10 => k_dflt exact rfl); (case x3z10 => k_dflt decide); intro _) | (with_reducible refine' Mine.take_if0 ?Fz10 ?vz10 ?bz10 ?_ ?x1z10 ?x2z10 ?x3z10; (case Fz10 => k_asm); (case vz10 => k_dflt exact rfl); (case bz10 => k_dflt decide); (case x1z10 => k_dflt exact rfl); (case x2z10 => k_dflt exact rfl); (case x3z10 => k_dflt decide); intro _))
  k_with "execs cons" => (k_here; first | (with_reducible refine' Mine.skip_in0 ?Fz11 ?Nz11 ?vz11 ?sz11 ?nz11 ?bz11 ?mz11 ?_ ?x1z11 ?x2z11 ?x3z11; (case Fz11 => k_asm); (case Nz11 => k_asm); (case vz11 => k_dflt exact rfl); (case sz11 => k_dflt exact rfl); (case nz11 => k_dflt decide); (case bz11 => k_dflt decide); (case mz11 => k_dflt exact rfl); (case x1z11 => k_dflt exact rfl); (case x2z11 => k_dflt exact rfl); (case x3z11 => k_dflt decide); intro _ _ _ _; (try k_sweep)) | (with_reducible refine' Mine.take_in0 ?Fz11 ?Nz11 ?vz11 ?sz11 ?nz11 ?bz11 ?mz11 ?_ ?x1z11 ?x2z11 ?x3z11; (case Fz11 => k_asm); (case Nz11 => k_asm); (case vz11 => k_dflt exact rfl); (case sz11 => k_dflt exact rfl); (case nz11 => k_dflt decide); (case bz11 => k_dflt decide); (case mz11 => k_dflt exact rfl); (case x1z11 => k_dflt exact rfl); (case x2z11 => k_dflt exact rfl); (case x3z11 => k_dflt decide); intro _ _ _ _; (try k_sweep)))
  k_with "eval Subscript Name Constant" => (k_here; with_reducible refine' Mine.item_tup0 ?Fz12 ?vz12 ?tz12 ?loz12 ?hiz12 ?jz12 ?uz12 ?_ ?x1z12 ?x2z12 ?x3z12; (case Fz12 => k_asm); (case vz12 => k_dflt exact rfl); (case tz12 => k_dflt is_tup); (case loz12 => k_dflt decide); (case hiz12 => k_dflt decide); (case jz12 => k_dflt exact rfl); (case uz12 => k_dflt exact rfl); (case x1z12 => k_dflt exact rfl); (case x2z12 => k_dflt exact rfl); (case x3z12 => k_dflt decide); intro _)
  k_with "call ref" => (k_here; (with_reducible show wpAny _ _ (PySem.call (Value.ref 128) _) _ _ _); k_dflt (refine' Mine.hook_call (R := []) ?Sz20 ?prez20 ?hkz20 ?Bz20 ?Fz20 ?Xz20 ?Nz20 ?Tz20 ?hmz20 ?hRz20 ?hfz20 ?hkez20 ?hdz20 ?huz20 ?_; (case hkz20 => first | exact fun _ _ e => e | exact Fr.keep (by assumption) | exact fun _ _ e => Fr.keep (by assumption) _ _ (Fr.keep (by assumption) _ _ e) | exact Below.stays (by assumption)); (case Bz20 => k_asm); (case Fz20 => k_asm); (case Xz20 => k_asm); (case Nz20 => k_asm); (case Tz20 => k_asm); (case prez20 => assumption); (case hmz20 => exact fun _ h => .tail _ h); (case Sz20 => exact Mine.ask_fs _ (by assumption) _ _ _ _ (by assumption)); (case hRz20 => exact fun _ h => nomatch h); (case hfz20 => exact rfl); (case hkez20 => exact rfl); (case hdz20 => ((try dsimp only [depth_deeper, Mine.top]); (first | exact Mine.rm2 (by assumption) rfl | exact Mine.rm_tree (by assumption) | exact Mine.rm_ord (by assumption) (Nat.succ_le_succ (Nat.le_add_right _ _)) | exact Mine.rm_ord (by assumption) (Nat.succ_le_succ (Nat.le_add_left _ _)) | exact Mine.rm_ord (by assumption) (Nat.le_refl _) | omega))); (case huz20 => ((try dsimp only [units_deeper, units_in1, Mine.top]); (first | exact Mine.rm2 (by assumption) rfl | exact Mine.rm_treeu (by assumption) | exact Mine.rm_ordu (by assumption) (Nat.succ_le_succ (Nat.le_add_right _ _)) | exact Mine.rm_ordu (by assumption) (Nat.succ_le_succ (Nat.le_add_left _ _)) | exact Mine.rm_ordu (by assumption) (Nat.le_refl _) | omega)))); intro _ _ _ _ _ _ _ _ _; (try k_sweep))
  have ne1 := O.ne1; have ne2 := O.ne2; have ne3 := O.ne3
  refine' Mine.fs_plain (binds := [(Str.ofString "self", .ref K.H), (Str.ofString "value", v0)]) ?ho ?hcd ?hb ?hl ?h ?c2 ?c3 ?c4 ?c5
  case ho => (intro P; k_dflt k_is)
  case hcd => (intro P; k_dflt k_is)
  case hb => (intro s; exact BindsTo.of_eq rfl)
  case hl => exact locs rfl
  case c5 => decide
  case c2 => exact rfl
  case c3 => exact rfl
  case c4 => exact rfl
  case h =>
  intro dp un gd outer base g s p loose mean mg mb L' h' tk B' X' T' F' N' pre hd hu
  simp only [Hk.led] at N'
  try dsimp only
  (with_reducible show wpAny _ _ _ _ _ _); k_fold; k_steps
  (show Done _ _ _ _ _); exact ⟨_, _, _, (by k_asm), (by k_asm), ⟨_, _, by exact List.append_nil _, (by assumption), (by assumption)⟩, rfl⟩
set_option maxHeartbeats 40000000 in
theorem Mine.ref_value_fs {w : World} (K : Hk) (O : K.Ok w) (v0 : Value) (as : Array Value) (ka : Nat) (hsz : as.size < 90000) : FS w 156 3 [.ref K.H, v0] K.pre (K.led w as ka) (HookPost w K as.size) := by
  w_top off
  k_with_none
  k_with "callWith ref" => (k_here; k_dflt (first | (refine' callWith_K ?k1z1 ?k2z1 ?_; (case k1z1 => k_asm); (case k2z1 => k_is); k_whole) | (refine' callWith_K0 ?k1z1 ?k2z1 ?_; (case k1z1 => k_in); (case k2z1 => k_is); k_whole)))
  k_with "binaryOp Add ref ref" => (k_here; with_reducible refine' Mine.add_mem ?Fz2 ?Nz2 ?az2 ?bz2 ?zz2 ?_; (case Fz2 => k_asm); (case Nz2 => k_asm); (case az2 => k_dflt k_mem); (case bz2 => k_dflt k_mem); (case zz2 => ((try dsimp only [Mine.T.size] at *); (try simp only [Array.size_append, List.size_toArray, List.length_cons, List.length_nil]); omega)); intro _ _ _ _ l1zz; (try k_lt l1zz); (try (revert l1zz; intro _)); (try k_sweep))
  k_with "call builtin:len" => (k_here; with_reducible refine' Mine.len_mem ?Nz3 ?mz3 ?ez3 ?zz3 ?_; (case Nz3 => k_asm); (case mz3 => k_dflt k_mem); (case ez3 => first | with_reducible assumption | exact rfl); (case zz3 => ((try dsimp only [Mine.T.size] at *); (try simp only [Array.size_push]); omega)); intro _ _)
  k_with "call builtin:len" => (k_here; with_reducible refine' Mine.len_tupN ?Tz4 ?ez4 ?zz4 ?_; (case Tz4 => k_dflt is_tup); (case ez4 => first | with_reducible assumption | exact rfl); (case zz4 => first | (k_dflt decide) | ((try dsimp only [Mine.T.size] at *); omega)); intro _ _)
  k_with "call builtin:list.extend" => (k_here; with_reducible refine' Mine.ext_mem ?Fz5 ?Nz5 ?bz5 ?Uz5 ?zz5 ?_; (case Fz5 => k_asm); (case Nz5 => k_asm); (case bz5 => k_dflt k_mem); (case Uz5 => k_dflt k_updF); (case zz5 => ((try dsimp only [Mine.T.size] at *); (try simp only [Array.size_append, List.size_toArray, List.length_cons, List.length_nil]); omega)); intro _ _ _ Nqzz; (try dsimp only at Nqzz); (try (revert Nqzz; intro _)); (try k_sweep))
  k_with "call ref" => (k_here; (with_reducible show wpAny _ _ (PySem.call (Value.ref 296) _) _ _ _); k_dflt (refine' Mine.ord_call ?Iz6 ?Bz6 ?Fz6 ?Xz6 ?Nz6 ?Tz6 ?rz6 ?kz6 ?fz6 ?ez6 ?sz6 ?wz6 ?dz6 ?uz6 ?_; (case Iz6 => assumption); (case Bz6 => k_asm); (case Fz6 => k_asm); (case Xz6 => k_asm); (case Nz6 => k_asm); (case Tz6 => k_asm); (case rz6 => assumption); (case kz6 => first | exact fun _ _ e => e | exact Fr.keep (by assumption) | exact fun _ _ e => Fr.keep (by assumption) _ _ (Fr.keep (by assumption) _ _ e)); (case fz6 => exact rfl); (case ez6 => exact rfl); (case sz6 => ((try dsimp only [Mine.T.size] at *); omega)); (case wz6 => first | assumption | exact And.left (by assumption) | exact And.right (by assumption)); (case dz6 => ((try dsimp only [Mine.T.size] at *); (try dsimp only [depth_deeper, Mine.top]); (first | exact Mine.rm2 (by assumption) rfl | exact Mine.rm_tree (by assumption) | exact Mine.rm_ord (by assumption) (Nat.succ_le_succ (Nat.le_add_right _ _)) | exact Mine.rm_ord (by assumption) (Nat.succ_le_succ (Nat.le_add_left _ _)) | exact Mine.rm_ord (by assumption) (Nat.le_refl _) | omega))); (case uz6 => ((try dsimp only [Mine.T.size] at *); (try dsimp only [units_deeper, units_in1, Mine.top]); (first | exact Mine.rm2 (by assumption) rfl | exact Mine.rm_treeu (by assumption) | exact Mine.rm_ordu (by assumption) (Nat.succ_le_succ (Nat.le_add_right _ _)) | exact Mine.rm_ordu (by assumption) (Nat.succ_le_succ (Nat.le_add_left _ _)) | exact Mine.rm_ordu (by assumption) (Nat.le_refl _) | omega)))); intro _ _ _ _ _ _ _ _ _ _ _ _ _; (try k_sweep))
  k_with "call ref" => (k_here; (with_reducible show wpAny _ _ (PySem.call (Value.ref 303) _) _ _ _); k_dflt (refine' Mine.fs_call0 (mo := 2) ?Iz7 ?Bz7 ?Fz7 ?Xz7 ?Nz7 ?Tz7 ?rz7 ?kz7 ?fz7 ?ez7 ?dz7 ?uz7 ?_; (case Iz7 => assumption); (case Bz7 => k_asm); (case Fz7 => k_asm); (case Xz7 => k_asm); (case Nz7 => k_asm); (case Tz7 => k_asm); (case rz7 => assumption); (case kz7 => first | exact fun _ _ e => e | exact Fr.keep (by assumption) | exact fun _ _ e => Fr.keep (by assumption) _ _ (Fr.keep (by assumption) _ _ e)); (case fz7 => exact rfl); (case ez7 => exact rfl); (case dz7 => ((try dsimp only [Mine.T.size] at *); (try dsimp only [depth_deeper, Mine.top]); (first | exact Mine.rm2 (by assumption) rfl | exact Mine.rm_tree (by assumption) | exact Mine.rm_ord (by assumption) (Nat.succ_le_succ (Nat.le_add_right _ _)) | exact Mine.rm_ord (by assumption) (Nat.succ_le_succ (Nat.le_add_left _ _)) | exact Mine.rm_ord (by assumption) (Nat.le_refl _) | omega))); (case uz7 => ((try dsimp only [Mine.T.size] at *); (try dsimp only [units_deeper, units_in1, Mine.top]); (first | exact Mine.rm2 (by assumption) rfl | exact Mine.rm_treeu (by assumption) | exact Mine.rm_ordu (by assumption) (Nat.succ_le_succ (Nat.le_add_right _ _)) | exact Mine.rm_ordu (by assumption) (Nat.succ_le_succ (Nat.le_add_left _ _)) | exact Mine.rm_ordu (by assumption) (Nat.le_refl _) | omega)))); intro _ _ _ _ _ _ _ _ _ _ _ _ _; (try k_sweep))
  k_with "call ref" => (k_here; (with_reducible show wpAny _ _ (PySem.call (Value.ref 338) _) _ _ _); k_dflt (refine' Mine.fs_pure ?Iz8 ?Bz8 ?Fz8 ?Xz8 ?Nz8 ?Tz8 ?rz8 ?fz8 ?ez8 ?dz8 ?uz8 ?_; (case Iz8 => assumption); (case Bz8 => k_asm); (case Fz8 => k_asm); (case Xz8 => k_asm); (case Nz8 => k_asm); (case Tz8 => k_asm); (case rz8 => exact fun g' hk _ => Mine.RO.mono (by assumption) hk); (case fz8 => exact rfl); (case ez8 => exact rfl); (case dz8 => ((try dsimp only [depth_deeper, Mine.top]); (first | exact Mine.rm2 (by assumption) rfl | exact Mine.rm_tree (by assumption) | exact Mine.rm_ord (by assumption) (Nat.succ_le_succ (Nat.le_add_right _ _)) | exact Mine.rm_ord (by assumption) (Nat.succ_le_succ (Nat.le_add_left _ _)) | exact Mine.rm_ord (by assumption) (Nat.le_refl _) | omega))); (case uz8 => ((try dsimp only [units_deeper, units_in1, Mine.top]); (first | exact Mine.rm2 (by assumption) rfl | exact Mine.rm_treeu (by assumption) | exact Mine.rm_ordu (by assumption) (Nat.succ_le_succ (Nat.le_add_right _ _)) | exact Mine.rm_ordu (by assumption) (Nat.succ_le_succ (Nat.le_add_left _ _)) | exact Mine.rm_ordu (by assumption) (Nat.le_refl _) | omega)))); intro _ _ _ _ _ eqzz; (obtain ⟨tqzz, eqzz⟩ := eqzz; subst eqzz); (try (revert tqzz; intro _)); (try k_sweep))
  k_with "call builtin:isinstance" => (k_here; with_reducible refine' Mine.isi_tup ?Tz9 ?_; (case Tz9 => k_dflt is_tup); intro _)
  k_with "execs cons" => (k_here; first | (with_reducible refine' Mine.skip_if0 ?Fz10 ?vz10 ?bz10 ?_ ?x1z10 ?x2z10 ?x3z10; (case Fz10 => k_asm); (case vz10 => k_dflt exact rfl); (case bz10 => k_dflt decide); (case x1z10 => k_dflt exact rfl); (case x2z10 => k_dflt exact rfl); (case x3z10 => k_dflt decide); intro _) | (with_reducible refine' Mine.skip_or0 ?Fz10 ?vz10 ?bz10 ?b2z10 ?_ ?x1z10 ?x2z10 ?x3z10; (case Fz10 => k_asm); (case vz10 => k_dflt exact rfl); (case bz10 => k_dflt decide); (case b2z10 => k_dflt decide); (case x1z10 => k_dflt exact rfl); (case x2z10 => k_dflt exact rfl); (case x3z10 => k_dflt decide); intro _) | (with_reducible refine' Mine.take_if0 ?Fz10 ?vz10 ?bz10 ?_ ?x1z10 ?x2z10 ?x3z10; (case Fz10 => k_asm); (case vz10 => k_dflt exact rfl); (case bz10 => k_dflt decide); (case x1z10 => k_dflt exact rfl); (case x2z10 => k_dflt exact rfl); (case x3z10 => k_dflt decide); intro _))
  k_with "execs cons" => (k_here; first | (with_reducible refine' Mine.skip_in0 ?Fz11 ?Nz11 ?vz11 ?sz11 ?nz11 ?bz11 ?mz11 ?_ ?x1z11 ?x2z11 ?x3z11; (case Fz11 => k_asm); (case Nz11 => k_asm); (case vz11 => k_dflt exact rfl); (case sz11 => k_dflt exact rfl); (case nz11 => k_dflt decide); (case bz11 => k_dflt decide); (case mz11 => k_dflt exact rfl); (case x1z11 => k_dflt exact rfl); (case x2z11 => k_dflt exact rfl); (case x3z11 => k_dflt decide); intro _ _ _ _; (try k_sweep)) | (with_reducible refine' Mine.take_in0 ?Fz11 ?Nz11 ?vz11 ?sz11 ?nz11 ?bz11 ?mz11 ?_ ?x1z11 ?x2z11 ?x3z11; (case Fz11 => k_asm); (case Nz11 => k_asm); (case vz11 => k_dflt exact rfl); (case sz11 => k_dflt exact rfl); (case nz11 => k_dflt decide); (case bz11 => k_dflt decide); (case mz11 => k_dflt exact rfl); (case x1z11 => k_dflt exact rfl); (case x2z11 => k_dflt exact rfl); (case x3z11 => k_dflt decide); intro _ _ _ _; (try k_sweep)))
  k_with "eval Subscript Name Constant" => (k_here; with_reducible refine' Mine.item_tup0 ?Fz12 ?vz12 ?tz12 ?loz12 ?hiz12 ?jz12 ?uz12 ?_ ?x1z12 ?x2z12 ?x3z12; (case Fz12 => k_asm); (case vz12 => k_dflt exact rfl); (case tz12 => k_dflt is_tup); (case loz12 => k_dflt decide); (case hiz12 => k_dflt decide); (case jz12 => k_dflt exact rfl); (case uz12 => k_dflt exact rfl); (case x1z12 => k_dflt exact rfl); (case x2z12 => k_dflt exact rfl); (case x3z12 => k_dflt decide); intro _)
  k_with "call ref" => (k_here; (with_reducible show wpAny _ _ (PySem.call (Value.ref 128) _) _ _ _); k_dflt (refine' Mine.hook_call (R := []) ?Sz20 ?prez20 ?hkz20 ?Bz20 ?Fz20 ?Xz20 ?Nz20 ?Tz20 ?hmz20 ?hRz20 ?hfz20 ?hkez20 ?hdz20 ?huz20 ?_; (case hkz20 => first | exact fun _ _ e => e | exact Fr.keep (by assumption) | exact fun _ _ e => Fr.keep (by assumption) _ _ (Fr.keep (by assumption) _ _ e) | exact Below.stays (by assumption)); (case Bz20 => k_asm); (case Fz20 => k_asm); (case Xz20 => k_asm); (case Nz20 => k_asm); (case Tz20 => k_asm); (case prez20 => assumption); (case hmz20 => exact fun _ h => .tail _ h); (case Sz20 => exact Mine.ask_fs _ (by assumption) _ _ _ _ (by assumption)); (case hRz20 => exact fun _ h => nomatch h); (case hfz20 => exact rfl); (case hkez20 => exact rfl); (case hdz20 => ((try dsimp only [depth_deeper, Mine.top]); (first | exact Mine.rm2 (by assumption) rfl | exact Mine.rm_tree (by assumption) | exact Mine.rm_ord (by assumption) (Nat.succ_le_succ (Nat.le_add_right _ _)) | exact Mine.rm_ord (by assumption) (Nat.succ_le_succ (Nat.le_add_left _ _)) | exact Mine.rm_ord (by assumption) (Nat.le_refl _) | omega))); (case huz20 => ((try dsimp only [units_deeper, units_in1, Mine.top]); (first | exact Mine.rm2 (by assumption) rfl | exact Mine.rm_treeu (by assumption) | exact Mine.rm_ordu (by assumption) (Nat.succ_le_succ (Nat.le_add_right _ _)) | exact Mine.rm_ordu (by assumption) (Nat.succ_le_succ (Nat.le_add_left _ _)) | exact Mine.rm_ordu (by assumption) (Nat.le_refl _) | omega)))); intro _ _ _ _ _ _ _ _ _; (try k_sweep))
  have ne1 := O.ne1; have ne2 := O.ne2; have ne3 := O.ne3
  refine' Mine.fs_plain (binds := [(Str.ofString "self", .ref K.H), (Str.ofString "ref", v0)]) ?ho ?hcd ?hb ?hl ?h ?c2 ?c3 ?c4 ?c5
  case ho => (intro P; k_dflt k_is)
  case hcd => (intro P; k_dflt k_is)
  case hb => (intro s; exact BindsTo.of_eq rfl)
  case hl => exact locs rfl
  case c5 => decide
  case c2 => exact rfl
  case c3 => exact rfl
  case c4 => exact rfl
  case h =>
  intro dp un gd outer base g s p loose mean mg mb L' h' tk B' X' T' F' N' pre hd hu
  simp only [Hk.led] at N'
  try dsimp only
  (with_reducible show wpAny _ _ _ _ _ _); k_fold; k_steps
  (show Done _ _ _ _ _); exact ⟨_, _, _, (by k_asm), (by k_asm), ⟨_, _, by exact List.append_nil _, (by assumption), (by assumption)⟩, rfl⟩
set_option maxHeartbeats 40000000 in
theorem Mine.called_fs {w : World} (K : Hk) (O : K.Ok w) (v0 v1 v2 : Value) (as : Array Value) (ka : Nat) (hsz : as.size < 90000) : FS w 163 3 [.ref K.H, v0, v1, v2] K.pre (K.led w as ka) (HookPost w K as.size) := by
  w_top off
  k_with_none
  k_with "callWith ref" => (k_here; k_dflt (first | (refine' callWith_K ?k1z1 ?k2z1 ?_; (case k1z1 => k_asm); (case k2z1 => k_is); k_whole) | (refine' callWith_K0 ?k1z1 ?k2z1 ?_; (case k1z1 => k_in); (case k2z1 => k_is); k_whole)))
  k_with "binaryOp Add ref ref" => (k_here; with_reducible refine' Mine.add_mem ?Fz2 ?Nz2 ?az2 ?bz2 ?zz2 ?_; (case Fz2 => k_asm); (case Nz2 => k_asm); (case az2 => k_dflt k_mem); (case bz2 => k_dflt k_mem); (case zz2 => ((try dsimp only [Mine.T.size] at *); (try simp only [Array.size_append, List.size_toArray, List.length_cons, List.length_nil]); omega)); intro _ _ _ _ l1zz; (try k_lt l1zz); (try (revert l1zz; intro _)); (try k_sweep))
  k_with "call builtin:len" => (k_here; with_reducible refine' Mine.len_mem ?Nz3 ?mz3 ?ez3 ?zz3 ?_; (case Nz3 => k_asm); (case mz3 => k_dflt k_mem); (case ez3 => first | with_reducible assumption | exact rfl); (case zz3 => ((try dsimp only [Mine.T.size] at *); (try simp only [Array.size_push]); omega)); intro _ _)
  k_with "call builtin:len" => (k_here; with_reducible refine' Mine.len_tupN ?Tz4 ?ez4 ?zz4 ?_; (case Tz4 => k_dflt is_tup); (case ez4 => first | with_reducible assumption | exact rfl); (case zz4 => first | (k_dflt decide) | ((try dsimp only [Mine.T.size] at *); omega)); intro _ _)
  k_with "call builtin:list.extend" => (k_here; with_reducible refine' Mine.ext_mem ?Fz5 ?Nz5 ?bz5 ?Uz5 ?zz5 ?_; (case Fz5 => k_asm); (case Nz5 => k_asm); (case bz5 => k_dflt k_mem); (case Uz5 => k_dflt k_updF); (case zz5 => ((try dsimp only [Mine.T.size] at *); (try simp only [Array.size_append, List.size_toArray, List.length_cons, List.length_nil]); omega)); intro _ _ _ Nqzz; (try dsimp only at Nqzz); (try (revert Nqzz; intro _)); (try k_sweep))
  k_with "call ref" => (k_here; (with_reducible show wpAny _ _ (PySem.call (Value.ref 296) _) _ _ _); k_dflt (refine' Mine.ord_call ?Iz6 ?Bz6 ?Fz6 ?Xz6 ?Nz6 ?Tz6 ?rz6 ?kz6 ?fz6 ?ez6 ?sz6 ?wz6 ?dz6 ?uz6 ?_; (case Iz6 => assumption); (case Bz6 => k_asm); (case Fz6 => k_asm); (case Xz6 => k_asm); (case Nz6 => k_asm); (case Tz6 => k_asm); (case rz6 => assumption); (case kz6 => first | exact fun _ _ e => e | exact Fr.keep (by assumption) | exact fun _ _ e => Fr.keep (by assumption) _ _ (Fr.keep (by assumption) _ _ e)); (case fz6 => exact rfl); (case ez6 => exact rfl); (case sz6 => ((try dsimp only [Mine.T.size] at *); omega)); (case wz6 => first | assumption | exact And.left (by assumption) | exact And.right (by assumption)); (case dz6 => ((try dsimp only [Mine.T.size] at *); (try dsimp only [depth_deeper, Mine.top]); (first | exact Mine.rm2 (by assumption) rfl | exact Mine.rm_tree (by assumption) | exact Mine.rm_ord (by assumption) (Nat.succ_le_succ (Nat.le_add_right _ _)) | exact Mine.rm_ord (by assumption) (Nat.succ_le_succ (Nat.le_add_left _ _)) | exact Mine.rm_ord (by assumption) (Nat.le_refl _) | omega))); (case uz6 => ((try dsimp only [Mine.T.size] at *); (try dsimp only [units_deeper, units_in1, Mine.top]); (first | exact Mine.rm2 (by assumption) rfl | exact Mine.rm_treeu (by assumption) | exact Mine.rm_ordu (by assumption) (Nat.succ_le_succ (Nat.le_add_right _ _)) | exact Mine.rm_ordu (by assumption) (Nat.succ_le_succ (Nat.le_add_left _ _)) | exact Mine.rm_ordu (by assumption) (Nat.le_refl _) | omega)))); intro _ _ _ _ _ _ _ _ _ _ _ _ _; (try k_sweep))
  k_with "call ref" => (k_here; (with_reducible show wpAny _ _ (PySem.call (Value.ref 303) _) _ _ _); k_dflt (refine' Mine.fs_call0 (mo := 2) ?Iz7 ?Bz7 ?Fz7 ?Xz7 ?Nz7 ?Tz7 ?rz7 ?kz7 ?fz7 ?ez7 ?dz7 ?uz7 ?_; (case Iz7 => assumption); (case Bz7 => k_asm); (case Fz7 => k_asm); (case Xz7 => k_asm); (case Nz7 => k_asm); (case Tz7 => k_asm); (case rz7 => assumption); (case kz7 => first | exact fun _ _ e => e | exact Fr.keep (by assumption) | exact fun _ _ e => Fr.keep (by assumption) _ _ (Fr.keep (by assumption) _ _ e)); (case fz7 => exact rfl); (case ez7 => exact rfl); (case dz7 => ((try dsimp only [Mine.T.size] at *); (try dsimp only [depth_deeper, Mine.top]); (first | exact Mine.rm2 (by assumption) rfl | exact Mine.rm_tree (by assumption) | exact Mine.rm_ord (by assumption) (Nat.succ_le_succ (Nat.le_add_right _ _)) | exact Mine.rm_ord (by assumption) (Nat.succ_le_succ (Nat.le_add_left _ _)) | exact Mine.rm_ord (by assumption) (Nat.le_refl _) | omega))); (case uz7 => ((try dsimp only [Mine.T.size] at *); (try dsimp only [units_deeper, units_in1, Mine.top]); (first | exact Mine.rm2 (by assumption) rfl | exact Mine.rm_treeu (by assumption) | exact Mine.rm_ordu (by assumption) (Nat.succ_le_succ (Nat.le_add_right _ _)) | exact Mine.rm_ordu (by assumption) (Nat.succ_le_succ (Nat.le_add_left _ _)) | exact Mine.rm_ordu (by assumption) (Nat.le_refl _) | omega)))); intro _ _ _ _ _ _ _ _ _ _ _ _ _; (try k_sweep))
  k_with "call ref" => (k_here; (with_reducible show wpAny _ _ (PySem.call (Value.ref 338) _) _ _ _); k_dflt (refine' Mine.fs_pure ?Iz8 ?Bz8 ?Fz8 ?Xz8 ?Nz8 ?Tz8 ?rz8 ?fz8 ?ez8 ?dz8 ?uz8 ?_; (case Iz8 => assumption); (case Bz8 => k_asm); (case Fz8 => k_asm); (case Xz8 => k_asm); (case Nz8 => k_asm); (case Tz8 => k_asm); (case rz8 => exact fun g' hk _ => Mine.RO.mono (by assumption) hk); (case fz8 => exact rfl); (case ez8 => exact rfl); (case dz8 => ((try dsimp only [depth_deeper, Mine.top]); (first | exact Mine.rm2 (by assumption) rfl | exact Mine.rm_tree (by assumption) | exact Mine.rm_ord (by assumption) (Nat.succ_le_succ (Nat.le_add_right _ _)) | exact Mine.rm_ord (by assumption) (Nat.succ_le_succ (Nat.le_add_left _ _)) | exact Mine.rm_ord (by assumption) (Nat.le_refl _) | omega))); (case uz8 => ((try dsimp only [units_deeper, units_in1, Mine.top]); (first | exact Mine.rm2 (by assumption) rfl | exact Mine.rm_treeu (by assumption) | exact Mine.rm_ordu (by assumption) (Nat.succ_le_succ (Nat.le_add_right _ _)) | exact Mine.rm_ordu (by assumption) (Nat.succ_le_succ (Nat.le_add_left _ _)) | exact Mine.rm_ordu (by assumption) (Nat.le_refl _) | omega)))); intro _ _ _ _ _ eqzz; (obtain ⟨tqzz, eqzz⟩ := eqzz; subst eqzz); (try (revert tqzz; intro _)); (try k_sweep))
  k_with "call builtin:isinstance" => (k_here; with_reducible refine' Mine.isi_tup ?Tz9 ?_; (case Tz9 => k_dflt is_tup); intro _)
  k_with "execs cons" => (k_here; first | (with_reducible refine' Mine.skip_if0 ?Fz10 ?vz10 ?bz10 ?_ ?x1z10 ?x2z10 ?x3z10; (case Fz10 => k_asm); (case vz10 => k_dflt exact rfl); (case bz10 => k_dflt decide); (case x1z10 => k_dflt exact rfl); (case x2z10 => k_dflt exact rfl); (case x3z10 => k_dflt decide); intro _) | (with_reducible refine' Mine.skip_or0 ?Fz10 ?vz10 ?bz10 ?b2z10 ?_ ?x1z10 ?x2z10 ?x3z10; (case Fz10 => k_asm); (case vz10 => k_dflt exact rfl); (case bz10 => k_dflt decide); (case b2z10 => k_dflt decide); (case x1z10 => k_dflt exact rfl); (case x2z10 => k_dflt exact rfl); (case x3z10 => k_dflt decide); intro _) | (with_reducible refine' Mine.take_if0 ?Fz10 ?vz10 ?bz10 ?_ ?x1z10 ?x2z10 ?x3z10; (case Fz10 => k_asm); (case vz10 => k_dflt exact rfl); (case bz10 => k_dflt decide); (case x1z10 => k_dflt exact rfl); (case x2z10 => k_dflt exact rfl); (case x3z10 => k_dflt decide); intro _))
  k_with "execs cons" => (k_here; first | (with_reducible refine' Mine.skip_in0 ?Fz11 ?Nz11 ?vz11 ?sz11 ?nz11 ?bz11 ?mz11 ?_ ?x1z11 ?x2z11 ?x3z11; (case Fz11 => k_asm); (case Nz11 => k_asm); (case vz11 => k_dflt exact rfl); (case sz11 => k_dflt exact rfl); (case nz11 => k_dflt decide); (case bz11 => k_dflt decide); (case mz11 => k_dflt exact rfl); (case x1z11 => k_dflt exact rfl); (case x2z11 => k_dflt exact rfl); (case x3z11 => k_dflt decide); intro _ _ _ _; (try k_sweep)) | (with_reducible refine' Mine.take_in0 ?Fz11 ?Nz11 ?vz11 ?sz11 ?nz11 ?bz11 ?mz11 ?_ ?x1z11 ?x2z11 ?x3z11; (case Fz11 => k_asm); (case Nz11 => k_asm); (case vz11 => k_dflt exact rfl); (case sz11 => k_dflt exact rfl); (case nz11 => k_dflt decide); (case bz11 => k_dflt decide); (case mz11 => k_dflt exact rfl); (case x1z11 => k_dflt exact rfl); (case x2z11 => k_dflt exact rfl); (case x3z11 => k_dflt decide); intro _ _ _ _; (try k_sweep)))
  k_with "eval Subscript Name Constant" => (k_here; with_reducible refine' Mine.item_tup0 ?Fz12 ?vz12 ?tz12 ?loz12 ?hiz12 ?jz12 ?uz12 ?_ ?x1z12 ?x2z12 ?x3z12; (case Fz12 => k_asm); (case vz12 => k_dflt exact rfl); (case tz12 => k_dflt is_tup); (case loz12 => k_dflt decide); (case hiz12 => k_dflt decide); (case jz12 => k_dflt exact rfl); (case uz12 => k_dflt exact rfl); (case x1z12 => k_dflt exact rfl); (case x2z12 => k_dflt exact rfl); (case x3z12 => k_dflt decide); intro _)
  k_with "call ref" => (k_here; (with_reducible show wpAny _ _ (PySem.call (Value.ref 128) _) _ _ _); k_dflt (refine' Mine.hook_call (R := []) ?Sz20 ?prez20 ?hkz20 ?Bz20 ?Fz20 ?Xz20 ?Nz20 ?Tz20 ?hmz20 ?hRz20 ?hfz20 ?hkez20 ?hdz20 ?huz20 ?_; (case hkz20 => first | exact fun _ _ e => e | exact Fr.keep (by assumption) | exact fun _ _ e => Fr.keep (by assumption) _ _ (Fr.keep (by assumption) _ _ e) | exact Below.stays (by assumption)); (case Bz20 => k_asm); (case Fz20 => k_asm); (case Xz20 => k_asm); (case Nz20 => k_asm); (case Tz20 => k_asm); (case prez20 => assumption); (case hmz20 => exact fun _ h => .tail _ h); (case Sz20 => exact Mine.ask_fs _ (by assumption) _ _ _ _ (by assumption)); (case hRz20 => exact fun _ h => nomatch h); (case hfz20 => exact rfl); (case hkez20 => exact rfl); (case hdz20 => ((try dsimp only [depth_deeper, Mine.top]); (first | exact Mine.rm2 (by assumption) rfl | exact Mine.rm_tree (by assumption) | exact Mine.rm_ord (by assumption) (Nat.succ_le_succ (Nat.le_add_right _ _)) | exact Mine.rm_ord (by assumption) (Nat.succ_le_succ (Nat.le_add_left _ _)) | exact Mine.rm_ord (by assumption) (Nat.le_refl _) | omega))); (case huz20 => ((try dsimp only [units_deeper, units_in1, Mine.top]); (first | exact Mine.rm2 (by assumption) rfl | exact Mine.rm_treeu (by assumption) | exact Mine.rm_ordu (by assumption) (Nat.succ_le_succ (Nat.le_add_right _ _)) | exact Mine.rm_ordu (by assumption) (Nat.succ_le_succ (Nat.le_add_left _ _)) | exact Mine.rm_ordu (by assumption) (Nat.le_refl _) | omega)))); intro _ _ _ _ _ _ _ _ _; (try k_sweep))
  have ne1 := O.ne1; have ne2 := O.ne2; have ne3 := O.ne3
  refine' Mine.fs_plain (binds := [(Str.ofString "self", .ref K.H), (Str.ofString "name", v0), (Str.ofString "args", v1), (Str.ofString "wants_name", v2)]) ?ho ?hcd ?hb ?hl ?h ?c2 ?c3 ?c4 ?c5
  case ho => (intro P; k_dflt k_is)
  case hcd => (intro P; k_dflt k_is)
  case hb => (intro s; exact BindsTo.of_eq rfl)
  case hl => exact locs rfl
  case c5 => decide
  case c2 => exact rfl
  case c3 => exact rfl
  case c4 => exact rfl
  case h =>
  intro dp un gd outer base g s p loose mean mg mb L' h' tk B' X' T' F' N' pre hd hu
  simp only [Hk.led] at N'
  try dsimp only
  (with_reducible show wpAny _ _ _ _ _ _); k_fold; k_steps
  (show Done _ _ _ _ _); exact ⟨_, _, _, (by k_asm), (by k_asm), ⟨_, _, by exact List.append_nil _, (by assumption), (by assumption)⟩, rfl⟩
set_option maxHeartbeats 40000000 in
theorem Mine.item_of_fs {w : World} (K : Hk) (O : K.Ok w) (v0 v1 v2 : Value) (as : Array Value) (ka : Nat) (hsz : as.size < 90000) : FS w 170 3 [.ref K.H, v0, v1, v2] K.pre (K.led w as ka) (HookPost w K as.size) := by
  w_top off
  k_with_none
  k_with "callWith ref" => (k_here; k_dflt (first | (refine' callWith_K ?k1z1 ?k2z1 ?_; (case k1z1 => k_asm); (case k2z1 => k_is); k_whole) | (refine' callWith_K0 ?k1z1 ?k2z1 ?_; (case k1z1 => k_in); (case k2z1 => k_is); k_whole)))
  k_with "binaryOp Add ref ref" => (k_here; with_reducible refine' Mine.add_mem ?Fz2 ?Nz2 ?az2 ?bz2 ?zz2 ?_; (case Fz2 => k_asm); (case Nz2 => k_asm); (case az2 => k_dflt k_mem); (case bz2 => k_dflt k_mem); (case zz2 => ((try dsimp only [Mine.T.size] at *); (try simp only [Array.size_append, List.size_toArray, List.length_cons, List.length_nil]); omega)); intro _ _ _ _ l1zz; (try k_lt l1zz); (try (revert l1zz; intro _)); (try k_sweep))
  k_with "call builtin:len" => (k_here; with_reducible refine' Mine.len_mem ?Nz3 ?mz3 ?ez3 ?zz3 ?_; (case Nz3 => k_asm); (case mz3 => k_dflt k_mem); (case ez3 => first | with_reducible assumption | exact rfl); (case zz3 => ((try dsimp only [Mine.T.size] at *); (try simp only [Array.size_push]); omega)); intro _ _)
  k_with "call builtin:len" => (k_here; with_reducible refine' Mine.len_tupN ?Tz4 ?ez4 ?zz4 ?_; (case Tz4 => k_dflt is_tup); (case ez4 => first | with_reducible assumption | exact rfl); (case zz4 => first | (k_dflt decide) | ((try dsimp only [Mine.T.size] at *); omega)); intro _ _)
  k_with "call builtin:list.extend" => (k_here; with_reducible refine' Mine.ext_mem ?Fz5 ?Nz5 ?bz5 ?Uz5 ?zz5 ?_; (case Fz5 => k_asm); (case Nz5 => k_asm); (case bz5 => k_dflt k_mem); (case Uz5 => k_dflt k_updF); (case zz5 => ((try dsimp only [Mine.T.size] at *); (try simp only [Array.size_append, List.size_toArray, List.length_cons, List.length_nil]); omega)); intro _ _ _ Nqzz; (try dsimp only at Nqzz); (try (revert Nqzz; intro _)); (try k_sweep))
  k_with "call ref" => (k_here; (with_reducible show wpAny _ _ (PySem.call (Value.ref 296) _) _ _ _); k_dflt (refine' Mine.ord_call ?Iz6 ?Bz6 ?Fz6 ?Xz6 ?Nz6 ?Tz6 ?rz6 ?kz6 ?fz6 ?ez6 ?sz6 ?wz6 ?dz6 ?uz6 ?_; (case Iz6 => assumption); (case Bz6 => k_asm); (case Fz6 => k_asm); (case Xz6 => k_asm); (case Nz6 => k_asm); (case Tz6 => k_asm); (case rz6 => assumption); (case kz6 => first | exact fun _ _ e => e | exact Fr.keep (by assumption) | exact fun _ _ e => Fr.keep (by assumption) _ _ (Fr.keep (by assumption) _ _ e)); (case fz6 => exact rfl); (case ez6 => exact rfl); (case sz6 => ((try dsimp only [Mine.T.size] at *); omega)); (case wz6 => first | assumption | exact And.left (by assumption) | exact And.right (by assumption)); (case dz6 => ((try dsimp only [Mine.T.size] at *); (try dsimp only [depth_deeper, Mine.top]); (first | exact Mine.rm2 (by assumption) rfl | exact Mine.rm_tree (by assumption) | exact Mine.rm_ord (by assumption) (Nat.succ_le_succ (Nat.le_add_right _ _)) | exact Mine.rm_ord (by assumption) (Nat.succ_le_succ (Nat.le_add_left _ _)) | exact Mine.rm_ord (by assumption) (Nat.le_refl _) | omega))); (case uz6 => ((try dsimp only [Mine.T.size] at *); (try dsimp only [units_deeper, units_in1, Mine.top]); (first | exact Mine.rm2 (by assumption) rfl | exact Mine.rm_treeu (by assumption) | exact Mine.rm_ordu (by assumption) (Nat.succ_le_succ (Nat.le_add_right _ _)) | exact Mine.rm_ordu (by assumption) (Nat.succ_le_succ (Nat.le_add_left _ _)) | exact Mine.rm_ordu (by assumption) (Nat.le_refl _) | omega)))); intro _ _ _ _ _ _ _ _ _ _ _ _ _; (try k_sweep))
  k_with "call ref" => (k_here; (with_reducible show wpAny _ _ (PySem.call (Value.ref 303) _) _ _ _); k_dflt (refine' Mine.fs_call0 (mo := 2) ?Iz7 ?Bz7 ?Fz7 ?Xz7 ?Nz7 ?Tz7 ?rz7 ?kz7 ?fz7 ?ez7 ?dz7 ?uz7 ?_; (case Iz7 => assumption); (case Bz7 => k_asm); (case Fz7 => k_asm); (case Xz7 => k_asm); (case Nz7 => k_asm); (case Tz7 => k_asm); (case rz7 => assumption); (case kz7 => first | exact fun _ _ e => e | exact Fr.keep (by assumption) | exact fun _ _ e => Fr.keep (by assumption) _ _ (Fr.keep (by assumption) _ _ e)); (case fz7 => exact rfl); (case ez7 => exact rfl); (case dz7 => ((try dsimp only [Mine.T.size] at *); (try dsimp only [depth_deeper, Mine.top]); (first | exact Mine.rm2 (by assumption) rfl | exact Mine.rm_tree (by assumption) | exact Mine.rm_ord (by assumption) (Nat.succ_le_succ (Nat.le_add_right _ _)) | exact Mine.rm_ord (by assumption) (Nat.succ_le_succ (Nat.le_add_left _ _)) | exact Mine.rm_ord (by assumption) (Nat.le_refl _) | omega))); (case uz7 => ((try dsimp only [Mine.T.size] at *); (try dsimp only [units_deeper, units_in1, Mine.top]); (first | exact Mine.rm2 (by assumption) rfl | exact Mine.rm_treeu (by assumption) | exact Mine.rm_ordu (by assumption) (Nat.succ_le_succ (Nat.le_add_right _ _)) | exact Mine.rm_ordu (by assumption) (Nat.succ_le_succ (Nat.le_add_left _ _)) | exact Mine.rm_ordu (by assumption) (Nat.le_refl _) | omega)))); intro _ _ _ _ _ _ _ _ _ _ _ _ _; (try k_sweep))
  k_with "call ref" => (k_here; (with_reducible show wpAny _ _ (PySem.call (Value.ref 338) _) _ _ _); k_dflt (refine' Mine.fs_pure ?Iz8 ?Bz8 ?Fz8 ?Xz8 ?Nz8 ?Tz8 ?rz8 ?fz8 ?ez8 ?dz8 ?uz8 ?_; (case Iz8 => assumption); (case Bz8 => k_asm); (case Fz8 => k_asm); (case Xz8 => k_asm); (case Nz8 => k_asm); (case Tz8 => k_asm); (case rz8 => exact fun g' hk _ => Mine.RO.mono (by assumption) hk); (case fz8 => exact rfl); (case ez8 => exact rfl); (case dz8 => ((try dsimp only [depth_deeper, Mine.top]); (first | exact Mine.rm2 (by assumption) rfl | exact Mine.rm_tree (by assumption) | exact Mine.rm_ord (by assumption) (Nat.succ_le_succ (Nat.le_add_right _ _)) | exact Mine.rm_ord (by assumption) (Nat.succ_le_succ (Nat.le_add_left _ _)) | exact Mine.rm_ord (by assumption) (Nat.le_refl _) | omega))); (case uz8 => ((try dsimp only [units_deeper, units_in1, Mine.top]); (first | exact Mine.rm2 (by assumption) rfl | exact Mine.rm_treeu (by assumption) | exact Mine.rm_ordu (by assumption) (Nat.succ_le_succ (Nat.le_add_right _ _)) | exact Mine.rm_ordu (by assumption) (Nat.succ_le_succ (Nat.le_add_left _ _)) | exact Mine.rm_ordu (by assumption) (Nat.le_refl _) | omega)))); intro _ _ _ _ _ eqzz; (obtain ⟨tqzz, eqzz⟩ := eqzz; subst eqzz); (try (revert tqzz; intro _)); (try k_sweep))
  k_with "call builtin:isinstance" => (k_here; with_reducible refine' Mine.isi_tup ?Tz9 ?_; (case Tz9 => k_dflt is_tup); intro _)
  k_with "execs cons" => (k_here; first | (with_reducible refine' Mine.skip_if0 ?Fz10 ?vz10 ?bz10 ?_ ?x1z10 ?x2z10 ?x3z10; (case Fz10 => k_asm); (case vz10 => k_dflt exact rfl); (case bz10 => k_dflt decide); (case x1z10 => k_dflt exact rfl); (case x2z10 => k_dflt exact rfl); (case x3z10 => k_dflt decide); intro _) | (with_reducible refine' Mine.skip_or0 ?Fz10 ?vz10 ?bz10 ?b2z10 ?_ ?x1z10 ?x2z10 ?x3z10; (case Fz10 => k_asm); (case vz10 => k_dflt exact rfl); (case bz10 => k_dflt decide); (case b2z10 => k_dflt decide); (case x1z10 => k_dflt exact rfl); (case x2z10 => k_dflt exact rfl); (case x3z10 => k_dflt decide); intro _) | (with_reducible refine' Mine.take_if0 ?Fz10 ?vz10 ?bz10 ?_ ?x1z10 ?x2z10 ?x3z10; (case Fz10 => k_asm); (case vz10 => k_dflt exact rfl); (case bz10 => k_dflt decide); (case x1z10 => k_dflt exact rfl); (case x2z10 => k_dflt exact rfl); (case x3z10 => k_dflt decide); intro _))
  k_with "execs cons" => (k_here; first | (with_reducible refine' Mine.skip_in0 ?Fz11 ?Nz11 ?vz11 ?sz11 ?nz11 ?bz11 ?mz11 ?_ ?x1z11 ?x2z11 ?x3z11; (case Fz11 => k_asm); (case Nz11 => k_asm); (case vz11 => k_dflt exact rfl); (case sz11 => k_dflt exact rfl); (case nz11 => k_dflt decide); (case bz11 => k_dflt decide); (case mz11 => k_dflt exact rfl); (case x1z11 => k_dflt exact rfl); (case x2z11 => k_dflt exact rfl); (case x3z11 => k_dflt decide); intro _ _ _ _; (try k_sweep)) | (with_reducible refine' Mine.take_in0 ?Fz11 ?Nz11 ?vz11 ?sz11 ?nz11 ?bz11 ?mz11 ?_ ?x1z11 ?x2z11 ?x3z11; (case Fz11 => k_asm); (case Nz11 => k_asm); (case vz11 => k_dflt exact rfl); (case sz11 => k_dflt exact rfl); (case nz11 => k_dflt decide); (case bz11 => k_dflt decide); (case mz11 => k_dflt exact rfl); (case x1z11 => k_dflt exact rfl); (case x2z11 => k_dflt exact rfl); (case x3z11 => k_dflt decide); intro _ _ _ _; (try k_sweep)))
  k_with "eval Subscript Name Constant" => (k_here; with_reducible refine' Mine.item_tup0 ?Fz12 ?vz12 ?tz12 ?loz12 ?hiz12 ?jz12 ?uz12 ?_ ?x1z12 ?x2z12 ?x3z12; (case Fz12 => k_asm); (case vz12 => k_dflt exact rfl); (case tz12 => k_dflt is_tup); (case loz12 => k_dflt decide); (case hiz12 => k_dflt decide); (case jz12 => k_dflt exact rfl); (case uz12 => k_dflt exact rfl); (case x1z12 => k_dflt exact rfl); (case x2z12 => k_dflt exact rfl); (case x3z12 => k_dflt decide); intro _)
  k_with "call ref" => (k_here; (with_reducible show wpAny _ _ (PySem.call (Value.ref 128) _) _ _ _); k_dflt (refine' Mine.hook_call (R := []) ?Sz20 ?prez20 ?hkz20 ?Bz20 ?Fz20 ?Xz20 ?Nz20 ?Tz20 ?hmz20 ?hRz20 ?hfz20 ?hkez20 ?hdz20 ?huz20 ?_; (case hkz20 => first | exact fun _ _ e => e | exact Fr.keep (by assumption) | exact fun _ _ e => Fr.keep (by assumption) _ _ (Fr.keep (by assumption) _ _ e) | exact Below.stays (by assumption)); (case Bz20 => k_asm); (case Fz20 => k_asm); (case Xz20 => k_asm); (case Nz20 => k_asm); (case Tz20 => k_asm); (case prez20 => assumption); (case hmz20 => exact fun _ h => .tail _ h); (case Sz20 => exact Mine.ask_fs _ (by assumption) _ _ _ _ (by assumption)); (case hRz20 => exact fun _ h => nomatch h); (case hfz20 => exact rfl); (case hkez20 => exact rfl); (case hdz20 => ((try dsimp only [depth_deeper, Mine.top]); (first | exact Mine.rm2 (by assumption) rfl | exact Mine.rm_tree (by assumption) | exact Mine.rm_ord (by assumption) (Nat.succ_le_succ (Nat.le_add_right _ _)) | exact Mine.rm_ord (by assumption) (Nat.succ_le_succ (Nat.le_add_left _ _)) | exact Mine.rm_ord (by assumption) (Nat.le_refl _) | omega))); (case huz20 => ((try dsimp only [units_deeper, units_in1, Mine.top]); (first | exact Mine.rm2 (by assumption) rfl | exact Mine.rm_treeu (by assumption) | exact Mine.rm_ordu (by assumption) (Nat.succ_le_succ (Nat.le_add_right _ _)) | exact Mine.rm_ordu (by assumption) (Nat.succ_le_succ (Nat.le_add_left _ _)) | exact Mine.rm_ordu (by assumption) (Nat.le_refl _) | omega)))); intro _ _ _ _ _ _ _ _ _; (try k_sweep))
  have ne1 := O.ne1; have ne2 := O.ne2; have ne3 := O.ne3
  refine' Mine.fs_plain (binds := [(Str.ofString "self", .ref K.H), (Str.ofString "owner", v0), (Str.ofString "keys", v1), (Str.ofString "wants_name", v2)]) ?ho ?hcd ?hb ?hl ?h ?c2 ?c3 ?c4 ?c5
  case ho => (intro P; k_dflt k_is)
  case hcd => (intro P; k_dflt k_is)
  case hb => (intro s; exact BindsTo.of_eq rfl)
  case hl => exact locs rfl
  case c5 => decide
  case c2 => exact rfl
  case c3 => exact rfl
  case c4 => exact rfl
  case h =>
  intro dp un gd outer base g s p loose mean mg mb L' h' tk B' X' T' F' N' pre hd hu
  simp only [Hk.led] at N'
  try dsimp only
  (with_reducible show wpAny _ _ _ _ _ _); k_fold; k_steps
  (show Done _ _ _ _ _); exact ⟨_, _, _, (by k_asm), (by k_asm), ⟨_, _, by exact List.append_nil _, (by assumption), (by assumption)⟩, rfl⟩
set_option maxHeartbeats 40000000 in
theorem Mine.operated_fs {w : World} (K : Hk) (O : K.Ok w) (v0 v1 : Value) (as : Array Value) (ka : Nat) (hsz : as.size < 90000) : FS w 177 3 [.ref K.H, v0, v1] K.pre (K.led w as ka) (HookPost w K as.size) := by
  w_top off
  k_with_none
  k_with "callWith ref" => (k_here; k_dflt (first | (refine' callWith_K ?k1z1 ?k2z1 ?_; (case k1z1 => k_asm); (case k2z1 => k_is); k_whole) | (refine' callWith_K0 ?k1z1 ?k2z1 ?_; (case k1z1 => k_in); (case k2z1 => k_is); k_whole)))
  k_with "binaryOp Add ref ref" => (k_here; with_reducible refine' Mine.add_mem ?Fz2 ?Nz2 ?az2 ?bz2 ?zz2 ?_; (case Fz2 => k_asm); (case Nz2 => k_asm); (case az2 => k_dflt k_mem); (case bz2 => k_dflt k_mem); (case zz2 => ((try dsimp only [Mine.T.size] at *); (try simp only [Array.size_append, List.size_toArray, List.length_cons, List.length_nil]); omega)); intro _ _ _ _ l1zz; (try k_lt l1zz); (try (revert l1zz; intro _)); (try k_sweep))
  k_with "call builtin:len" => (k_here; with_reducible refine' Mine.len_mem ?Nz3 ?mz3 ?ez3 ?zz3 ?_; (case Nz3 => k_asm); (case mz3 => k_dflt k_mem); (case ez3 => first | with_reducible assumption | exact rfl); (case zz3 => ((try dsimp only [Mine.T.size] at *); (try simp only [Array.size_push]); omega)); intro _ _)
  k_with "call builtin:len" => (k_here; with_reducible refine' Mine.len_tupN ?Tz4 ?ez4 ?zz4 ?_; (case Tz4 => k_dflt is_tup); (case ez4 => first | with_reducible assumption | exact rfl); (case zz4 => first | (k_dflt decide) | ((try dsimp only [Mine.T.size] at *); omega)); intro _ _)
  k_with "call builtin:list.extend" => (k_here; with_reducible refine' Mine.ext_mem ?Fz5 ?Nz5 ?bz5 ?Uz5 ?zz5 ?_; (case Fz5 => k_asm); (case Nz5 => k_asm); (case bz5 => k_dflt k_mem); (case Uz5 => k_dflt k_updF); (case zz5 => ((try dsimp only [Mine.T.size] at *); (try simp only [Array.size_append, List.size_toArray, List.length_cons, List.length_nil]); omega)); intro _ _ _ Nqzz; (try dsimp only at Nqzz); (try (revert Nqzz; intro _)); (try k_sweep))
  k_with "call ref" => (k_here; (with_reducible show wpAny _ _ (PySem.call (Value.ref 296) _) _ _ _); k_dflt (refine' Mine.ord_call ?Iz6 ?Bz6 ?Fz6 ?Xz6 ?Nz6 ?Tz6 ?rz6 ?kz6 ?fz6 ?ez6 ?sz6 ?wz6 ?dz6 ?uz6 ?_; (case Iz6 => assumption); (case Bz6 => k_asm); (case Fz6 => k_asm); (case Xz6 => k_asm); (case Nz6 => k_asm); (case Tz6 => k_asm); (case rz6 => assumption); (case kz6 => first | exact fun _ _ e => e | exact Fr.keep (by assumption) | exact fun _ _ e => Fr.keep (by assumption) _ _ (Fr.keep (by assumption) _ _ e)); (case fz6 => exact rfl); (case ez6 => exact rfl); (case sz6 => ((try dsimp only [Mine.T.size] at *); omega)); (case wz6 => first | assumption | exact And.left (by assumption) | exact And.right (by assumption)); (case dz6 => ((try dsimp only [Mine.T.size] at *); (try dsimp only [depth_deeper, Mine.top]); (first | exact Mine.rm2 (by assumption) rfl | exact Mine.rm_tree (by assumption) | exact Mine.rm_ord (by assumption) (Nat.succ_le_succ (Nat.le_add_right _ _)) | exact Mine.rm_ord (by assumption) (Nat.succ_le_succ (Nat.le_add_left _ _)) | exact Mine.rm_ord (by assumption) (Nat.le_refl _) | omega))); (case uz6 => ((try dsimp only [Mine.T.size] at *); (try dsimp only [units_deeper, units_in1, Mine.top]); (first | exact Mine.rm2 (by assumption) rfl | exact Mine.rm_treeu (by assumption) | exact Mine.rm_ordu (by assumption) (Nat.succ_le_succ (Nat.le_add_right _ _)) | exact Mine.rm_ordu (by assumption) (Nat.succ_le_succ (Nat.le_add_left _ _)) | exact Mine.rm_ordu (by assumption) (Nat.le_refl _) | omega)))); intro _ _ _ _ _ _ _ _ _ _ _ _ _; (try k_sweep))
  k_with "call ref" => (k_here; (with_reducible show wpAny _ _ (PySem.call (Value.ref 303) _) _ _ _); k_dflt (refine' Mine.fs_call0 (mo := 2) ?Iz7 ?Bz7 ?Fz7 ?Xz7 ?Nz7 ?Tz7 ?rz7 ?kz7 ?fz7 ?ez7 ?dz7 ?uz7 ?_; (case Iz7 => assumption); (case Bz7 => k_asm); (case Fz7 => k_asm); (case Xz7 => k_asm); (case Nz7 => k_asm); (case Tz7 => k_asm); (case rz7 => assumption); (case kz7 => first | exact fun _ _ e => e | exact Fr.keep (by assumption) | exact fun _ _ e => Fr.keep (by assumption) _ _ (Fr.keep (by assumption) _ _ e)); (case fz7 => exact rfl); (case ez7 => exact rfl); (case dz7 => ((try dsimp only [Mine.T.size] at *); (try dsimp only [depth_deeper, Mine.top]); (first | exact Mine.rm2 (by assumption) rfl | exact Mine.rm_tree (by assumption) | exact Mine.rm_ord (by assumption) (Nat.succ_le_succ (Nat.le_add_right _ _)) | exact Mine.rm_ord (by assumption) (Nat.succ_le_succ (Nat.le_add_left _ _)) | exact Mine.rm_ord (by assumption) (Nat.le_refl _) | omega))); (case uz7 => ((try dsimp only [Mine.T.size] at *); (try dsimp only [units_deeper, units_in1, Mine.top]); (first | exact Mine.rm2 (by assumption) rfl | exact Mine.rm_treeu (by assumption) | exact Mine.rm_ordu (by assumption) (Nat.succ_le_succ (Nat.le_add_right _ _)) | exact Mine.rm_ordu (by assumption) (Nat.succ_le_succ (Nat.le_add_left _ _)) | exact Mine.rm_ordu (by assumption) (Nat.le_refl _) | omega)))); intro _ _ _ _ _ _ _ _ _ _ _ _ _; (try k_sweep))
  k_with "call ref" => (k_here; (with_reducible show wpAny _ _ (PySem.call (Value.ref 338) _) _ _ _); k_dflt (refine' Mine.fs_pure ?Iz8 ?Bz8 ?Fz8 ?Xz8 ?Nz8 ?Tz8 ?rz8 ?fz8 ?ez8 ?dz8 ?uz8 ?_; (case Iz8 => assumption); (case Bz8 => k_asm); (case Fz8 => k_asm); (case Xz8 => k_asm); (case Nz8 => k_asm); (case Tz8 => k_asm); (case rz8 => exact fun g' hk _ => Mine.RO.mono (by assumption) hk); (case fz8 => exact rfl); (case ez8 => exact rfl); (case dz8 => ((try dsimp only [depth_deeper, Mine.top]); (first | exact Mine.rm2 (by assumption) rfl | exact Mine.rm_tree (by assumption) | exact Mine.rm_ord (by assumption) (Nat.succ_le_succ (Nat.le_add_right _ _)) | exact Mine.rm_ord (by assumption) (Nat.succ_le_succ (Nat.le_add_left _ _)) | exact Mine.rm_ord (by assumption) (Nat.le_refl _) | omega))); (case uz8 => ((try dsimp only [units_deeper, units_in1, Mine.top]); (first | exact Mine.rm2 (by assumption) rfl | exact Mine.rm_treeu (by assumption) | exact Mine.rm_ordu (by assumption) (Nat.succ_le_succ (Nat.le_add_right _ _)) | exact Mine.rm_ordu (by assumption) (Nat.succ_le_succ (Nat.le_add_left _ _)) | exact Mine.rm_ordu (by assumption) (Nat.le_refl _) | omega)))); intro _ _ _ _ _ eqzz; (obtain ⟨tqzz, eqzz⟩ := eqzz; subst eqzz); (try (revert tqzz; intro _)); (try k_sweep))
  k_with "call builtin:isinstance" => (k_here; with_reducible refine' Mine.isi_tup ?Tz9 ?_; (case Tz9 => k_dflt is_tup); intro _)
  k_with "execs cons" => (k_here; first | (with_reducible refine' Mine.skip_if0 ?Fz10 ?vz10 ?bz10 ?_ ?x1z10 ?x2z10 ?x3z10; (case Fz10 => k_asm); (case vz10 => k_dflt exact rfl); (case bz10 => k_dflt decide); (case x1z10 => k_dflt exact rfl); (case x2z10 => k_dflt exact rfl); (case x3z10 => k_dflt decide); intro _) | (with_reducible refine' Mine.skip_or0 ?Fz10 ?vz10 ?bz10 ?b2z10 ?_ ?x1z10 ?x2z10 ?x3z10; (case Fz10 => k_asm); (case vz10 => k_dflt exact rfl); (case bz10 => k_dflt decide); (case b2z10 => k_dflt decide); (case x1z10 => k_dflt exact rfl); (case x2z10 => k_dflt exact rfl); (case x3z10 => k_dflt decide); intro _) | (with_reducible refine' Mine.take_if0 ?Fz10 ?vz10 ?bz10 ?_ ?x1z10 ?x2z10 ?x3z10; (case Fz10 => k_asm); (case vz10 => k_dflt exact rfl); (case bz10 => k_dflt decide); (case x1z10 => k_dflt exact rfl); (case x2z10 => k_dflt exact rfl); (case x3z10 => k_dflt decide); intro _))
  k_with "execs cons" => (k_here; first | (with_reducible refine' Mine.skip_in0 ?Fz11 ?Nz11 ?vz11 ?sz11 ?nz11 ?bz11 ?mz11 ?_ ?x1z11 ?x2z11 ?x3z11; (case Fz11 => k_asm); (case Nz11 => k_asm); (case vz11 => k_dflt exact rfl); (case sz11 => k_dflt exact rfl); (case nz11 => k_dflt decide); (case bz11 => k_dflt decide); (case mz11 => k_dflt exact rfl); (case x1z11 => k_dflt exact rfl); (case x2z11 => k_dflt exact rfl); (case x3z11 => k_dflt decide); intro _ _ _ _; (try k_sweep)) | (with_reducible refine' Mine.take_in0 ?Fz11 ?Nz11 ?vz11 ?sz11 ?nz11 ?bz11 ?mz11 ?_ ?x1z11 ?x2z11 ?x3z11; (case Fz11 => k_asm); (case Nz11 => k_asm); (case vz11 => k_dflt exact rfl); (case sz11 => k_dflt exact rfl); (case nz11 => k_dflt decide); (case bz11 => k_dflt decide); (case mz11 => k_dflt exact rfl); (case x1z11 => k_dflt exact rfl); (case x2z11 => k_dflt exact rfl); (case x3z11 => k_dflt decide); intro _ _ _ _; (try k_sweep)))
  k_with "eval Subscript Name Constant" => (k_here; with_reducible refine' Mine.item_tup0 ?Fz12 ?vz12 ?tz12 ?loz12 ?hiz12 ?jz12 ?uz12 ?_ ?x1z12 ?x2z12 ?x3z12; (case Fz12 => k_asm); (case vz12 => k_dflt exact rfl); (case tz12 => k_dflt is_tup); (case loz12 => k_dflt decide); (case hiz12 => k_dflt decide); (case jz12 => k_dflt exact rfl); (case uz12 => k_dflt exact rfl); (case x1z12 => k_dflt exact rfl); (case x2z12 => k_dflt exact rfl); (case x3z12 => k_dflt decide); intro _)
  k_with "call ref" => (k_here; (with_reducible show wpAny _ _ (PySem.call (Value.ref 128) _) _ _ _); k_dflt (refine' Mine.hook_call (R := []) ?Sz20 ?prez20 ?hkz20 ?Bz20 ?Fz20 ?Xz20 ?Nz20 ?Tz20 ?hmz20 ?hRz20 ?hfz20 ?hkez20 ?hdz20 ?huz20 ?_; (case hkz20 => first | exact fun _ _ e => e | exact Fr.keep (by assumption) | exact fun _ _ e => Fr.keep (by assumption) _ _ (Fr.keep (by assumption) _ _ e) | exact Below.stays (by assumption)); (case Bz20 => k_asm); (case Fz20 => k_asm); (case Xz20 => k_asm); (case Nz20 => k_asm); (case Tz20 => k_asm); (case prez20 => assumption); (case hmz20 => exact fun _ h => .tail _ h); (case Sz20 => exact Mine.ask_fs _ (by assumption) _ _ _ _ (by assumption)); (case hRz20 => exact fun _ h => nomatch h); (case hfz20 => exact rfl); (case hkez20 => exact rfl); (case hdz20 => ((try dsimp only [depth_deeper, Mine.top]); (first | exact Mine.rm2 (by assumption) rfl | exact Mine.rm_tree (by assumption) | exact Mine.rm_ord (by assumption) (Nat.succ_le_succ (Nat.le_add_right _ _)) | exact Mine.rm_ord (by assumption) (Nat.succ_le_succ (Nat.le_add_left _ _)) | exact Mine.rm_ord (by assumption) (Nat.le_refl _) | omega))); (case huz20 => ((try dsimp only [units_deeper, units_in1, Mine.top]); (first | exact Mine.rm2 (by assumption) rfl | exact Mine.rm_treeu (by assumption) | exact Mine.rm_ordu (by assumption) (Nat.succ_le_succ (Nat.le_add_right _ _)) | exact Mine.rm_ordu (by assumption) (Nat.succ_le_succ (Nat.le_add_left _ _)) | exact Mine.rm_ordu (by assumption) (Nat.le_refl _) | omega)))); intro _ _ _ _ _ _ _ _ _; (try k_sweep))
  have ne1 := O.ne1; have ne2 := O.ne2; have ne3 := O.ne3
  refine' Mine.fs_plain (binds := [(Str.ofString "self", .ref K.H), (Str.ofString "op", v0), (Str.ofString "args", v1)]) ?ho ?hcd ?hb ?hl ?h ?c2 ?c3 ?c4 ?c5
  case ho => (intro P; k_dflt k_is)
  case hcd => (intro P; k_dflt k_is)
  case hb => (intro s; exact BindsTo.of_eq rfl)
  case hl => exact locs rfl
  case c5 => decide
  case c2 => exact rfl
  case c3 => exact rfl
  case c4 => exact rfl
  case h =>
  intro dp un gd outer base g s p loose mean mg mb L' h' tk B' X' T' F' N' pre hd hu
  simp only [Hk.led] at N'
  try dsimp only
  (with_reducible show wpAny _ _ _ _ _ _); k_fold; k_steps
  (show Done _ _ _ _ _); exact ⟨_, _, _, (by k_asm), (by k_asm), ⟨_, _, by exact List.append_nil _, (by assumption), (by assumption)⟩, rfl⟩
set_option maxHeartbeats 40000000 in
theorem Mine.given_part_fs {w : World} (K : Hk) (O : K.Ok w) (v0 v1 v2 : Value) (as : Array Value) (ka : Nat) (hsz : as.size < 90000) : FS w 191 3 [.ref K.H, v0, v1, v2] K.pre (K.led w as ka) (HookPost w K as.size) := by
  w_top off
  k_with_none
  k_with "callWith ref" => (k_here; k_dflt (first | (refine' callWith_K ?k1z1 ?k2z1 ?_; (case k1z1 => k_asm); (case k2z1 => k_is); k_whole) | (refine' callWith_K0 ?k1z1 ?k2z1 ?_; (case k1z1 => k_in); (case k2z1 => k_is); k_whole)))
  k_with "binaryOp Add ref ref" => (k_here; with_reducible refine' Mine.add_mem ?Fz2 ?Nz2 ?az2 ?bz2 ?zz2 ?_; (case Fz2 => k_asm); (case Nz2 => k_asm); (case az2 => k_dflt k_mem); (case bz2 => k_dflt k_mem); (case zz2 => ((try dsimp only [Mine.T.size] at *); (try simp only [Array.size_append, List.size_toArray, List.length_cons, List.length_nil]); omega)); intro _ _ _ _ l1zz; (try k_lt l1zz); (try (revert l1zz; intro _)); (try k_sweep))
  k_with "call builtin:len" => (k_here; with_reducible refine' Mine.len_mem ?Nz3 ?mz3 ?ez3 ?zz3 ?_; (case Nz3 => k_asm); (case mz3 => k_dflt k_mem); (case ez3 => first | with_reducible assumption | exact rfl); (case zz3 => ((try dsimp only [Mine.T.size] at *); (try simp only [Array.size_push]); omega)); intro _ _)
  k_with "call builtin:len" => (k_here; with_reducible refine' Mine.len_tupN ?Tz4 ?ez4 ?zz4 ?_; (case Tz4 => k_dflt is_tup); (case ez4 => first | with_reducible assumption | exact rfl); (case zz4 => first | (k_dflt decide) | ((try dsimp only [Mine.T.size] at *); omega)); intro _ _)
  k_with "call builtin:list.extend" => (k_here; with_reducible refine' Mine.ext_mem ?Fz5 ?Nz5 ?bz5 ?Uz5 ?zz5 ?_; (case Fz5 => k_asm); (case Nz5 => k_asm); (case bz5 => k_dflt k_mem); (case Uz5 => k_dflt k_updF); (case zz5 => ((try dsimp only [Mine.T.size] at *); (try simp only [Array.size_append, List.size_toArray, List.length_cons, List.length_nil]); omega)); intro _ _ _ Nqzz; (try dsimp only at Nqzz); (try (revert Nqzz; intro _)); (try k_sweep))
  k_with "call ref" => (k_here; (with_reducible show wpAny _ _ (PySem.call (Value.ref 296) _) _ _ _); k_dflt (refine' Mine.ord_call ?Iz6 ?Bz6 ?Fz6 ?Xz6 ?Nz6 ?Tz6 ?rz6 ?kz6 ?fz6 ?ez6 ?sz6 ?wz6 ?dz6 ?uz6 ?_; (case Iz6 => assumption); (case Bz6 => k_asm); (case Fz6 => k_asm); (case Xz6 => k_asm); (case Nz6 => k_asm); (case Tz6 => k_asm); (case rz6 => assumption); (case kz6 => first | exact fun _ _ e => e | exact Fr.keep (by assumption) | exact fun _ _ e => Fr.keep (by assumption) _ _ (Fr.keep (by assumption) _ _ e)); (case fz6 => exact rfl); (case ez6 => exact rfl); (case sz6 => ((try dsimp only [Mine.T.size] at *); omega)); (case wz6 => first | assumption | exact And.left (by assumption) | exact And.right (by assumption)); (case dz6 => ((try dsimp only [Mine.T.size] at *); (try dsimp only [depth_deeper, Mine.top]); (first | exact Mine.rm2 (by assumption) rfl | exact Mine.rm_tree (by assumption) | exact Mine.rm_ord (by assumption) (Nat.succ_le_succ (Nat.le_add_right _ _)) | exact Mine.rm_ord (by assumption) (Nat.succ_le_succ (Nat.le_add_left _ _)) | exact Mine.rm_ord (by assumption) (Nat.le_refl _) | omega))); (case uz6 => ((try dsimp only [Mine.T.size] at *); (try dsimp only [units_deeper, units_in1, Mine.top]); (first | exact Mine.rm2 (by assumption) rfl | exact Mine.rm_treeu (by assumption) | exact Mine.rm_ordu (by assumption) (Nat.succ_le_succ (Nat.le_add_right _ _)) | exact Mine.rm_ordu (by assumption) (Nat.succ_le_succ (Nat.le_add_left _ _)) | exact Mine.rm_ordu (by assumption) (Nat.le_refl _) | omega)))); intro _ _ _ _ _ _ _ _ _ _ _ _ _; (try k_sweep))
  k_with "call ref" => (k_here; (with_reducible show wpAny _ _ (PySem.call (Value.ref 303) _) _ _ _); k_dflt (refine' Mine.fs_call0 (mo := 2) ?Iz7 ?Bz7 ?Fz7 ?Xz7 ?Nz7 ?Tz7 ?rz7 ?kz7 ?fz7 ?ez7 ?dz7 ?uz7 ?_; (case Iz7 => assumption); (case Bz7 => k_asm); (case Fz7 => k_asm); (case Xz7 => k_asm); (case Nz7 => k_asm); (case Tz7 => k_asm); (case rz7 => assumption); (case kz7 => first | exact fun _ _ e => e | exact Fr.keep (by assumption) | exact fun _ _ e => Fr.keep (by assumption) _ _ (Fr.keep (by assumption) _ _ e)); (case fz7 => exact rfl); (case ez7 => exact rfl); (case dz7 => ((try dsimp only [Mine.T.size] at *); (try dsimp only [depth_deeper, Mine.top]); (first | exact Mine.rm2 (by assumption) rfl | exact Mine.rm_tree (by assumption) | exact Mine.rm_ord (by assumption) (Nat.succ_le_succ (Nat.le_add_right _ _)) | exact Mine.rm_ord (by assumption) (Nat.succ_le_succ (Nat.le_add_left _ _)) | exact Mine.rm_ord (by assumption) (Nat.le_refl _) | omega))); (case uz7 => ((try dsimp only [Mine.T.size] at *); (try dsimp only [units_deeper, units_in1, Mine.top]); (first | exact Mine.rm2 (by assumption) rfl | exact Mine.rm_treeu (by assumption) | exact Mine.rm_ordu (by assumption) (Nat.succ_le_succ (Nat.le_add_right _ _)) | exact Mine.rm_ordu (by assumption) (Nat.succ_le_succ (Nat.le_add_left _ _)) | exact Mine.rm_ordu (by assumption) (Nat.le_refl _) | omega)))); intro _ _ _ _ _ _ _ _ _ _ _ _ _; (try k_sweep))
  k_with "call ref" => (k_here; (with_reducible show wpAny _ _ (PySem.call (Value.ref 338) _) _ _ _); k_dflt (refine' Mine.fs_pure ?Iz8 ?Bz8 ?Fz8 ?Xz8 ?Nz8 ?Tz8 ?rz8 ?fz8 ?ez8 ?dz8 ?uz8 ?_; (case Iz8 => assumption); (case Bz8 => k_asm); (case Fz8 => k_asm); (case Xz8 => k_asm); (case Nz8 => k_asm); (case Tz8 => k_asm); (case rz8 => exact fun g' hk _ => Mine.RO.mono (by assumption) hk); (case fz8 => exact rfl); (case ez8 => exact rfl); (case dz8 => ((try dsimp only [depth_deeper, Mine.top]); (first | exact Mine.rm2 (by assumption) rfl | exact Mine.rm_tree (by assumption) | exact Mine.rm_ord (by assumption) (Nat.succ_le_succ (Nat.le_add_right _ _)) | exact Mine.rm_ord (by assumption) (Nat.succ_le_succ (Nat.le_add_left _ _)) | exact Mine.rm_ord (by assumption) (Nat.le_refl _) | omega))); (case uz8 => ((try dsimp only [units_deeper, units_in1, Mine.top]); (first | exact Mine.rm2 (by assumption) rfl | exact Mine.rm_treeu (by assumption) | exact Mine.rm_ordu (by assumption) (Nat.succ_le_succ (Nat.le_add_right _ _)) | exact Mine.rm_ordu (by assumption) (Nat.succ_le_succ (Nat.le_add_left _ _)) | exact Mine.rm_ordu (by assumption) (Nat.le_refl _) | omega)))); intro _ _ _ _ _ eqzz; (obtain ⟨tqzz, eqzz⟩ := eqzz; subst eqzz); (try (revert tqzz; intro _)); (try k_sweep))
  k_with "call builtin:isinstance" => (k_here; with_reducible refine' Mine.isi_tup ?Tz9 ?_; (case Tz9 => k_dflt is_tup); intro _)
  k_with "execs cons" => (k_here; first | (with_reducible refine' Mine.skip_if0 ?Fz10 ?vz10 ?bz10 ?_ ?x1z10 ?x2z10 ?x3z10; (case Fz10 => k_asm); (case vz10 => k_dflt exact rfl); (case bz10 => k_dflt decide); (case x1z10 => k_dflt exact rfl); (case x2z10 => k_dflt exact rfl); (case x3z10 => k_dflt decide); intro _) | (with_reducible refine' Mine.skip_or0 ?Fz10 ?vz10 ?bz10 ?b2z10 ?_ ?x1z10 ?x2z10 ?x3z10; (case Fz10 => k_asm); (case vz10 => k_dflt exact rfl); (case bz10 => k_dflt decide); (case b2z10 => k_dflt decide); (case x1z10 => k_dflt exact rfl); (case x2z10 => k_dflt exact rfl); (case x3z10 => k_dflt decide); intro _) | (with_reducible refine' Mine.take_if0 ?Fz10 ?vz10 ?bz10 ?_ ?x1z10 ?x2z10 ?x3z10; (case Fz10 => k_asm); (case vz10 => k_dflt exact rfl); (case bz10 => k_dflt decide); (case x1z10 => k_dflt exact rfl); (case x2z10 => k_dflt exact rfl); (case x3z10 => k_dflt decide); intro _))
  k_with "execs cons" => (k_here; first | (with_reducible refine' Mine.skip_in0 ?Fz11 ?Nz11 ?vz11 ?sz11 ?nz11 ?bz11 ?mz11 ?_ ?x1z11 ?x2z11 ?x3z11; (case Fz11 => k_asm); (case Nz11 => k_asm); (case vz11 => k_dflt exact rfl); (case sz11 => k_dflt exact rfl); (case nz11 => k_dflt decide); (case bz11 => k_dflt decide); (case mz11 => k_dflt exact rfl); (case x1z11 => k_dflt exact rfl); (case x2z11 => k_dflt exact rfl); (case x3z11 => k_dflt decide); intro _ _ _ _; (try k_sweep)) | (with_reducible refine' Mine.take_in0 ?Fz11 ?Nz11 ?vz11 ?sz11 ?nz11 ?bz11 ?mz11 ?_ ?x1z11 ?x2z11 ?x3z11; (case Fz11 => k_asm); (case Nz11 => k_asm); (case vz11 => k_dflt exact rfl); (case sz11 => k_dflt exact rfl); (case nz11 => k_dflt decide); (case bz11 => k_dflt decide); (case mz11 => k_dflt exact rfl); (case x1z11 => k_dflt exact rfl); (case x2z11 => k_dflt exact rfl); (case x3z11 => k_dflt decide); intro _ _ _ _; (try k_sweep)))
  k_with "eval Subscript Name Constant" => (k_here; with_reducible refine' Mine.item_tup0 ?Fz12 ?vz12 ?tz12 ?loz12 ?hiz12 ?jz12 ?uz12 ?_ ?x1z12 ?x2z12 ?x3z12; (case Fz12 => k_asm); (case vz12 => k_dflt exact rfl); (case tz12 => k_dflt is_tup); (case loz12 => k_dflt decide); (case hiz12 => k_dflt decide); (case jz12 => k_dflt exact rfl); (case uz12 => k_dflt exact rfl); (case x1z12 => k_dflt exact rfl); (case x2z12 => k_dflt exact rfl); (case x3z12 => k_dflt decide); intro _)
  k_with "call ref" => (k_here; (with_reducible show wpAny _ _ (PySem.call (Value.ref 128) _) _ _ _); k_dflt (refine' Mine.hook_call (R := []) ?Sz20 ?prez20 ?hkz20 ?Bz20 ?Fz20 ?Xz20 ?Nz20 ?Tz20 ?hmz20 ?hRz20 ?hfz20 ?hkez20 ?hdz20 ?huz20 ?_; (case hkz20 => first | exact fun _ _ e => e | exact Fr.keep (by assumption) | exact fun _ _ e => Fr.keep (by assumption) _ _ (Fr.keep (by assumption) _ _ e) | exact Below.stays (by assumption)); (case Bz20 => k_asm); (case Fz20 => k_asm); (case Xz20 => k_asm); (case Nz20 => k_asm); (case Tz20 => k_asm); (case prez20 => assumption); (case hmz20 => exact fun _ h => .tail _ h); (case Sz20 => exact Mine.ask_fs _ (by assumption) _ _ _ _ (by assumption)); (case hRz20 => exact fun _ h => nomatch h); (case hfz20 => exact rfl); (case hkez20 => exact rfl); (case hdz20 => ((try dsimp only [depth_deeper, Mine.top]); (first | exact Mine.rm2 (by assumption) rfl | exact Mine.rm_tree (by assumption) | exact Mine.rm_ord (by assumption) (Nat.succ_le_succ (Nat.le_add_right _ _)) | exact Mine.rm_ord (by assumption) (Nat.succ_le_succ (Nat.le_add_left _ _)) | exact Mine.rm_ord (by assumption) (Nat.le_refl _) | omega))); (case huz20 => ((try dsimp only [units_deeper, units_in1, Mine.top]); (first | exact Mine.rm2 (by assumption) rfl | exact Mine.rm_treeu (by assumption) | exact Mine.rm_ordu (by assumption) (Nat.succ_le_succ (Nat.le_add_right _ _)) | exact Mine.rm_ordu (by assumption) (Nat.succ_le_succ (Nat.le_add_left _ _)) | exact Mine.rm_ordu (by assumption) (Nat.le_refl _) | omega)))); intro _ _ _ _ _ _ _ _ _; (try k_sweep))
  have ne1 := O.ne1; have ne2 := O.ne2; have ne3 := O.ne3
  refine' Mine.fs_plain (binds := [(Str.ofString "self", .ref K.H), (Str.ofString "op", v0), (Str.ofString "value", v1), (Str.ofString "ref", v2)]) ?ho ?hcd ?hb ?hl ?h ?c2 ?c3 ?c4 ?c5
  case ho => (intro P; k_dflt k_is)
  case hcd => (intro P; k_dflt k_is)
  case hb => (intro s; exact BindsTo.of_eq rfl)
  case hl => exact locs rfl
  case c5 => decide
  case c2 => exact rfl
  case c3 => exact rfl
  case c4 => exact rfl
  case h =>
  intro dp un gd outer base g s p loose mean mg mb L' h' tk B' X' T' F' N' pre hd hu
  simp only [Hk.led] at N'
  try dsimp only
  (with_reducible show wpAny _ _ _ _ _ _); k_fold; k_steps
  (show Done _ _ _ _ _); exact ⟨_, _, _, (by k_asm), (by k_asm), ⟨_, _, by exact List.append_nil _, (by assumption), (by assumption)⟩, rfl⟩
set_option maxHeartbeats 40000000 in
theorem Mine.cursor_fs {w : World} (K : Hk) (O : K.Ok w) (v0 : Value) (as : Array Value) (ka : Nat) (hsz : as.size < 90000) : FS w 198 3 [.ref K.H, v0] K.pre (K.led w as ka) (HookPost w K as.size) := by
  w_top off
  k_with_none
  k_with "callWith ref" => (k_here; k_dflt (first | (refine' callWith_K ?k1z1 ?k2z1 ?_; (case k1z1 => k_asm); (case k2z1 => k_is); k_whole) | (refine' callWith_K0 ?k1z1 ?k2z1 ?_; (case k1z1 => k_in); (case k2z1 => k_is); k_whole)))
  k_with "binaryOp Add ref ref" => (k_here; with_reducible refine' Mine.add_mem ?Fz2 ?Nz2 ?az2 ?bz2 ?zz2 ?_; (case Fz2 => k_asm); (case Nz2 => k_asm); (case az2 => k_dflt k_mem); (case bz2 => k_dflt k_mem); (case zz2 => ((try dsimp only [Mine.T.size] at *); (try simp only [Array.size_append, List.size_toArray, List.length_cons, List.length_nil]); omega)); intro _ _ _ _ l1zz; (try k_lt l1zz); (try (revert l1zz; intro _)); (try k_sweep))
  k_with "call builtin:len" => (k_here; with_reducible refine' Mine.len_mem ?Nz3 ?mz3 ?ez3 ?zz3 ?_; (case Nz3 => k_asm); (case mz3 => k_dflt k_mem); (case ez3 => first | with_reducible assumption | exact rfl); (case zz3 => ((try dsimp only [Mine.T.size] at *); (try simp only [Array.size_push]); omega)); intro _ _)
  k_with "call builtin:len" => (k_here; with_reducible refine' Mine.len_tupN ?Tz4 ?ez4 ?zz4 ?_; (case Tz4 => k_dflt is_tup); (case ez4 => first | with_reducible assumption | exact rfl); (case zz4 => first | (k_dflt decide) | ((try dsimp only [Mine.T.size] at *); omega)); intro _ _)
  k_with "call builtin:list.extend" => (k_here; with_reducible refine' Mine.ext_mem ?Fz5 ?Nz5 ?bz5 ?Uz5 ?zz5 ?_; (case Fz5 => k_asm); (case Nz5 => k_asm); (case bz5 => k_dflt k_mem); (case Uz5 => k_dflt k_updF); (case zz5 => ((try dsimp only [Mine.T.size] at *); (try simp only [Array.size_append, List.size_toArray, List.length_cons, List.length_nil]); omega)); intro _ _ _ Nqzz; (try dsimp only at Nqzz); (try (revert Nqzz; intro _)); (try k_sweep))
  k_with "call ref" => (k_here; (with_reducible show wpAny _ _ (PySem.call (Value.ref 296) _) _ _ _); k_dflt (refine' Mine.ord_call ?Iz6 ?Bz6 ?Fz6 ?Xz6 ?Nz6 ?Tz6 ?rz6 ?kz6 ?fz6 ?ez6 ?sz6 ?wz6 ?dz6 ?uz6 ?_; (case Iz6 => assumption); (case Bz6 => k_asm); (case Fz6 => k_asm); (case Xz6 => k_asm); (case Nz6 => k_asm); (case Tz6 => k_asm); (case rz6 => assumption); (case kz6 => first | exact fun _ _ e => e | exact Fr.keep (by assumption) | exact fun _ _ e => Fr.keep (by assumption) _ _ (Fr.keep (by assumption) _ _ e)); (case fz6 => exact rfl); (case ez6 => exact rfl); (case sz6 => ((try dsimp only [Mine.T.size] at *); omega)); (case wz6 => first | assumption | exact And.left (by assumption) | exact And.right (by assumption)); (case dz6 => ((try dsimp only [Mine.T.size] at *); (try dsimp only [depth_deeper, Mine.top]); (first | exact Mine.rm2 (by assumption) rfl | exact Mine.rm_tree (by assumption) | exact Mine.rm_ord (by assumption) (Nat.succ_le_succ (Nat.le_add_right _ _)) | exact Mine.rm_ord (by assumption) (Nat.succ_le_succ (Nat.le_add_left _ _)) | exact Mine.rm_ord (by assumption) (Nat.le_refl _) | omega))); (case uz6 => ((try dsimp only [Mine.T.size] at *); (try dsimp only [units_deeper, units_in1, Mine.top]); (first | exact Mine.rm2 (by assumption) rfl | exact Mine.rm_treeu (by assumption) | exact Mine.rm_ordu (by assumption) (Nat.succ_le_succ (Nat.le_add_right _ _)) | exact Mine.rm_ordu (by assumption) (Nat.succ_le_succ (Nat.le_add_left _ _)) | exact Mine.rm_ordu (by assumption) (Nat.le_refl _) | omega)))); intro _ _ _ _ _ _ _ _ _ _ _ _ _; (try k_sweep))
  k_with "call ref" => (k_here; (with_reducible show wpAny _ _ (PySem.call (Value.ref 303) _) _ _ _); k_dflt (refine' Mine.fs_call0 (mo := 2) ?Iz7 ?Bz7 ?Fz7 ?Xz7 ?Nz7 ?Tz7 ?rz7 ?kz7 ?fz7 ?ez7 ?dz7 ?uz7 ?_; (case Iz7 => assumption); (case Bz7 => k_asm); (case Fz7 => k_asm); (case Xz7 => k_asm); (case Nz7 => k_asm); (case Tz7 => k_asm); (case rz7 => assumption); (case kz7 => first | exact fun _ _ e => e | exact Fr.keep (by assumption) | exact fun _ _ e => Fr.keep (by assumption) _ _ (Fr.keep (by assumption) _ _ e)); (case fz7 => exact rfl); (case ez7 => exact rfl); (case dz7 => ((try dsimp only [Mine.T.size] at *); (try dsimp only [depth_deeper, Mine.top]); (first | exact Mine.rm2 (by assumption) rfl | exact Mine.rm_tree (by assumption) | exact Mine.rm_ord (by assumption) (Nat.succ_le_succ (Nat.le_add_right _ _)) | exact Mine.rm_ord (by assumption) (Nat.succ_le_succ (Nat.le_add_left _ _)) | exact Mine.rm_ord (by assumption) (Nat.le_refl _) | omega))); (case uz7 => ((try dsimp only [Mine.T.size] at *); (try dsimp only [units_deeper, units_in1, Mine.top]); (first | exact Mine.rm2 (by assumption) rfl | exact Mine.rm_treeu (by assumption) | exact Mine.rm_ordu (by assumption) (Nat.succ_le_succ (Nat.le_add_right _ _)) | exact Mine.rm_ordu (by assumption) (Nat.succ_le_succ (Nat.le_add_left _ _)) | exact Mine.rm_ordu (by assumption) (Nat.le_refl _) | omega)))); intro _ _ _ _ _ _ _ _ _ _ _ _ _; (try k_sweep))
  k_with "call ref" => (k_here; (with_reducible show wpAny _ _ (PySem.call (Value.ref 338) _) _ _ _); k_dflt (refine' Mine.fs_pure ?Iz8 ?Bz8 ?Fz8 ?Xz8 ?Nz8 ?Tz8 ?rz8 ?fz8 ?ez8 ?dz8 ?uz8 ?_; (case Iz8 => assumption); (case Bz8 => k_asm); (case Fz8 => k_asm); (case Xz8 => k_asm); (case Nz8 => k_asm); (case Tz8 => k_asm); (case rz8 => exact fun g' hk _ => Mine.RO.mono (by assumption) hk); (case fz8 => exact rfl); (case ez8 => exact rfl); (case dz8 => ((try dsimp only [depth_deeper, Mine.top]); (first | exact Mine.rm2 (by assumption) rfl | exact Mine.rm_tree (by assumption) | exact Mine.rm_ord (by assumption) (Nat.succ_le_succ (Nat.le_add_right _ _)) | exact Mine.rm_ord (by assumption) (Nat.succ_le_succ (Nat.le_add_left _ _)) | exact Mine.rm_ord (by assumption) (Nat.le_refl _) | omega))); (case uz8 => ((try dsimp only [units_deeper, units_in1, Mine.top]); (first | exact Mine.rm2 (by assumption) rfl | exact Mine.rm_treeu (by assumption) | exact Mine.rm_ordu (by assumption) (Nat.succ_le_succ (Nat.le_add_right _ _)) | exact Mine.rm_ordu (by assumption) (Nat.succ_le_succ (Nat.le_add_left _ _)) | exact Mine.rm_ordu (by assumption) (Nat.le_refl _) | omega)))); intro _ _ _ _ _ eqzz; (obtain ⟨tqzz, eqzz⟩ := eqzz; subst eqzz); (try (revert tqzz; intro _)); (try k_sweep))
  k_with "call builtin:isinstance" => (k_here; with_reducible refine' Mine.isi_tup ?Tz9 ?_; (case Tz9 => k_dflt is_tup); intro _)
  k_with "execs cons" => (k_here; first | (with_reducible refine' Mine.skip_if0 ?Fz10 ?vz10 ?bz10 ?_ ?x1z10 ?x2z10 ?x3z10; (case Fz10 => k_asm); (case vz10 => k_dflt exact rfl); (case bz10 => k_dflt decide); (case x1z10 => k_dflt exact rfl); (case x2z10 => k_dflt exact rfl); (case x3z10 => k_dflt decide); intro _) | (with_reducible refine' Mine.skip_or0 ?Fz10 ?vz10 ?bz10 ?b2z10 ?_ ?x1z10 ?x2z10 ?x3z10; (case Fz10 => k_asm); (case vz10 => k_dflt exact rfl); (case bz10 => k_dflt decide); (case b2z10 => k_dflt decide); (case x1z10 => k_dflt exact rfl); (case x2z10 => k_dflt exact rfl); (case x3z10 => k_dflt decide); intro _) | (with_reducible refine' Mine.take_if0 ?Fz10 ?vz10 ?bz10 ?_ ?x1z10 ?x2z10 ?x3z10; (case Fz10 => k_asm); (case vz10 => k_dflt exact rfl); (case bz10 => k_dflt decide); (case x1z10 => k_dflt exact rfl); (case x2z10 => k_dflt exact rfl); (case x3z10 => k_dflt decide); intro _))
  k_with "execs cons" => (k_here; first | (with_reducible refine' Mine.skip_in0 ?Fz11 ?Nz11 ?vz11 ?sz11 ?nz11 ?bz11 ?mz11 ?_ ?x1z11 ?x2z11 ?x3z11; (case Fz11 => k_asm); (case Nz11 => k_asm); (case vz11 => k_dflt exact rfl); (case sz11 => k_dflt exact rfl); (case nz11 => k_dflt decide); (case bz11 => k_dflt decide); (case mz11 => k_dflt exact rfl); (case x1z11 => k_dflt exact rfl); (case x2z11 => k_dflt exact rfl); (case x3z11 => k_dflt decide); intro _ _ _ _; (try k_sweep)) | (with_reducible refine' Mine.take_in0 ?Fz11 ?Nz11 ?vz11 ?sz11 ?nz11 ?bz11 ?mz11 ?_ ?x1z11 ?x2z11 ?x3z11; (case Fz11 => k_asm); (case Nz11 => k_asm); (case vz11 => k_dflt exact rfl); (case sz11 => k_dflt exact rfl); (case nz11 => k_dflt decide); (case bz11 => k_dflt decide); (case mz11 => k_dflt exact rfl); (case x1z11 => k_dflt exact rfl); (case x2z11 => k_dflt exact rfl); (case x3z11 => k_dflt decide); intro _ _ _ _; (try k_sweep)))
  k_with "eval Subscript Name Constant" => (k_here; with_reducible refine' Mine.item_tup0 ?Fz12 ?vz12 ?tz12 ?loz12 ?hiz12 ?jz12 ?uz12 ?_ ?x1z12 ?x2z12 ?x3z12; (case Fz12 => k_asm); (case vz12 => k_dflt exact rfl); (case tz12 => k_dflt is_tup); (case loz12 => k_dflt decide); (case hiz12 => k_dflt decide); (case jz12 => k_dflt exact rfl); (case uz12 => k_dflt exact rfl); (case x1z12 => k_dflt exact rfl); (case x2z12 => k_dflt exact rfl); (case x3z12 => k_dflt decide); intro _)
  k_with "call ref" => (k_here; (with_reducible show wpAny _ _ (PySem.call (Value.ref 128) _) _ _ _); k_dflt (refine' Mine.hook_call (R := []) ?Sz20 ?prez20 ?hkz20 ?Bz20 ?Fz20 ?Xz20 ?Nz20 ?Tz20 ?hmz20 ?hRz20 ?hfz20 ?hkez20 ?hdz20 ?huz20 ?_; (case hkz20 => first | exact fun _ _ e => e | exact Fr.keep (by assumption) | exact fun _ _ e => Fr.keep (by assumption) _ _ (Fr.keep (by assumption) _ _ e) | exact Below.stays (by assumption)); (case Bz20 => k_asm); (case Fz20 => k_asm); (case Xz20 => k_asm); (case Nz20 => k_asm); (case Tz20 => k_asm); (case prez20 => assumption); (case hmz20 => exact fun _ h => .tail _ h); (case Sz20 => exact Mine.ask_fs _ (by assumption) _ _ _ _ (by assumption)); (case hRz20 => exact fun _ h => nomatch h); (case hfz20 => exact rfl); (case hkez20 => exact rfl); (case hdz20 => ((try dsimp only [depth_deeper, Mine.top]); (first | exact Mine.rm2 (by assumption) rfl | exact Mine.rm_tree (by assumption) | exact Mine.rm_ord (by assumption) (Nat.succ_le_succ (Nat.le_add_right _ _)) | exact Mine.rm_ord (by assumption) (Nat.succ_le_succ (Nat.le_add_left _ _)) | exact Mine.rm_ord (by assumption) (Nat.le_refl _) | omega))); (case huz20 => ((try dsimp only [units_deeper, units_in1, Mine.top]); (first | exact Mine.rm2 (by assumption) rfl | exact Mine.rm_treeu (by assumption) | exact Mine.rm_ordu (by assumption) (Nat.succ_le_succ (Nat.le_add_right _ _)) | exact Mine.rm_ordu (by assumption) (Nat.succ_le_succ (Nat.le_add_left _ _)) | exact Mine.rm_ordu (by assumption) (Nat.le_refl _) | omega)))); intro _ _ _ _ _ _ _ _ _; (try k_sweep))
  have ne1 := O.ne1; have ne2 := O.ne2; have ne3 := O.ne3
  refine' Mine.fs_plain (binds := [(Str.ofString "self", .ref K.H), (Str.ofString "ref", v0)]) ?ho ?hcd ?hb ?hl ?h ?c2 ?c3 ?c4 ?c5
  case ho => (intro P; k_dflt k_is)
  case hcd => (intro P; k_dflt k_is)
  case hb => (intro s; exact BindsTo.of_eq rfl)
  case hl => exact locs rfl
  case c5 => decide
  case c2 => exact rfl
  case c3 => exact rfl
  case c4 => exact rfl
  case h =>
  intro dp un gd outer base g s p loose mean mg mb L' h' tk B' X' T' F' N' pre hd hu
  simp only [Hk.led] at N'
  try dsimp only
  (with_reducible show wpAny _ _ _ _ _ _); k_fold; k_steps
  (show Done _ _ _ _ _); exact ⟨_, _, _, (by k_asm), (by k_asm), ⟨_, _, by exact List.append_nil _, (by assumption), (by assumption)⟩, rfl⟩
set_option maxHeartbeats 40000000 in
theorem Mine.push_fs {w : World} (V : Wk) (S : Addr) (st : Array Value) (ks : Nat) (v : Value) (ne1 : NeA V.W V.D) (ne2 : NeA V.W S) (ne3 : NeA V.D S) (hsz : st.size < 90000) (hv : v = .none ∨ ∃ x, RS v x) :
    FS w 86 3 [.ref V.W, v] (fun _ => True) (V.sled w S st ks) (PushPost w V S st v) := by
  w_top off
  k_with_none
  k_with "callWith ref" => (k_here; k_dflt (first | (refine' callWith_K ?k1z1 ?k2z1 ?_; (case k1z1 => k_asm); (case k2z1 => k_is); k_whole) | (refine' callWith_K0 ?k1z1 ?k2z1 ?_; (case k1z1 => k_in); (case k2z1 => k_is); k_whole)))
  k_with "binaryOp Add ref ref" => (k_here; with_reducible refine' Mine.add_mem ?Fz2 ?Nz2 ?az2 ?bz2 ?zz2 ?_; (case Fz2 => k_asm); (case Nz2 => k_asm); (case az2 => k_dflt k_mem); (case bz2 => k_dflt k_mem); (case zz2 => ((try dsimp only [Mine.T.size] at *); (try simp only [Array.size_append, List.size_toArray, List.length_cons, List.length_nil]); omega)); intro _ _ _ _ l1zz; (try k_lt l1zz); (try (revert l1zz; intro _)); (try k_sweep))
  k_with "call builtin:len" => (k_here; with_reducible refine' Mine.len_mem ?Nz3 ?mz3 ?ez3 ?zz3 ?_; (case Nz3 => k_asm); (case mz3 => k_dflt k_mem); (case ez3 => first | with_reducible assumption | exact rfl); (case zz3 => ((try dsimp only [Mine.T.size] at *); (try simp only [Array.size_push]); omega)); intro _ _)
  k_with "call builtin:len" => (k_here; with_reducible refine' Mine.len_tupN ?Tz4 ?ez4 ?zz4 ?_; (case Tz4 => k_dflt is_tup); (case ez4 => first | with_reducible assumption | exact rfl); (case zz4 => first | (k_dflt decide) | ((try dsimp only [Mine.T.size] at *); omega)); intro _ _)
  k_with "call builtin:list.extend" => (k_here; with_reducible refine' Mine.ext_mem ?Fz5 ?Nz5 ?bz5 ?Uz5 ?zz5 ?_; (case Fz5 => k_asm); (case Nz5 => k_asm); (case bz5 => k_dflt k_mem); (case Uz5 => k_dflt k_updF); (case zz5 => ((try dsimp only [Mine.T.size] at *); (try simp only [Array.size_append, List.size_toArray, List.length_cons, List.length_nil]); omega)); intro _ _ _ Nqzz; (try dsimp only at Nqzz); (try (revert Nqzz; intro _)); (try k_sweep))
  k_with "call ref" => (k_here; (with_reducible show wpAny _ _ (PySem.call (Value.ref 296) _) _ _ _); k_dflt (refine' Mine.ord_call ?Iz6 ?Bz6 ?Fz6 ?Xz6 ?Nz6 ?Tz6 ?rz6 ?kz6 ?fz6 ?ez6 ?sz6 ?wz6 ?dz6 ?uz6 ?_; (case Iz6 => assumption); (case Bz6 => k_asm); (case Fz6 => k_asm); (case Xz6 => k_asm); (case Nz6 => k_asm); (case Tz6 => k_asm); (case rz6 => assumption); (case kz6 => first | exact fun _ _ e => e | exact Fr.keep (by assumption) | exact fun _ _ e => Fr.keep (by assumption) _ _ (Fr.keep (by assumption) _ _ e)); (case fz6 => exact rfl); (case ez6 => exact rfl); (case sz6 => ((try dsimp only [Mine.T.size] at *); omega)); (case wz6 => first | assumption | exact And.left (by assumption) | exact And.right (by assumption)); (case dz6 => ((try dsimp only [Mine.T.size] at *); (try dsimp only [depth_deeper, Mine.top]); (first | exact Mine.rm2 (by assumption) rfl | exact Mine.rm_tree (by assumption) | exact Mine.rm_ord (by assumption) (Nat.succ_le_succ (Nat.le_add_right _ _)) | exact Mine.rm_ord (by assumption) (Nat.succ_le_succ (Nat.le_add_left _ _)) | exact Mine.rm_ord (by assumption) (Nat.le_refl _) | omega))); (case uz6 => ((try dsimp only [Mine.T.size] at *); (try dsimp only [units_deeper, units_in1, Mine.top]); (first | exact Mine.rm2 (by assumption) rfl | exact Mine.rm_treeu (by assumption) | exact Mine.rm_ordu (by assumption) (Nat.succ_le_succ (Nat.le_add_right _ _)) | exact Mine.rm_ordu (by assumption) (Nat.succ_le_succ (Nat.le_add_left _ _)) | exact Mine.rm_ordu (by assumption) (Nat.le_refl _) | omega)))); intro _ _ _ _ _ _ _ _ _ _ _ _ _; (try k_sweep))
  k_with "call ref" => (k_here; (with_reducible show wpAny _ _ (PySem.call (Value.ref 303) _) _ _ _); k_dflt (refine' Mine.fs_call0 (mo := 2) ?Iz7 ?Bz7 ?Fz7 ?Xz7 ?Nz7 ?Tz7 ?rz7 ?kz7 ?fz7 ?ez7 ?dz7 ?uz7 ?_; (case Iz7 => assumption); (case Bz7 => k_asm); (case Fz7 => k_asm); (case Xz7 => k_asm); (case Nz7 => k_asm); (case Tz7 => k_asm); (case rz7 => assumption); (case kz7 => first | exact fun _ _ e => e | exact Fr.keep (by assumption) | exact fun _ _ e => Fr.keep (by assumption) _ _ (Fr.keep (by assumption) _ _ e)); (case fz7 => exact rfl); (case ez7 => exact rfl); (case dz7 => ((try dsimp only [Mine.T.size] at *); (try dsimp only [depth_deeper, Mine.top]); (first | exact Mine.rm2 (by assumption) rfl | exact Mine.rm_tree (by assumption) | exact Mine.rm_ord (by assumption) (Nat.succ_le_succ (Nat.le_add_right _ _)) | exact Mine.rm_ord (by assumption) (Nat.succ_le_succ (Nat.le_add_left _ _)) | exact Mine.rm_ord (by assumption) (Nat.le_refl _) | omega))); (case uz7 => ((try dsimp only [Mine.T.size] at *); (try dsimp only [units_deeper, units_in1, Mine.top]); (first | exact Mine.rm2 (by assumption) rfl | exact Mine.rm_treeu (by assumption) | exact Mine.rm_ordu (by assumption) (Nat.succ_le_succ (Nat.le_add_right _ _)) | exact Mine.rm_ordu (by assumption) (Nat.succ_le_succ (Nat.le_add_left _ _)) | exact Mine.rm_ordu (by assumption) (Nat.le_refl _) | omega)))); intro _ _ _ _ _ _ _ _ _ _ _ _ _; (try k_sweep))
  k_with "call ref" => (k_here; (with_reducible show wpAny _ _ (PySem.call (Value.ref 338) _) _ _ _); k_dflt (refine' Mine.fs_pure ?Iz8 ?Bz8 ?Fz8 ?Xz8 ?Nz8 ?Tz8 ?rz8 ?fz8 ?ez8 ?dz8 ?uz8 ?_; (case Iz8 => assumption); (case Bz8 => k_asm); (case Fz8 => k_asm); (case Xz8 => k_asm); (case Nz8 => k_asm); (case Tz8 => k_asm); (case rz8 => exact fun g' hk _ => Mine.RO.mono (by assumption) hk); (case fz8 => exact rfl); (case ez8 => exact rfl); (case dz8 => ((try dsimp only [depth_deeper, Mine.top]); (first | exact Mine.rm2 (by assumption) rfl | exact Mine.rm_tree (by assumption) | exact Mine.rm_ord (by assumption) (Nat.succ_le_succ (Nat.le_add_right _ _)) | exact Mine.rm_ord (by assumption) (Nat.succ_le_succ (Nat.le_add_left _ _)) | exact Mine.rm_ord (by assumption) (Nat.le_refl _) | omega))); (case uz8 => ((try dsimp only [units_deeper, units_in1, Mine.top]); (first | exact Mine.rm2 (by assumption) rfl | exact Mine.rm_treeu (by assumption) | exact Mine.rm_ordu (by assumption) (Nat.succ_le_succ (Nat.le_add_right _ _)) | exact Mine.rm_ordu (by assumption) (Nat.succ_le_succ (Nat.le_add_left _ _)) | exact Mine.rm_ordu (by assumption) (Nat.le_refl _) | omega)))); intro _ _ _ _ _ eqzz; (obtain ⟨tqzz, eqzz⟩ := eqzz; subst eqzz); (try (revert tqzz; intro _)); (try k_sweep))
  k_with "call builtin:isinstance" => (k_here; with_reducible refine' Mine.isi_tup ?Tz9 ?_; (case Tz9 => k_dflt is_tup); intro _)
  k_with "execs cons" => (k_here; first | (with_reducible refine' Mine.skip_if0 ?Fz10 ?vz10 ?bz10 ?_ ?x1z10 ?x2z10 ?x3z10; (case Fz10 => k_asm); (case vz10 => k_dflt exact rfl); (case bz10 => k_dflt decide); (case x1z10 => k_dflt exact rfl); (case x2z10 => k_dflt exact rfl); (case x3z10 => k_dflt decide); intro _) | (with_reducible refine' Mine.skip_or0 ?Fz10 ?vz10 ?bz10 ?b2z10 ?_ ?x1z10 ?x2z10 ?x3z10; (case Fz10 => k_asm); (case vz10 => k_dflt exact rfl); (case bz10 => k_dflt decide); (case b2z10 => k_dflt decide); (case x1z10 => k_dflt exact rfl); (case x2z10 => k_dflt exact rfl); (case x3z10 => k_dflt decide); intro _) | (with_reducible refine' Mine.take_if0 ?Fz10 ?vz10 ?bz10 ?_ ?x1z10 ?x2z10 ?x3z10; (case Fz10 => k_asm); (case vz10 => k_dflt exact rfl); (case bz10 => k_dflt decide); (case x1z10 => k_dflt exact rfl); (case x2z10 => k_dflt exact rfl); (case x3z10 => k_dflt decide); intro _))
  k_with "execs cons" => (k_here; first | (with_reducible refine' Mine.skip_in0 ?Fz11 ?Nz11 ?vz11 ?sz11 ?nz11 ?bz11 ?mz11 ?_ ?x1z11 ?x2z11 ?x3z11; (case Fz11 => k_asm); (case Nz11 => k_asm); (case vz11 => k_dflt exact rfl); (case sz11 => k_dflt exact rfl); (case nz11 => k_dflt decide); (case bz11 => k_dflt decide); (case mz11 => k_dflt exact rfl); (case x1z11 => k_dflt exact rfl); (case x2z11 => k_dflt exact rfl); (case x3z11 => k_dflt decide); intro _ _ _ _; (try k_sweep)) | (with_reducible refine' Mine.take_in0 ?Fz11 ?Nz11 ?vz11 ?sz11 ?nz11 ?bz11 ?mz11 ?_ ?x1z11 ?x2z11 ?x3z11; (case Fz11 => k_asm); (case Nz11 => k_asm); (case vz11 => k_dflt exact rfl); (case sz11 => k_dflt exact rfl); (case nz11 => k_dflt decide); (case bz11 => k_dflt decide); (case mz11 => k_dflt exact rfl); (case x1z11 => k_dflt exact rfl); (case x2z11 => k_dflt exact rfl); (case x3z11 => k_dflt decide); intro _ _ _ _; (try k_sweep)))
  k_with "eval Subscript Name Constant" => (k_here; with_reducible refine' Mine.item_tup0 ?Fz12 ?vz12 ?tz12 ?loz12 ?hiz12 ?jz12 ?uz12 ?_ ?x1z12 ?x2z12 ?x3z12; (case Fz12 => k_asm); (case vz12 => k_dflt exact rfl); (case tz12 => k_dflt is_tup); (case loz12 => k_dflt decide); (case hiz12 => k_dflt decide); (case jz12 => k_dflt exact rfl); (case uz12 => k_dflt exact rfl); (case x1z12 => k_dflt exact rfl); (case x2z12 => k_dflt exact rfl); (case x3z12 => k_dflt decide); intro _)
  k_with "call builtin:list.pop" => (k_here; k_dflt (refine' Mine.pop_any ?Fz21 ?Nz21 ?Uz21 ?pz21 ?zz21 ?_; (case Fz21 => k_asm); (case Nz21 => k_asm); (case Uz21 => k_dflt k_updF); (case pz21 => assumption); (case zz21 => omega)); intro _ _ _ Nqzz eqzz; (try dsimp only at Nqzz); (try (revert Nqzz eqzz; intro _ _)); (try k_sweep))
  k_with "subscriptTail Name Slice ref ref" => (k_here; k_dflt (refine' Mine.slice_mem ?Fz22 ?Nz22 ?mz22 ?pz22 ?qz22 ?ez22 ?zz22 ?_ ?sz22 ?tz22; (case Fz22 => k_asm); (case Nz22 => k_asm); (case mz22 => k_mem); (case pz22 => kmk_part); (case qz22 => kmk_part); (case ez22 => first | exact Mine.pick_from_k (by assumption) | exact Mine.pick_upto_k (by assumption)); (case sz22 => with_unfolding_all rfl); (case tz22 => kmk_pure); (case zz22 => omega)); intro _ _ _ _ l1zz; (try k_lt l1zz); (try (revert l1zz; intro _)); (try k_sweep))
  refine' Mine.fs_plain (binds := [(Str.ofString "self", .ref V.W), (Str.ofString "value", v)]) ?ho ?hcd ?hb ?hl ?h ?c2 ?c3 ?c4 ?c5
  case ho => (intro P; k_dflt k_is)
  case hcd => (intro P; k_dflt k_is)
  case hb => (intro s; exact BindsTo.of_eq rfl)
  case hl => exact locs rfl
  case c5 => decide
  case c2 => exact rfl
  case c3 => exact rfl
  case c4 => exact rfl
  case h =>
  intro dp un gd outer base g s p loose mean mg mb L' h' tk B' X' T' F' N' pre hd hu
  simp only [Wk.sled] at N'
  try dsimp only
  rcases hv with rfl | ⟨x, hx⟩
  · (with_reducible show wpAny _ _ _ _ _ _); k_fold; k_steps
    (show Done _ _ _ _ _); exact ⟨_, _, _, (by k_asm), (by k_asm), .inl ⟨rfl, rfl, _, rfl⟩, rfl⟩
  cases hx
  · (with_reducible show wpAny _ _ _ _ _ _); k_fold; k_steps
    (show Done _ _ _ _ _); exact ⟨_, _, _, (by k_asm), (by k_asm), .inr ⟨(fun h => nomatch h), rfl, _, rfl⟩, rfl⟩
  · (with_reducible show wpAny _ _ _ _ _ _); k_fold; k_steps
    (show Done _ _ _ _ _); exact ⟨_, _, _, (by k_asm), (by k_asm), .inr ⟨(fun h => nomatch h), rfl, _, rfl⟩, rfl⟩
set_option maxHeartbeats 40000000 in
theorem Mine.pop_fs {w : World} (V : Wk) (S : Addr) (st : Array Value) (ks : Nat) (ne1 : NeA V.W V.D) (ne2 : NeA V.W S) (ne3 : NeA V.D S) (hsz : 0 < st.size) (hsz2 : st.size < 90000) :
    FS w 93 3 [.ref V.W] (fun _ => True) (V.sled w S st ks) (PopPost w V S st) := by
  w_top off
  k_with_none
  k_with "callWith ref" => (k_here; k_dflt (first | (refine' callWith_K ?k1z1 ?k2z1 ?_; (case k1z1 => k_asm); (case k2z1 => k_is); k_whole) | (refine' callWith_K0 ?k1z1 ?k2z1 ?_; (case k1z1 => k_in); (case k2z1 => k_is); k_whole)))
  k_with "binaryOp Add ref ref" => (k_here; with_reducible refine' Mine.add_mem ?Fz2 ?Nz2 ?az2 ?bz2 ?zz2 ?_; (case Fz2 => k_asm); (case Nz2 => k_asm); (case az2 => k_dflt k_mem); (case bz2 => k_dflt k_mem); (case zz2 => ((try dsimp only [Mine.T.size] at *); (try simp only [Array.size_append, List.size_toArray, List.length_cons, List.length_nil]); omega)); intro _ _ _ _ l1zz; (try k_lt l1zz); (try (revert l1zz; intro _)); (try k_sweep))
  k_with "call builtin:len" => (k_here; with_reducible refine' Mine.len_mem ?Nz3 ?mz3 ?ez3 ?zz3 ?_; (case Nz3 => k_asm); (case mz3 => k_dflt k_mem); (case ez3 => first | with_reducible assumption | exact rfl); (case zz3 => ((try dsimp only [Mine.T.size] at *); (try simp only [Array.size_push]); omega)); intro _ _)
  k_with "call builtin:len" => (k_here; with_reducible refine' Mine.len_tupN ?Tz4 ?ez4 ?zz4 ?_; (case Tz4 => k_dflt is_tup); (case ez4 => first | with_reducible assumption | exact rfl); (case zz4 => first | (k_dflt decide) | ((try dsimp only [Mine.T.size] at *); omega)); intro _ _)
  k_with "call builtin:list.extend" => (k_here; with_reducible refine' Mine.ext_mem ?Fz5 ?Nz5 ?bz5 ?Uz5 ?zz5 ?_; (case Fz5 => k_asm); (case Nz5 => k_asm); (case bz5 => k_dflt k_mem); (case Uz5 => k_dflt k_updF); (case zz5 => ((try dsimp only [Mine.T.size] at *); (try simp only [Array.size_append, List.size_toArray, List.length_cons, List.length_nil]); omega)); intro _ _ _ Nqzz; (try dsimp only at Nqzz); (try (revert Nqzz; intro _)); (try k_sweep))
  k_with "call ref" => (k_here; (with_reducible show wpAny _ _ (PySem.call (Value.ref 296) _) _ _ _); k_dflt (refine' Mine.ord_call ?Iz6 ?Bz6 ?Fz6 ?Xz6 ?Nz6 ?Tz6 ?rz6 ?kz6 ?fz6 ?ez6 ?sz6 ?wz6 ?dz6 ?uz6 ?_; (case Iz6 => assumption); (case Bz6 => k_asm); (case Fz6 => k_asm); (case Xz6 => k_asm); (case Nz6 => k_asm); (case Tz6 => k_asm); (case rz6 => assumption); (case kz6 => first | exact fun _ _ e => e | exact Fr.keep (by assumption) | exact fun _ _ e => Fr.keep (by assumption) _ _ (Fr.keep (by assumption) _ _ e)); (case fz6 => exact rfl); (case ez6 => exact rfl); (case sz6 => ((try dsimp only [Mine.T.size] at *); omega)); (case wz6 => first | assumption | exact And.left (by assumption) | exact And.right (by assumption)); (case dz6 => ((try dsimp only [Mine.T.size] at *); (try dsimp only [depth_deeper, Mine.top]); (first | exact Mine.rm2 (by assumption) rfl | exact Mine.rm_tree (by assumption) | exact Mine.rm_ord (by assumption) (Nat.succ_le_succ (Nat.le_add_right _ _)) | exact Mine.rm_ord (by assumption) (Nat.succ_le_succ (Nat.le_add_left _ _)) | exact Mine.rm_ord (by assumption) (Nat.le_refl _) | omega))); (case uz6 => ((try dsimp only [Mine.T.size] at *); (try dsimp only [units_deeper, units_in1, Mine.top]); (first | exact Mine.rm2 (by assumption) rfl | exact Mine.rm_treeu (by assumption) | exact Mine.rm_ordu (by assumption) (Nat.succ_le_succ (Nat.le_add_right _ _)) | exact Mine.rm_ordu (by assumption) (Nat.succ_le_succ (Nat.le_add_left _ _)) | exact Mine.rm_ordu (by assumption) (Nat.le_refl _) | omega)))); intro _ _ _ _ _ _ _ _ _ _ _ _ _; (try k_sweep))
  k_with "call ref" => (k_here; (with_reducible show wpAny _ _ (PySem.call (Value.ref 303) _) _ _ _); k_dflt (refine' Mine.fs_call0 (mo := 2) ?Iz7 ?Bz7 ?Fz7 ?Xz7 ?Nz7 ?Tz7 ?rz7 ?kz7 ?fz7 ?ez7 ?dz7 ?uz7 ?_; (case Iz7 => assumption); (case Bz7 => k_asm); (case Fz7 => k_asm); (case Xz7 => k_asm); (case Nz7 => k_asm); (case Tz7 => k_asm); (case rz7 => assumption); (case kz7 => first | exact fun _ _ e => e | exact Fr.keep (by assumption) | exact fun _ _ e => Fr.keep (by assumption) _ _ (Fr.keep (by assumption) _ _ e)); (case fz7 => exact rfl); (case ez7 => exact rfl); (case dz7 => ((try dsimp only [Mine.T.size] at *); (try dsimp only [depth_deeper, Mine.top]); (first | exact Mine.rm2 (by assumption) rfl | exact Mine.rm_tree (by assumption) | exact Mine.rm_ord (by assumption) (Nat.succ_le_succ (Nat.le_add_right _ _)) | exact Mine.rm_ord (by assumption) (Nat.succ_le_succ (Nat.le_add_left _ _)) | exact Mine.rm_ord (by assumption) (Nat.le_refl _) | omega))); (case uz7 => ((try dsimp only [Mine.T.size] at *); (try dsimp only [units_deeper, units_in1, Mine.top]); (first | exact Mine.rm2 (by assumption) rfl | exact Mine.rm_treeu (by assumption) | exact Mine.rm_ordu (by assumption) (Nat.succ_le_succ (Nat.le_add_right _ _)) | exact Mine.rm_ordu (by assumption) (Nat.succ_le_succ (Nat.le_add_left _ _)) | exact Mine.rm_ordu (by assumption) (Nat.le_refl _) | omega)))); intro _ _ _ _ _ _ _ _ _ _ _ _ _; (try k_sweep))
  k_with "call ref" => (k_here; (with_reducible show wpAny _ _ (PySem.call (Value.ref 338) _) _ _ _); k_dflt (refine' Mine.fs_pure ?Iz8 ?Bz8 ?Fz8 ?Xz8 ?Nz8 ?Tz8 ?rz8 ?fz8 ?ez8 ?dz8 ?uz8 ?_; (case Iz8 => assumption); (case Bz8 => k_asm); (case Fz8 => k_asm); (case Xz8 => k_asm); (case Nz8 => k_asm); (case Tz8 => k_asm); (case rz8 => exact fun g' hk _ => Mine.RO.mono (by assumption) hk); (case fz8 => exact rfl); (case ez8 => exact rfl); (case dz8 => ((try dsimp only [depth_deeper, Mine.top]); (first | exact Mine.rm2 (by assumption) rfl | exact Mine.rm_tree (by assumption) | exact Mine.rm_ord (by assumption) (Nat.succ_le_succ (Nat.le_add_right _ _)) | exact Mine.rm_ord (by assumption) (Nat.succ_le_succ (Nat.le_add_left _ _)) | exact Mine.rm_ord (by assumption) (Nat.le_refl _) | omega))); (case uz8 => ((try dsimp only [units_deeper, units_in1, Mine.top]); (first | exact Mine.rm2 (by assumption) rfl | exact Mine.rm_treeu (by assumption) | exact Mine.rm_ordu (by assumption) (Nat.succ_le_succ (Nat.le_add_right _ _)) | exact Mine.rm_ordu (by assumption) (Nat.succ_le_succ (Nat.le_add_left _ _)) | exact Mine.rm_ordu (by assumption) (Nat.le_refl _) | omega)))); intro _ _ _ _ _ eqzz; (obtain ⟨tqzz, eqzz⟩ := eqzz; subst eqzz); (try (revert tqzz; intro _)); (try k_sweep))
  k_with "call builtin:isinstance" => (k_here; with_reducible refine' Mine.isi_tup ?Tz9 ?_; (case Tz9 => k_dflt is_tup); intro _)
  k_with "execs cons" => (k_here; first | (with_reducible refine' Mine.skip_if0 ?Fz10 ?vz10 ?bz10 ?_ ?x1z10 ?x2z10 ?x3z10; (case Fz10 => k_asm); (case vz10 => k_dflt exact rfl); (case bz10 => k_dflt decide); (case x1z10 => k_dflt exact rfl); (case x2z10 => k_dflt exact rfl); (case x3z10 => k_dflt decide); intro _) | (with_reducible refine' Mine.skip_or0 ?Fz10 ?vz10 ?bz10 ?b2z10 ?_ ?x1z10 ?x2z10 ?x3z10; (case Fz10 => k_asm); (case vz10 => k_dflt exact rfl); (case bz10 => k_dflt decide); (case b2z10 => k_dflt decide); (case x1z10 => k_dflt exact rfl); (case x2z10 => k_dflt exact rfl); (case x3z10 => k_dflt decide); intro _) | (with_reducible refine' Mine.take_if0 ?Fz10 ?vz10 ?bz10 ?_ ?x1z10 ?x2z10 ?x3z10; (case Fz10 => k_asm); (case vz10 => k_dflt exact rfl); (case bz10 => k_dflt decide); (case x1z10 => k_dflt exact rfl); (case x2z10 => k_dflt exact rfl); (case x3z10 => k_dflt decide); intro _))
  k_with "execs cons" => (k_here; first | (with_reducible refine' Mine.skip_in0 ?Fz11 ?Nz11 ?vz11 ?sz11 ?nz11 ?bz11 ?mz11 ?_ ?x1z11 ?x2z11 ?x3z11; (case Fz11 => k_asm); (case Nz11 => k_asm); (case vz11 => k_dflt exact rfl); (case sz11 => k_dflt exact rfl); (case nz11 => k_dflt decide); (case bz11 => k_dflt decide); (case mz11 => k_dflt exact rfl); (case x1z11 => k_dflt exact rfl); (case x2z11 => k_dflt exact rfl); (case x3z11 => k_dflt decide); intro _ _ _ _; (try k_sweep)) | (with_reducible refine' Mine.take_in0 ?Fz11 ?Nz11 ?vz11 ?sz11 ?nz11 ?bz11 ?mz11 ?_ ?x1z11 ?x2z11 ?x3z11; (case Fz11 => k_asm); (case Nz11 => k_asm); (case vz11 => k_dflt exact rfl); (case sz11 => k_dflt exact rfl); (case nz11 => k_dflt decide); (case bz11 => k_dflt decide); (case mz11 => k_dflt exact rfl); (case x1z11 => k_dflt exact rfl); (case x2z11 => k_dflt exact rfl); (case x3z11 => k_dflt decide); intro _ _ _ _; (try k_sweep)))
  k_with "eval Subscript Name Constant" => (k_here; with_reducible refine' Mine.item_tup0 ?Fz12 ?vz12 ?tz12 ?loz12 ?hiz12 ?jz12 ?uz12 ?_ ?x1z12 ?x2z12 ?x3z12; (case Fz12 => k_asm); (case vz12 => k_dflt exact rfl); (case tz12 => k_dflt is_tup); (case loz12 => k_dflt decide); (case hiz12 => k_dflt decide); (case jz12 => k_dflt exact rfl); (case uz12 => k_dflt exact rfl); (case x1z12 => k_dflt exact rfl); (case x2z12 => k_dflt exact rfl); (case x3z12 => k_dflt decide); intro _)
  k_with "call builtin:list.pop" => (k_here; k_dflt (refine' Mine.pop_any ?Fz21 ?Nz21 ?Uz21 ?pz21 ?zz21 ?_; (case Fz21 => k_asm); (case Nz21 => k_asm); (case Uz21 => k_dflt k_updF); (case pz21 => assumption); (case zz21 => omega)); intro _ _ _ Nqzz eqzz; (try dsimp only at Nqzz); (try (revert Nqzz eqzz; intro _ _)); (try k_sweep))
  k_with "subscriptTail Name Slice ref ref" => (k_here; k_dflt (refine' Mine.slice_mem ?Fz22 ?Nz22 ?mz22 ?pz22 ?qz22 ?ez22 ?zz22 ?_ ?sz22 ?tz22; (case Fz22 => k_asm); (case Nz22 => k_asm); (case mz22 => k_mem); (case pz22 => kmk_part); (case qz22 => kmk_part); (case ez22 => first | exact Mine.pick_from_k (by assumption) | exact Mine.pick_upto_k (by assumption)); (case sz22 => with_unfolding_all rfl); (case tz22 => kmk_pure); (case zz22 => omega)); intro _ _ _ _ l1zz; (try k_lt l1zz); (try (revert l1zz; intro _)); (try k_sweep))
  refine' Mine.fs_plain (binds := [(Str.ofString "self", .ref V.W)]) ?ho ?hcd ?hb ?hl ?h ?c2 ?c3 ?c4 ?c5
  case ho => (intro P; k_dflt k_is)
  case hcd => (intro P; k_dflt k_is)
  case hb => (intro s; exact BindsTo.of_eq rfl)
  case hl => exact locs rfl
  case c5 => decide
  case c2 => exact rfl
  case c3 => exact rfl
  case c4 => exact rfl
  case h =>
  intro dp un gd outer base g s p loose mean mg mb L' h' tk B' X' T' F' N' pre hd hu
  simp only [Wk.sled] at N'
  try dsimp only
  (with_reducible show wpAny _ _ _ _ _ _); k_fold; k_steps
  rename_i y F9 N9 e9
  (show Done _ _ _ _ _); exact ⟨_, _, _, F9, N9, ⟨_, e9, rfl⟩, rfl⟩
set_option maxHeartbeats 40000000 in
theorem Mine.tk_fs {w : World} (V : Wk) (S : Addr) (st : Array Value) (ks : Nat) (k : Nat) (t : Tok) (ne1 : NeA V.W V.D) (ne2 : NeA V.W S) (ne3 : NeA V.D S) (hk : k ≤ st.size) (hsz : st.size < 90000) :
    FS w 100 3 [.ref V.W, .int (k : Nat) t] (fun _ => True) (V.sled w S st ks) (TkPost w V st k) := by
  w_top off
  k_with_none
  k_with "callWith ref" => (k_here; k_dflt (first | (refine' callWith_K ?k1z1 ?k2z1 ?_; (case k1z1 => k_asm); (case k2z1 => k_is); k_whole) | (refine' callWith_K0 ?k1z1 ?k2z1 ?_; (case k1z1 => k_in); (case k2z1 => k_is); k_whole)))
  k_with "binaryOp Add ref ref" => (k_here; with_reducible refine' Mine.add_mem ?Fz2 ?Nz2 ?az2 ?bz2 ?zz2 ?_; (case Fz2 => k_asm); (case Nz2 => k_asm); (case az2 => k_dflt k_mem); (case bz2 => k_dflt k_mem); (case zz2 => ((try dsimp only [Mine.T.size] at *); (try simp only [Array.size_append, List.size_toArray, List.length_cons, List.length_nil]); omega)); intro _ _ _ _ l1zz; (try k_lt l1zz); (try (revert l1zz; intro _)); (try k_sweep))
  k_with "call builtin:len" => (k_here; with_reducible refine' Mine.len_mem ?Nz3 ?mz3 ?ez3 ?zz3 ?_; (case Nz3 => k_asm); (case mz3 => k_dflt k_mem); (case ez3 => first | with_reducible assumption | exact rfl); (case zz3 => ((try dsimp only [Mine.T.size] at *); (try simp only [Array.size_push]); omega)); intro _ _)
  k_with "call builtin:len" => (k_here; with_reducible refine' Mine.len_tupN ?Tz4 ?ez4 ?zz4 ?_; (case Tz4 => k_dflt is_tup); (case ez4 => first | with_reducible assumption | exact rfl); (case zz4 => first | (k_dflt decide) | ((try dsimp only [Mine.T.size] at *); omega)); intro _ _)
  k_with "call builtin:list.extend" => (k_here; with_reducible refine' Mine.ext_mem ?Fz5 ?Nz5 ?bz5 ?Uz5 ?zz5 ?_; (case Fz5 => k_asm); (case Nz5 => k_asm); (case bz5 => k_dflt k_mem); (case Uz5 => k_dflt k_updF); (case zz5 => ((try dsimp only [Mine.T.size] at *); (try simp only [Array.size_append, List.size_toArray, List.length_cons, List.length_nil]); omega)); intro _ _ _ Nqzz; (try dsimp only at Nqzz); (try (revert Nqzz; intro _)); (try k_sweep))
  k_with "call ref" => (k_here; (with_reducible show wpAny _ _ (PySem.call (Value.ref 296) _) _ _ _); k_dflt (refine' Mine.ord_call ?Iz6 ?Bz6 ?Fz6 ?Xz6 ?Nz6 ?Tz6 ?rz6 ?kz6 ?fz6 ?ez6 ?sz6 ?wz6 ?dz6 ?uz6 ?_; (case Iz6 => assumption); (case Bz6 => k_asm); (case Fz6 => k_asm); (case Xz6 => k_asm); (case Nz6 => k_asm); (case Tz6 => k_asm); (case rz6 => assumption); (case kz6 => first | exact fun _ _ e => e | exact Fr.keep (by assumption) | exact fun _ _ e => Fr.keep (by assumption) _ _ (Fr.keep (by assumption) _ _ e)); (case fz6 => exact rfl); (case ez6 => exact rfl); (case sz6 => ((try dsimp only [Mine.T.size] at *); omega)); (case wz6 => first | assumption | exact And.left (by assumption) | exact And.right (by assumption)); (case dz6 => ((try dsimp only [Mine.T.size] at *); (try dsimp only [depth_deeper, Mine.top]); (first | exact Mine.rm2 (by assumption) rfl | exact Mine.rm_tree (by assumption) | exact Mine.rm_ord (by assumption) (Nat.succ_le_succ (Nat.le_add_right _ _)) | exact Mine.rm_ord (by assumption) (Nat.succ_le_succ (Nat.le_add_left _ _)) | exact Mine.rm_ord (by assumption) (Nat.le_refl _) | omega))); (case uz6 => ((try dsimp only [Mine.T.size] at *); (try dsimp only [units_deeper, units_in1, Mine.top]); (first | exact Mine.rm2 (by assumption) rfl | exact Mine.rm_treeu (by assumption) | exact Mine.rm_ordu (by assumption) (Nat.succ_le_succ (Nat.le_add_right _ _)) | exact Mine.rm_ordu (by assumption) (Nat.succ_le_succ (Nat.le_add_left _ _)) | exact Mine.rm_ordu (by assumption) (Nat.le_refl _) | omega)))); intro _ _ _ _ _ _ _ _ _ _ _ _ _; (try k_sweep))
  k_with "call ref" => (k_here; (with_reducible show wpAny _ _ (PySem.call (Value.ref 303) _) _ _ _); k_dflt (refine' Mine.fs_call0 (mo := 2) ?Iz7 ?Bz7 ?Fz7 ?Xz7 ?Nz7 ?Tz7 ?rz7 ?kz7 ?fz7 ?ez7 ?dz7 ?uz7 ?_; (case Iz7 => assumption); (case Bz7 => k_asm); (case Fz7 => k_asm); (case Xz7 => k_asm); (case Nz7 => k_asm); (case Tz7 => k_asm); (case rz7 => assumption); (case kz7 => first | exact fun _ _ e => e | exact Fr.keep (by assumption) | exact fun _ _ e => Fr.keep (by assumption) _ _ (Fr.keep (by assumption) _ _ e)); (case fz7 => exact rfl); (case ez7 => exact rfl); (case dz7 => ((try dsimp only [Mine.T.size] at *); (try dsimp only [depth_deeper, Mine.top]); (first | exact Mine.rm2 (by assumption) rfl | exact Mine.rm_tree (by assumption) | exact Mine.rm_ord (by assumption) (Nat.succ_le_succ (Nat.le_add_right _ _)) | exact Mine.rm_ord (by assumption) (Nat.succ_le_succ (Nat.le_add_left _ _)) | exact Mine.rm_ord (by assumption) (Nat.le_refl _) | omega))); (case uz7 => ((try dsimp only [Mine.T.size] at *); (try dsimp only [units_deeper, units_in1, Mine.top]); (first | exact Mine.rm2 (by assumption) rfl | exact Mine.rm_treeu (by assumption) | exact Mine.rm_ordu (by assumption) (Nat.succ_le_succ (Nat.le_add_right _ _)) | exact Mine.rm_ordu (by assumption) (Nat.succ_le_succ (Nat.le_add_left _ _)) | exact Mine.rm_ordu (by assumption) (Nat.le_refl _) | omega)))); intro _ _ _ _ _ _ _ _ _ _ _ _ _; (try k_sweep))
  k_with "call ref" => (k_here; (with_reducible show wpAny _ _ (PySem.call (Value.ref 338) _) _ _ _); k_dflt (refine' Mine.fs_pure ?Iz8 ?Bz8 ?Fz8 ?Xz8 ?Nz8 ?Tz8 ?rz8 ?fz8 ?ez8 ?dz8 ?uz8 ?_; (case Iz8 => assumption); (case Bz8 => k_asm); (case Fz8 => k_asm); (case Xz8 => k_asm); (case Nz8 => k_asm); (case Tz8 => k_asm); (case rz8 => exact fun g' hk _ => Mine.RO.mono (by assumption) hk); (case fz8 => exact rfl); (case ez8 => exact rfl); (case dz8 => ((try dsimp only [depth_deeper, Mine.top]); (first | exact Mine.rm2 (by assumption) rfl | exact Mine.rm_tree (by assumption) | exact Mine.rm_ord (by assumption) (Nat.succ_le_succ (Nat.le_add_right _ _)) | exact Mine.rm_ord (by assumption) (Nat.succ_le_succ (Nat.le_add_left _ _)) | exact Mine.rm_ord (by assumption) (Nat.le_refl _) | omega))); (case uz8 => ((try dsimp only [units_deeper, units_in1, Mine.top]); (first | exact Mine.rm2 (by assumption) rfl | exact Mine.rm_treeu (by assumption) | exact Mine.rm_ordu (by assumption) (Nat.succ_le_succ (Nat.le_add_right _ _)) | exact Mine.rm_ordu (by assumption) (Nat.succ_le_succ (Nat.le_add_left _ _)) | exact Mine.rm_ordu (by assumption) (Nat.le_refl _) | omega)))); intro _ _ _ _ _ eqzz; (obtain ⟨tqzz, eqzz⟩ := eqzz; subst eqzz); (try (revert tqzz; intro _)); (try k_sweep))
  k_with "call builtin:isinstance" => (k_here; with_reducible refine' Mine.isi_tup ?Tz9 ?_; (case Tz9 => k_dflt is_tup); intro _)
  k_with "execs cons" => (k_here; first | (with_reducible refine' Mine.skip_if0 ?Fz10 ?vz10 ?bz10 ?_ ?x1z10 ?x2z10 ?x3z10; (case Fz10 => k_asm); (case vz10 => k_dflt exact rfl); (case bz10 => k_dflt decide); (case x1z10 => k_dflt exact rfl); (case x2z10 => k_dflt exact rfl); (case x3z10 => k_dflt decide); intro _) | (with_reducible refine' Mine.skip_or0 ?Fz10 ?vz10 ?bz10 ?b2z10 ?_ ?x1z10 ?x2z10 ?x3z10; (case Fz10 => k_asm); (case vz10 => k_dflt exact rfl); (case bz10 => k_dflt decide); (case b2z10 => k_dflt decide); (case x1z10 => k_dflt exact rfl); (case x2z10 => k_dflt exact rfl); (case x3z10 => k_dflt decide); intro _) | (with_reducible refine' Mine.take_if0 ?Fz10 ?vz10 ?bz10 ?_ ?x1z10 ?x2z10 ?x3z10; (case Fz10 => k_asm); (case vz10 => k_dflt exact rfl); (case bz10 => k_dflt decide); (case x1z10 => k_dflt exact rfl); (case x2z10 => k_dflt exact rfl); (case x3z10 => k_dflt decide); intro _))
  k_with "execs cons" => (k_here; first | (with_reducible refine' Mine.skip_in0 ?Fz11 ?Nz11 ?vz11 ?sz11 ?nz11 ?bz11 ?mz11 ?_ ?x1z11 ?x2z11 ?x3z11; (case Fz11 => k_asm); (case Nz11 => k_asm); (case vz11 => k_dflt exact rfl); (case sz11 => k_dflt exact rfl); (case nz11 => k_dflt decide); (case bz11 => k_dflt decide); (case mz11 => k_dflt exact rfl); (case x1z11 => k_dflt exact rfl); (case x2z11 => k_dflt exact rfl); (case x3z11 => k_dflt decide); intro _ _ _ _; (try k_sweep)) | (with_reducible refine' Mine.take_in0 ?Fz11 ?Nz11 ?vz11 ?sz11 ?nz11 ?bz11 ?mz11 ?_ ?x1z11 ?x2z11 ?x3z11; (case Fz11 => k_asm); (case Nz11 => k_asm); (case vz11 => k_dflt exact rfl); (case sz11 => k_dflt exact rfl); (case nz11 => k_dflt decide); (case bz11 => k_dflt decide); (case mz11 => k_dflt exact rfl); (case x1z11 => k_dflt exact rfl); (case x2z11 => k_dflt exact rfl); (case x3z11 => k_dflt decide); intro _ _ _ _; (try k_sweep)))
  k_with "eval Subscript Name Constant" => (k_here; with_reducible refine' Mine.item_tup0 ?Fz12 ?vz12 ?tz12 ?loz12 ?hiz12 ?jz12 ?uz12 ?_ ?x1z12 ?x2z12 ?x3z12; (case Fz12 => k_asm); (case vz12 => k_dflt exact rfl); (case tz12 => k_dflt is_tup); (case loz12 => k_dflt decide); (case hiz12 => k_dflt decide); (case jz12 => k_dflt exact rfl); (case uz12 => k_dflt exact rfl); (case x1z12 => k_dflt exact rfl); (case x2z12 => k_dflt exact rfl); (case x3z12 => k_dflt decide); intro _)
  k_with "call builtin:list.pop" => (k_here; k_dflt (refine' Mine.pop_any ?Fz21 ?Nz21 ?Uz21 ?pz21 ?zz21 ?_; (case Fz21 => k_asm); (case Nz21 => k_asm); (case Uz21 => k_dflt k_updF); (case pz21 => assumption); (case zz21 => omega)); intro _ _ _ Nqzz eqzz; (try dsimp only at Nqzz); (try (revert Nqzz eqzz; intro _ _)); (try k_sweep))
  k_with "subscriptTail Name Slice ref ref" => (k_here; k_dflt (refine' Mine.slice_mem ?Fz22 ?Nz22 ?mz22 ?pz22 ?qz22 ?ez22 ?zz22 ?_ ?sz22 ?tz22; (case Fz22 => k_asm); (case Nz22 => k_asm); (case mz22 => k_mem); (case pz22 => kmk_part); (case qz22 => kmk_part); (case ez22 => first | exact Mine.pick_from_k (by assumption) | exact Mine.pick_upto_k (by assumption)); (case sz22 => with_unfolding_all rfl); (case tz22 => kmk_pure); (case zz22 => omega)); intro _ _ _ _ l1zz; (try k_lt l1zz); (try (revert l1zz; intro _)); (try k_sweep))
  refine' Mine.fs_plain (binds := [(Str.ofString "self", .ref V.W), (Str.ofString "many", .int (k : Nat) t)]) ?ho ?hcd ?hb ?hl ?h ?c2 ?c3 ?c4 ?c5
  case ho => (intro P; k_dflt k_is)
  case hcd => (intro P; k_dflt k_is)
  case hb => (intro s; exact BindsTo.of_eq rfl)
  case hl => exact locs rfl
  case c5 => decide
  case c2 => exact rfl
  case c3 => exact rfl
  case c4 => exact rfl
  case h =>
  intro dp un gd outer base g s p loose mean mg mb L' h' tk B' X' T' F' N' pre hd hu
  simp only [Wk.sled] at N'
  try dsimp only
  (with_reducible show wpAny _ _ _ _ _ _); k_fold; k_steps
  rename_i D1 _ _ _ D2 _ l1 _ F9 N9
  (show Done _ _ _ _ _)
  refine ⟨_, _, V.sled w D2 (st.toList.take (st.size - k)).toArray 0 ++ [(D1, W.listOf (st.toList.drop (st.size - k)).toArray 0)], F9, news_sub N9 fun q hq => ?_, ⟨D2, 0, D1, _, 0, rfl, rfl, NeA.lt l1.2.1, NeA.lt l1.2.2.1⟩, rfl⟩
  simp only [Wk.sled, List.mem_cons, List.mem_append, List.not_mem_nil, or_false] at hq ⊢
  rcases hq with (h | h | h) | h <;> simp only [h, true_or, or_true]
namespace Mine
noncomputable def dled (w : World) (V : Wk) (K : Hk) (S : Addr) (st gs as : Array Value) (ks kg ka : Nat) : List (Addr × Obj) :=
  [(V.W, instObj 103 V.D), (V.D, wdict w S V.G V.k1 V.k2 V.k3 V.k4), (S, W.listOf st ks), (V.G, W.listOf gs kg), (K.H, instObj 250 K.HD), (K.HD, hdict w K.f K.lab K.nts K.q1 K.q2 K.q3), (K.al, W.listOf as ka)]
structure Apart (V : Wk) (K : Hk) (S : Addr) : Prop where
  wd : NeA V.W V.D
  ws : NeA V.W S
  ds : NeA V.D S
  gw : NeA V.G V.W
  gd : NeA V.G V.D
  gs : NeA V.G S
  hw : NeA K.H V.W
  hd : NeA K.H V.D
  hs : NeA K.H S
  hg : NeA K.H V.G
  iw : NeA K.HD V.W
  id : NeA K.HD V.D
  is : NeA K.HD S
  ig : NeA K.HD V.G
  aw : NeA K.al V.W
  ad : NeA K.al V.D
  as : NeA K.al S
  ag : NeA K.al V.G
theorem Apart.move {V : Wk} {K : Hk} {S S' : Addr} (A : Apart V K S) (h1 : NeA V.W S') (h2 : NeA V.D S') (h3 : NeA V.G S') (h4 : NeA K.H S') (h5 : NeA K.HD S') (h6 : NeA K.al S') : Apart V K S' :=
  ⟨A.wd, h1, h2, A.gw, A.gd, h3, A.hw, A.hd, h4, A.hg, A.iw, A.id, h5, A.ig, A.aw, A.ad, h6, A.ag⟩
/-- k values have been taken off -/
noncomputable def Taken (st st' : Array Value) (k : Nat) : Prop := st'.toList = st.toList.take (st.size - k) ∧ st'.size = st.size - k ∧ k ≤ st.size
theorem Taken.trans {a b c : Array Value} {j k : Nat} (h : Taken a b j) (h' : Taken b c k) : Taken a c (j + k) := by
  obtain ⟨h1, h2, h3⟩ := h
  obtain ⟨h4, h5, h6⟩ := h'
  refine ⟨?_, by omega, by omega⟩
  rw [h4, h1, List.take_take, h2]; congr 1; omega
theorem Taken.trans' {a b c : Array Value} {j k : Nat} (h' : Taken b c k) (h : Taken a b j) : Taken a c (j + k) := h.trans h'
theorem Taken.of_take {st : Array Value} {k : Nat} (h : k ≤ st.size) : Taken st (st.toList.take (st.size - k)).toArray k := by
  refine ⟨by simp, ?_, h⟩
  simp only [List.size_toArray, List.length_take, Array.length_toList]; omega
theorem Taken.of_pop {st : Array Value} (h : 0 < st.size) : Taken st st.pop 1 := by
  refine ⟨?_, Array.size_pop .., h⟩
  rw [Array.toList_pop, List.dropLast_eq_take, Array.length_toList]
noncomputable def PushR (st : Array Value) (v r : Value) (st' : Array Value) : Prop := (v = .none ∧ r = .bool false ∧ st' = st) ∨ (v ≠ .none ∧ r = .bool true ∧ st' = st.push v)
theorem ans_ok {K : Hk} {n : Nat} {r : Value} (h : K.ans n r) : r = .none ∨ ∃ x, RS r x := by
  rcases h with ⟨_, h⟩ | ⟨_, t, h⟩
  · exact .inl h
  · subst h; exact .inr ⟨_, RS.s⟩
section
variable {w : World} {A : Around} {base h₀ g₀ : Heap} {outer : List Env} {L : Addr} {m : Str → Option Value} {env : Env} {news : List (Addr × Obj)} {hp : Heap} {gens : Array GenState} {dr : Drawn} {tk : Nat} {os : OsState} {p : Program} {loose : List Str} {mean : ExcName → Option Value} {mg mb : Str → Option Value}
  {A₀ : Around} {dp un dep : Nat} {gd : Option (List Code)} {Q E : Value → Shared → Prop} {f : Addr} {args : List Value} {K : Hk} {V : Wk} {S : Addr} {st gs as : Array Value} {ks kg ka : Nat}
theorem d_hook (C : FS w f dep args K.pre (K.led w as ka) (HookPost w K as.size)) (hpre : K.pre g₀) (hk : ∀ b o, g₀.get? b = some o → h₀.get? b = some o) (AP : Apart V K S)
    (B : Below A₀ base outer h₀) (F : Fr h₀ L hp m) (X : (Mine.hd.heap_39 w.params).In h₀) (N : News h₀ L hp news) (T : Top p loose mean mg mb h₀) (hm : ∀ q ∈ dled w V K S st gs as ks kg ka, q ∈ news)
    (hf : env.frame = some L) (hke : env.scope.kind = .function) (hd : dp + dep < 900) (hu : un + 5 * dep < 3000)
    (ret : ∀ r h' tk' as' k', Fr h₀ L h' m → News h₀ L h' (dled w V K S st gs as' ks kg k') → as'.size = as.size + 1 → K.ans as.size r → Q r ⟨h', gens, dr, tk', os⟩) :
    wpAny (model pw w) (top dp un gd (env :: outer)) (call (.ref f) args) Q E ⟨hp, gens, dr, tk, os⟩ := by
  refine hook_call (R := V.led w S st gs ks kg) C hpre hk B F X N T (fun q hq => hm q ?_) (fun q hq => ⟨hm q ?_, ?_⟩) hf hke hd hu fun r h' tk' as' k' F' N' e hr => ret r h' tk' as' k' F' (news_sub N' fun q hq => ?_) e hr
  · simp only [Hk.led, dled, List.mem_cons, List.not_mem_nil, or_false] at hq ⊢
    rcases hq with h | h | h <;> simp only [h, true_or, or_true]
  · simp only [Wk.led, dled, List.mem_cons, List.not_mem_nil, or_false] at hq ⊢
    rcases hq with h | h | h | h <;> simp only [h, true_or, or_true]
  · simp only [Wk.led, List.mem_cons, List.not_mem_nil, or_false] at hq
    rcases hq with rfl | rfl | rfl | rfl
    · exact ⟨AP.hw.out', AP.iw.out', AP.aw.out'⟩
    · exact ⟨AP.hd.out', AP.id.out', AP.ad.out'⟩
    · exact ⟨AP.hs.out', AP.is.out', AP.as.out'⟩
    · exact ⟨AP.hg.out', AP.ig.out', AP.ag.out'⟩
  · simp only [Wk.led, Hk.led, dled, List.mem_cons, List.mem_append, List.not_mem_nil, or_false] at hq ⊢
    rcases hq with h | h | h | h | h | h | h <;> simp only [h, true_or, or_true]
/-- a call that turns the stack alone -/
theorem d_stack {Post : Value → List (Addr × Obj) → Prop} (C : FS w f dep args (fun _ => True) (V.sled w S st ks) Post) (AP : Apart V K S)
    (B : Below A₀ base outer h₀) (F : Fr h₀ L hp m) (X : (Mine.hd.heap_39 w.params).In h₀) (N : News h₀ L hp news) (T : Top p loose mean mg mb h₀) (hm : ∀ q ∈ dled w V K S st gs as ks kg ka, q ∈ news)
    (hf : env.frame = some L) (hke : env.scope.kind = .function) (hd : dp + dep < 900) (hu : un + 5 * dep < 3000)
    (ret : ∀ r h' tk' P', Fr h₀ L h' m → News h₀ L h' (P' ++ [(V.G, W.listOf gs kg), (K.H, instObj 250 K.HD), (K.HD, hdict w K.f K.lab K.nts K.q1 K.q2 K.q3), (K.al, W.listOf as ka)]) → (∀ q ∈ P', NeA V.G q.1 ∧ NeA K.H q.1 ∧ NeA K.HD q.1 ∧ NeA K.al q.1) → Post r P' → Q r ⟨h', gens, dr, tk', os⟩) :
    wpAny (model pw w) (top dp un gd (env :: outer)) (call (.ref f) args) Q E ⟨hp, gens, dr, tk, os⟩ := by
  refine call_fs (R := [(V.G, W.listOf gs kg), (K.H, instObj 250 K.HD), (K.HD, hdict w K.f K.lab K.nts K.q1 K.q2 K.q3), (K.al, W.listOf as ka)]) C B F X N T hf hke (fun q hq => hm q ?_) (fun q hq => ⟨hm q ?_, fun r hr => ?_⟩) hd hu (fun _ _ _ => trivial)
    fun r h' tk' P' F' N' ap _ hp => ret r h' tk' P' F' N' (fun q hq => ⟨(ap q hq _ (.head _)).symm, (ap q hq _ (.tail _ (.head _))).symm, (ap q hq _ (.tail _ (.tail _ (.head _)))).symm, (ap q hq _ (.tail _ (.tail _ (.tail _ (.head _))))).symm⟩) hp
  · simp only [Wk.sled, dled, List.mem_cons, List.not_mem_nil, or_false] at hq ⊢
    rcases hq with h | h | h <;> simp only [h, true_or, or_true]
  · simp only [dled, List.mem_cons, List.not_mem_nil, or_false] at hq ⊢
    rcases hq with h | h | h | h <;> simp only [h, true_or, or_true]
  · simp only [Wk.sled, List.mem_cons, List.not_mem_nil, or_false] at hq hr
    rcases hq with rfl | rfl | rfl | rfl <;> rcases hr with rfl | rfl | rfl
    · exact AP.gw.out
    · exact AP.gd.out
    · exact AP.gs.out
    · exact AP.hw.out
    · exact AP.hd.out
    · exact AP.hs.out
    · exact AP.iw.out
    · exact AP.id.out
    · exact AP.is.out
    · exact AP.aw.out
    · exact AP.ad.out
    · exact AP.as.out
theorem d_push {v : Value} (AP : Apart V K S) (hv : v = .none ∨ ∃ x, RS v x) (hsz : st.size < 90000)
    (B : Below A₀ base outer h₀) (F : Fr h₀ L hp m) (X : (Mine.hd.heap_39 w.params).In h₀) (N : News h₀ L hp news) (T : Top p loose mean mg mb h₀) (hm : ∀ q ∈ dled w V K S st gs as ks kg ka, q ∈ news)
    (hf : env.frame = some L) (hke : env.scope.kind = .function) (hd : dp + 3 < 900) (hu : un + 5 * 3 < 3000)
    (ret : ∀ r h' tk' st' k', Fr h₀ L h' m → News h₀ L h' (dled w V K S st' gs as k' kg ka) → PushR st v r st' → Q r ⟨h', gens, dr, tk', os⟩) :
    wpAny (model pw w) (top dp un gd (env :: outer)) (call (.ref 86) [.ref V.W, v]) Q E ⟨hp, gens, dr, tk, os⟩ := by
  refine d_stack (push_fs V S st ks v AP.wd AP.ws AP.ds hsz hv) AP B F X N T hm hf hke hd hu fun r h' tk' P' F' N' _ hp => ?_
  rcases hp with ⟨h1, h2, k', rfl⟩ | ⟨h1, h2, k', rfl⟩
  · exact ret r h' tk' st k' F' N' (.inl ⟨h1, h2, rfl⟩)
  · exact ret r h' tk' _ k' F' N' (.inr ⟨h1, h2, rfl⟩)
theorem d_pop (AP : Apart V K S) (hpos : 0 < st.size) (hsz : st.size < 90000)
    (B : Below A₀ base outer h₀) (F : Fr h₀ L hp m) (X : (Mine.hd.heap_39 w.params).In h₀) (N : News h₀ L hp news) (T : Top p loose mean mg mb h₀) (hm : ∀ q ∈ dled w V K S st gs as ks kg ka, q ∈ news)
    (hf : env.frame = some L) (hke : env.scope.kind = .function) (hd : dp + 3 < 900) (hu : un + 5 * 3 < 3000)
    (ret : ∀ r h' tk' st' k', Fr h₀ L h' m → News h₀ L h' (dled w V K S st' gs as k' kg ka) → Taken st st' 1 → Q r ⟨h', gens, dr, tk', os⟩) :
    wpAny (model pw w) (top dp un gd (env :: outer)) (call (.ref 93) [.ref V.W]) Q E ⟨hp, gens, dr, tk, os⟩ := by
  refine d_stack (pop_fs V S st ks AP.wd AP.ws AP.ds hpos hsz) AP B F X N T hm hf hke hd hu fun r h' tk' P' F' N' _ hp => ?_
  obtain ⟨k', _, rfl⟩ := hp
  exact ret r h' tk' _ k' F' N' (.of_pop hpos)
theorem d_take {k : Nat} {t : Tok} (AP : Apart V K S) (hk : k ≤ st.size) (hsz : st.size < 90000)
    (B : Below A₀ base outer h₀) (F : Fr h₀ L hp m) (X : (Mine.hd.heap_39 w.params).In h₀) (N : News h₀ L hp news) (T : Top p loose mean mg mb h₀) (hm : ∀ q ∈ dled w V K S st gs as ks kg ka, q ∈ news)
    (hf : env.frame = some L) (hke : env.scope.kind = .function) (hd : dp + 3 < 900) (hu : un + 5 * 3 < 3000)
    (ret : ∀ D h' tk' S' st' k', Fr h₀ L h' m → News h₀ L h' (dled w V K S' st' gs as k' kg ka) → Apart V K S' → Taken st st' k → Q (.ref D) ⟨h', gens, dr, tk', os⟩) :
    wpAny (model pw w) (top dp un gd (env :: outer)) (call (.ref 100) [.ref V.W, .int (k : Nat) t]) Q E ⟨hp, gens, dr, tk, os⟩ := by
  refine d_stack (tk_fs V S st ks k t AP.wd AP.ws AP.ds hk hsz) AP B F X N T hm hf hke hd hu fun r h' tk' P' F' N' ap hp => ?_
  obtain ⟨S', ks', D, its, kd, rfl, rfl, h1, h2⟩ := hp
  have a := ap (S', _) (List.mem_append_left _ (.tail _ (.tail _ (.head _))))
  refine ret D h' tk' S' _ ks' F' (news_sub N' fun q hq => ?_) (AP.move h1 h2 a.1 a.2.1 a.2.2.1 a.2.2.2) (.of_take hk)
  simp only [Wk.sled, dled, List.mem_cons, List.mem_append, List.not_mem_nil, or_false] at hq ⊢
  rcases hq with h | h | h | h | h | h | h <;> simp only [h, true_or, or_true]
end
noncomputable def gset (o : O) (gs : Array Value) : Array Value := match o with | .unguard => gs.pop | _ => gs
/-- what an order comes to -/
noncomputable def DoPost (w : World) (V : Wk) (K : Hk) (o : O) (σ : M) (gs : Array Value) (r : Value) (P' : List (Addr × Obj)) : Prop :=
  ∃ S' st' gs' as' ks' kg' ka', r = .bool (doO K.bad o σ).1 ∧ P' = dled w V K S' st' gs' as' ks' kg' ka' ∧ Apart V K S' ∧ RSs st'.toList (doO K.bad o σ).2.st ∧ as'.size = (doO K.bad o σ).2.n ∧ gs' = gset o gs
theorem rss_size {st : Array Value} {l : List SV} (h : RSs st.toList l) : st.size = l.length := by rw [← Array.length_toList]; exact h.length
theorem ask_end {w : World} {V : Wk} {K : Hk} {o : O} {σ : M} {gs st st1 st2 as as1 : Array Value} {S' : Addr} {ks kg ka k : Nat} {v r : Value} (hp : PushR st1 v r st2) (ht : Taken st st1 k) (h : o.asks = true) (hst : RSs st.toList σ.st) (hn : as.size = σ.n)
    (hk : k = need o) (hn1 : as1.size = as.size + 1) (ha : K.ans as.size v) (AP : Apart V K S') : DoPost w V K o σ gs r (dled w V K S' st2 gs as1 ks kg ka) := by
  subst hk
  have hd := doO_asks (bad := K.bad) (σ := σ) h
  have hgs : gset o gs = gs := by cases o <;> first | rfl | cases h
  have hs := rss_size hst
  have h1 : RSs st1.toList (σ.st.take (σ.st.length - need o)) := by rw [ht.1, hs]; exact hst.take _
  unfold askM at hd
  rw [hn] at ha
  rcases ha with ⟨hb, rfl⟩ | ⟨hb, t, rfl⟩
  · rw [if_pos hb] at hd
    rcases hp with ⟨_, rfl, rfl⟩ | ⟨hx, _⟩
    · exact ⟨S', _, _, _, _, _, _, by rw [hd], rfl, AP, by rw [hd]; exact h1, by rw [hd, hn1, hn], hgs.symm⟩
    · exact absurd rfl hx
  · rw [if_neg hb] at hd
    rcases hp with ⟨hx, _⟩ | ⟨_, rfl, rfl⟩
    · cases hx
    · exact ⟨S', _, _, _, _, _, _, by rw [hd], rfl, AP, by rw [hd, Array.toList_push]; exact h1.snoc .s, by rw [hd, hn1, hn], hgs.symm⟩
theorem push_end {w : World} {V : Wk} {K : Hk} {x : SV} {σ : M} {gs st st2 as : Array Value} {S' : Addr} {ks kg ka : Nat} {v r : Value} (hst : RSs st.toList σ.st) (hn : as.size = σ.n)
    (ha : RS v x) (hp : PushR st v r st2) (AP : Apart V K S') : DoPost w V K (.push x) σ gs r (dled w V K S' st2 gs as ks kg ka) := by
  rcases hp with ⟨hx, _⟩ | ⟨_, rfl, rfl⟩
  · subst hx; cases ha
  · exact ⟨S', _, _, _, _, _, _, rfl, rfl, AP, by rw [Array.toList_push]; exact hst.snoc ha, hn, rfl⟩
theorem drop_end {w : World} {V : Wk} {K : Hk} {σ : M} {gs st st1 as : Array Value} {S' : Addr} {ks kg ka : Nat} (hst : RSs st.toList σ.st) (hn : as.size = σ.n)
    (ht : Taken st st1 1) (AP : Apart V K S') : DoPost w V K .drop σ gs (.bool true) (dled w V K S' st1 gs as ks kg ka) :=
  ⟨S', _, _, _, _, _, _, rfl, rfl, AP, by show RSs _ (σ.st.take (σ.st.length - 1)); rw [ht.1, rss_size hst]; exact hst.take _, hn, rfl⟩
theorem Taken.refl {a : Array Value} : Taken a a 0 := ⟨by rw [Nat.sub_zero, ← Array.length_toList, List.take_length], rfl, Nat.zero_le _⟩
theorem unguard_end {w : World} {V : Wk} {K : Hk} {σ : M} {gs st as : Array Value} {S' : Addr} {ks kg ka : Nat} (hst : RSs st.toList σ.st) (hn : as.size = σ.n)
    (AP : Apart V K S') : DoPost w V K .unguard σ gs (.bool true) (dled w V K S' st gs.pop as ks kg ka) :=
  ⟨S', _, _, _, _, _, _, rfl, rfl, AP, hst, hn, rfl⟩
theorem fail_end {w : World} {V : Wk} {K : Hk} {σ : M} {gs st as : Array Value} {S' : Addr} {ks kg ka : Nat} (hst : RSs st.toList σ.st) (hn : as.size = σ.n)
    (AP : Apart V K S') : DoPost w V K .fail σ gs (.bool false) (dled w V K S' st gs as ks kg ka) :=
  ⟨S', _, _, _, _, _, _, rfl, rfl, AP, hst, hn, rfl⟩
section
variable {w : World} {A : Around} {base h₀ g₀ : Heap} {outer : List Env} {L : Addr} {m : Str → Option Value} {env : Env} {news : List (Addr × Obj)} {hp : Heap} {gens : Array GenState} {dr : Drawn} {tk : Nat} {os : OsState} {p : Program} {loose : List Str} {mean : ExcName → Option Value} {mg mb : Str → Option Value}
  {A₀ : Around} {dp un dep : Nat} {gd : Option (List Code)} {Q E : Value → Shared → Prop} {f : Addr} {args : List Value} {K : Hk} {V : Wk} {S : Addr} {st gs as : Array Value} {ks kg ka : Nat} {o : O} {v : Value} {σ : M}
/-- an order's call -/
theorem d_do (C : FS w f dep args (fun g => RO (inH g) v o ∧ K.pre g) (dled w V K S st gs as ks kg ka) (DoPost w V K o σ gs)) (hro : RO (inH g₀) v o) (hpre : K.pre g₀) (hk : ∀ b o, g₀.get? b = some o → h₀.get? b = some o)
    (B : Below A₀ base outer h₀) (F : Fr h₀ L hp m) (X : (Mine.hd.heap_39 w.params).In h₀) (N : News h₀ L hp news) (T : Top p loose mean mg mb h₀) (hm : ∀ q ∈ dled w V K S st gs as ks kg ka, q ∈ news)
    (hf : env.frame = some L) (hke : env.scope.kind = .function) (hd : dp + dep < 900) (hu : un + 5 * dep < 3000)
    (ret : ∀ r h' tk' P', Fr h₀ L h' m → News h₀ L h' P' → DoPost w V K o σ gs r P' → Q r ⟨h', gens, dr, tk', os⟩) :
    wpAny (model pw w) (top dp un gd (env :: outer)) (call (.ref f) args) Q E ⟨hp, gens, dr, tk, os⟩ := by
  refine call_fs (R := []) C B F X N T hf hke hm (fun q hq => nomatch hq) hd hu (fun g' _ hk' => ⟨hro.mono fun a o e => hk' _ _ (hk _ _ e), fun q hq => hk' _ _ (hk _ _ (hpre.1 q hq)), hk' _ _ (hk _ _ hpre.2)⟩) ?_
  intro r h' tk' P' F' N' _ _ hp
  exact ret r h' tk' P' F' (by rwa [List.append_nil] at N') hp
end
theorem Taken.lt {a b : Array Value} {k : Nat} (h : Taken a b k) (x : a.size < 90000) : b.size < 90000 := Nat.lt_of_le_of_lt (by rw [h.2.1]; exact Nat.sub_le _ _) x
theorem Taken.pos {a b : Array Value} {k : Nat} (h : Taken a b k) (x : k + 1 ≤ a.size) : 0 < b.size := by have := h.2.1; omega
end Mine
set_option maxHeartbeats 40000000 in
theorem Mine.part_fs {w : World} (V : Wk) (K : Hk) (OK : K.Ok w) (S : Addr) (AP : Apart V K S) (o : O) (v : Value) (σ : M) (st gs as : Array Value) (ks kg ka : Nat) (hst : RSs st.toList σ.st) (hn : as.size = σ.n) (hnd : need o ≤ st.size) (hsz : st.size < 90000) (hsa : as.size < 90000) (hsg : gs.size < 90000) (hun : o = .unguard → 0 < gs.size)
    (hc : o = .given ∨ o = .cursor) : FS w 275 4 [.ref V.W, v, .ref K.H] (fun g => RO (inH g) v o ∧ K.pre g) (dled w V K S st gs as ks kg ka) (DoPost w V K o σ gs) := by
  w_top off
  k_with_none
  k_with "callWith ref" => (k_here; k_dflt (first | (refine' callWith_K ?k1z1 ?k2z1 ?_; (case k1z1 => k_asm); (case k2z1 => k_is); k_whole) | (refine' callWith_K0 ?k1z1 ?k2z1 ?_; (case k1z1 => k_in); (case k2z1 => k_is); k_whole)))
  k_with "binaryOp Add ref ref" => (k_here; with_reducible refine' Mine.add_mem ?Fz2 ?Nz2 ?az2 ?bz2 ?zz2 ?_; (case Fz2 => k_asm); (case Nz2 => k_asm); (case az2 => k_dflt k_mem); (case bz2 => k_dflt k_mem); (case zz2 => ((try dsimp only [Mine.T.size] at *); (try simp only [Array.size_append, List.size_toArray, List.length_cons, List.length_nil]); omega)); intro _ _ _ _ l1zz; (try k_lt l1zz); (try (revert l1zz; intro _)); (try k_sweep))
  k_with "call builtin:len" => (k_here; with_reducible refine' Mine.len_mem ?Nz3 ?mz3 ?ez3 ?zz3 ?_; (case Nz3 => k_asm); (case mz3 => k_dflt k_mem); (case ez3 => first | with_reducible assumption | exact rfl); (case zz3 => ((try dsimp only [Mine.T.size] at *); (try simp only [Array.size_push]); omega)); intro _ _)
  k_with "call builtin:len" => (k_here; with_reducible refine' Mine.len_tupN ?Tz4 ?ez4 ?zz4 ?_; (case Tz4 => k_dflt is_tup); (case ez4 => first | with_reducible assumption | exact rfl); (case zz4 => first | (k_dflt decide) | ((try dsimp only [Mine.T.size] at *); omega)); intro _ _)
  k_with "call builtin:list.extend" => (k_here; with_reducible refine' Mine.ext_mem ?Fz5 ?Nz5 ?bz5 ?Uz5 ?zz5 ?_; (case Fz5 => k_asm); (case Nz5 => k_asm); (case bz5 => k_dflt k_mem); (case Uz5 => k_dflt k_updF); (case zz5 => ((try dsimp only [Mine.T.size] at *); (try simp only [Array.size_append, List.size_toArray, List.length_cons, List.length_nil]); omega)); intro _ _ _ Nqzz; (try dsimp only at Nqzz); (try (revert Nqzz; intro _)); (try k_sweep))
  k_with "call ref" => (k_here; (with_reducible show wpAny _ _ (PySem.call (Value.ref 296) _) _ _ _); k_dflt (refine' Mine.ord_call ?Iz6 ?Bz6 ?Fz6 ?Xz6 ?Nz6 ?Tz6 ?rz6 ?kz6 ?fz6 ?ez6 ?sz6 ?wz6 ?dz6 ?uz6 ?_; (case Iz6 => assumption); (case Bz6 => k_asm); (case Fz6 => k_asm); (case Xz6 => k_asm); (case Nz6 => k_asm); (case Tz6 => k_asm); (case rz6 => assumption); (case kz6 => first | exact fun _ _ e => e | exact Fr.keep (by assumption) | exact fun _ _ e => Fr.keep (by assumption) _ _ (Fr.keep (by assumption) _ _ e)); (case fz6 => exact rfl); (case ez6 => exact rfl); (case sz6 => ((try dsimp only [Mine.T.size] at *); omega)); (case wz6 => first | assumption | exact And.left (by assumption) | exact And.right (by assumption)); (case dz6 => ((try dsimp only [Mine.T.size] at *); (try dsimp only [depth_deeper, Mine.top]); (first | exact Mine.rm2 (by assumption) rfl | exact Mine.rm_tree (by assumption) | exact Mine.rm_ord (by assumption) (Nat.succ_le_succ (Nat.le_add_right _ _)) | exact Mine.rm_ord (by assumption) (Nat.succ_le_succ (Nat.le_add_left _ _)) | exact Mine.rm_ord (by assumption) (Nat.le_refl _) | omega))); (case uz6 => ((try dsimp only [Mine.T.size] at *); (try dsimp only [units_deeper, units_in1, Mine.top]); (first | exact Mine.rm2 (by assumption) rfl | exact Mine.rm_treeu (by assumption) | exact Mine.rm_ordu (by assumption) (Nat.succ_le_succ (Nat.le_add_right _ _)) | exact Mine.rm_ordu (by assumption) (Nat.succ_le_succ (Nat.le_add_left _ _)) | exact Mine.rm_ordu (by assumption) (Nat.le_refl _) | omega)))); intro _ _ _ _ _ _ _ _ _ _ _ _ _; (try k_sweep))
  k_with "call ref" => (k_here; (with_reducible show wpAny _ _ (PySem.call (Value.ref 303) _) _ _ _); k_dflt (refine' Mine.fs_call0 (mo := 2) ?Iz7 ?Bz7 ?Fz7 ?Xz7 ?Nz7 ?Tz7 ?rz7 ?kz7 ?fz7 ?ez7 ?dz7 ?uz7 ?_; (case Iz7 => assumption); (case Bz7 => k_asm); (case Fz7 => k_asm); (case Xz7 => k_asm); (case Nz7 => k_asm); (case Tz7 => k_asm); (case rz7 => assumption); (case kz7 => first | exact fun _ _ e => e | exact Fr.keep (by assumption) | exact fun _ _ e => Fr.keep (by assumption) _ _ (Fr.keep (by assumption) _ _ e)); (case fz7 => exact rfl); (case ez7 => exact rfl); (case dz7 => ((try dsimp only [Mine.T.size] at *); (try dsimp only [depth_deeper, Mine.top]); (first | exact Mine.rm2 (by assumption) rfl | exact Mine.rm_tree (by assumption) | exact Mine.rm_ord (by assumption) (Nat.succ_le_succ (Nat.le_add_right _ _)) | exact Mine.rm_ord (by assumption) (Nat.succ_le_succ (Nat.le_add_left _ _)) | exact Mine.rm_ord (by assumption) (Nat.le_refl _) | omega))); (case uz7 => ((try dsimp only [Mine.T.size] at *); (try dsimp only [units_deeper, units_in1, Mine.top]); (first | exact Mine.rm2 (by assumption) rfl | exact Mine.rm_treeu (by assumption) | exact Mine.rm_ordu (by assumption) (Nat.succ_le_succ (Nat.le_add_right _ _)) | exact Mine.rm_ordu (by assumption) (Nat.succ_le_succ (Nat.le_add_left _ _)) | exact Mine.rm_ordu (by assumption) (Nat.le_refl _) | omega)))); intro _ _ _ _ _ _ _ _ _ _ _ _ _; (try k_sweep))
  k_with "call ref" => (k_here; (with_reducible show wpAny _ _ (PySem.call (Value.ref 338) _) _ _ _); k_dflt (refine' Mine.fs_pure ?Iz8 ?Bz8 ?Fz8 ?Xz8 ?Nz8 ?Tz8 ?rz8 ?fz8 ?ez8 ?dz8 ?uz8 ?_; (case Iz8 => assumption); (case Bz8 => k_asm); (case Fz8 => k_asm); (case Xz8 => k_asm); (case Nz8 => k_asm); (case Tz8 => k_asm); (case rz8 => exact fun g' hk _ => Mine.RO.mono (by assumption) hk); (case fz8 => exact rfl); (case ez8 => exact rfl); (case dz8 => ((try dsimp only [depth_deeper, Mine.top]); (first | exact Mine.rm2 (by assumption) rfl | exact Mine.rm_tree (by assumption) | exact Mine.rm_ord (by assumption) (Nat.succ_le_succ (Nat.le_add_right _ _)) | exact Mine.rm_ord (by assumption) (Nat.succ_le_succ (Nat.le_add_left _ _)) | exact Mine.rm_ord (by assumption) (Nat.le_refl _) | omega))); (case uz8 => ((try dsimp only [units_deeper, units_in1, Mine.top]); (first | exact Mine.rm2 (by assumption) rfl | exact Mine.rm_treeu (by assumption) | exact Mine.rm_ordu (by assumption) (Nat.succ_le_succ (Nat.le_add_right _ _)) | exact Mine.rm_ordu (by assumption) (Nat.succ_le_succ (Nat.le_add_left _ _)) | exact Mine.rm_ordu (by assumption) (Nat.le_refl _) | omega)))); intro _ _ _ _ _ eqzz; (obtain ⟨tqzz, eqzz⟩ := eqzz; subst eqzz); (try (revert tqzz; intro _)); (try k_sweep))
  k_with "call builtin:isinstance" => (k_here; with_reducible refine' Mine.isi_tup ?Tz9 ?_; (case Tz9 => k_dflt is_tup); intro _)
  k_with "execs cons" => (k_here; first | (with_reducible refine' Mine.skip_if0 ?Fz10 ?vz10 ?bz10 ?_ ?x1z10 ?x2z10 ?x3z10; (case Fz10 => k_asm); (case vz10 => k_dflt exact rfl); (case bz10 => k_dflt decide); (case x1z10 => k_dflt exact rfl); (case x2z10 => k_dflt exact rfl); (case x3z10 => k_dflt decide); intro _) | (with_reducible refine' Mine.skip_or0 ?Fz10 ?vz10 ?bz10 ?b2z10 ?_ ?x1z10 ?x2z10 ?x3z10; (case Fz10 => k_asm); (case vz10 => k_dflt exact rfl); (case bz10 => k_dflt decide); (case b2z10 => k_dflt decide); (case x1z10 => k_dflt exact rfl); (case x2z10 => k_dflt exact rfl); (case x3z10 => k_dflt decide); intro _) | (with_reducible refine' Mine.take_if0 ?Fz10 ?vz10 ?bz10 ?_ ?x1z10 ?x2z10 ?x3z10; (case Fz10 => k_asm); (case vz10 => k_dflt exact rfl); (case bz10 => k_dflt decide); (case x1z10 => k_dflt exact rfl); (case x2z10 => k_dflt exact rfl); (case x3z10 => k_dflt decide); intro _))
  k_with "execs cons" => (k_here; first | (with_reducible refine' Mine.skip_in0 ?Fz11 ?Nz11 ?vz11 ?sz11 ?nz11 ?bz11 ?mz11 ?_ ?x1z11 ?x2z11 ?x3z11; (case Fz11 => k_asm); (case Nz11 => k_asm); (case vz11 => k_dflt exact rfl); (case sz11 => k_dflt exact rfl); (case nz11 => k_dflt decide); (case bz11 => k_dflt decide); (case mz11 => k_dflt exact rfl); (case x1z11 => k_dflt exact rfl); (case x2z11 => k_dflt exact rfl); (case x3z11 => k_dflt decide); intro _ _ _ _; (try k_sweep)) | (with_reducible refine' Mine.take_in0 ?Fz11 ?Nz11 ?vz11 ?sz11 ?nz11 ?bz11 ?mz11 ?_ ?x1z11 ?x2z11 ?x3z11; (case Fz11 => k_asm); (case Nz11 => k_asm); (case vz11 => k_dflt exact rfl); (case sz11 => k_dflt exact rfl); (case nz11 => k_dflt decide); (case bz11 => k_dflt decide); (case mz11 => k_dflt exact rfl); (case x1z11 => k_dflt exact rfl); (case x2z11 => k_dflt exact rfl); (case x3z11 => k_dflt decide); intro _ _ _ _; (try k_sweep)))
  k_with "eval Subscript Name Constant" => (k_here; with_reducible refine' Mine.item_tup0 ?Fz12 ?vz12 ?tz12 ?loz12 ?hiz12 ?jz12 ?uz12 ?_ ?x1z12 ?x2z12 ?x3z12; (case Fz12 => k_asm); (case vz12 => k_dflt exact rfl); (case tz12 => k_dflt is_tup); (case loz12 => k_dflt decide); (case hiz12 => k_dflt decide); (case jz12 => k_dflt exact rfl); (case uz12 => k_dflt exact rfl); (case x1z12 => k_dflt exact rfl); (case x2z12 => k_dflt exact rfl); (case x3z12 => k_dflt decide); intro _)
  k_with "call ref" => (k_here; (with_reducible show wpAny _ _ (PySem.call (Value.ref 86) _) _ _ _); k_dflt (refine' Mine.d_push ?APz23 ?hvz23 ?hszz23 ?Bz23 ?Fz23 ?Xz23 ?Nz23 ?Tz23 ?hmz23 ?hfz23 ?hkez23 ?hdz23 ?huz23 ?_; (case APz23 => assumption); (case Bz23 => k_asm); (case Fz23 => k_asm); (case Xz23 => k_asm); (case Nz23 => k_asm); (case Tz23 => k_asm); (case hmz23 => first | exact fun _ h => h | exact fun _ h => .tail _ h | exact fun _ h => .tail _ (.tail _ h)); (case hvz23 => first | exact Mine.ans_ok (by assumption) | exact .inr ⟨_, by assumption⟩); (case hszz23 => first | assumption | exact Mine.Taken.lt (by assumption) (by assumption) | exact Mine.Taken.lt (by assumption) (Mine.Taken.lt (by assumption) (by assumption))); (case hfz23 => exact rfl); (case hkez23 => exact rfl); (case hdz23 => ((try dsimp only [depth_deeper, Mine.top]); (first | exact Mine.rm2 (by assumption) rfl | exact Mine.rm_tree (by assumption) | exact Mine.rm_ord (by assumption) (Nat.succ_le_succ (Nat.le_add_right _ _)) | exact Mine.rm_ord (by assumption) (Nat.succ_le_succ (Nat.le_add_left _ _)) | exact Mine.rm_ord (by assumption) (Nat.le_refl _) | omega))); (case huz23 => ((try dsimp only [units_deeper, units_in1, Mine.top]); (first | exact Mine.rm2 (by assumption) rfl | exact Mine.rm_treeu (by assumption) | exact Mine.rm_ordu (by assumption) (Nat.succ_le_succ (Nat.le_add_right _ _)) | exact Mine.rm_ordu (by assumption) (Nat.succ_le_succ (Nat.le_add_left _ _)) | exact Mine.rm_ordu (by assumption) (Nat.le_refl _) | omega)))); intro _ _ _ _ _ _ Nqzz hpqzz; (try dsimp only [Mine.dled] at Nqzz); (try (revert Nqzz hpqzz; intro _ _)); (try k_sweep))
  k_with "call ref" => (k_here; (with_reducible show wpAny _ _ (PySem.call (Value.ref 93) _) _ _ _); k_dflt (refine' Mine.d_pop ?APz24 ?hposz24 ?hszz24 ?Bz24 ?Fz24 ?Xz24 ?Nz24 ?Tz24 ?hmz24 ?hfz24 ?hkez24 ?hdz24 ?huz24 ?_; (case APz24 => assumption); (case Bz24 => k_asm); (case Fz24 => k_asm); (case Xz24 => k_asm); (case Nz24 => k_asm); (case Tz24 => k_asm); (case hmz24 => first | exact fun _ h => h | exact fun _ h => .tail _ h | exact fun _ h => .tail _ (.tail _ h)); (case hposz24 => first | assumption | omega | exact Mine.Taken.pos (by assumption) (by assumption)); (case hszz24 => first | assumption | exact Mine.Taken.lt (by assumption) (by assumption) | exact Mine.Taken.lt (by assumption) (Mine.Taken.lt (by assumption) (by assumption))); (case hfz24 => exact rfl); (case hkez24 => exact rfl); (case hdz24 => ((try dsimp only [depth_deeper, Mine.top]); (first | exact Mine.rm2 (by assumption) rfl | exact Mine.rm_tree (by assumption) | exact Mine.rm_ord (by assumption) (Nat.succ_le_succ (Nat.le_add_right _ _)) | exact Mine.rm_ord (by assumption) (Nat.succ_le_succ (Nat.le_add_left _ _)) | exact Mine.rm_ord (by assumption) (Nat.le_refl _) | omega))); (case huz24 => ((try dsimp only [units_deeper, units_in1, Mine.top]); (first | exact Mine.rm2 (by assumption) rfl | exact Mine.rm_treeu (by assumption) | exact Mine.rm_ordu (by assumption) (Nat.succ_le_succ (Nat.le_add_right _ _)) | exact Mine.rm_ordu (by assumption) (Nat.succ_le_succ (Nat.le_add_left _ _)) | exact Mine.rm_ordu (by assumption) (Nat.le_refl _) | omega)))); intro _ _ _ _ _ _ Nqzz htqzz; (try dsimp only [Mine.dled] at Nqzz); (try (revert Nqzz htqzz; intro _ _)); (try k_sweep))
  k_with "call ref" => (k_here; (with_reducible show wpAny _ _ (PySem.call (Value.ref 100) _) _ _ _); k_dflt (refine' Mine.d_take ?APz25 ?hkz25 ?hszz25 ?Bz25 ?Fz25 ?Xz25 ?Nz25 ?Tz25 ?hmz25 ?hfz25 ?hkez25 ?hdz25 ?huz25 ?_; (case APz25 => assumption); (case Bz25 => k_asm); (case Fz25 => k_asm); (case Xz25 => k_asm); (case Nz25 => k_asm); (case Tz25 => k_asm); (case hmz25 => first | exact fun _ h => h | exact fun _ h => .tail _ h | exact fun _ h => .tail _ (.tail _ h)); (case hkz25 => first | assumption | omega); (case hszz25 => first | assumption | exact Mine.Taken.lt (by assumption) (by assumption) | exact Mine.Taken.lt (by assumption) (Mine.Taken.lt (by assumption) (by assumption))); (case hfz25 => exact rfl); (case hkez25 => exact rfl); (case hdz25 => ((try dsimp only [depth_deeper, Mine.top]); (first | exact Mine.rm2 (by assumption) rfl | exact Mine.rm_tree (by assumption) | exact Mine.rm_ord (by assumption) (Nat.succ_le_succ (Nat.le_add_right _ _)) | exact Mine.rm_ord (by assumption) (Nat.succ_le_succ (Nat.le_add_left _ _)) | exact Mine.rm_ord (by assumption) (Nat.le_refl _) | omega))); (case huz25 => ((try dsimp only [units_deeper, units_in1, Mine.top]); (first | exact Mine.rm2 (by assumption) rfl | exact Mine.rm_treeu (by assumption) | exact Mine.rm_ordu (by assumption) (Nat.succ_le_succ (Nat.le_add_right _ _)) | exact Mine.rm_ordu (by assumption) (Nat.succ_le_succ (Nat.le_add_left _ _)) | exact Mine.rm_ordu (by assumption) (Nat.le_refl _) | omega)))); intro _ _ _ _ _ _ _ Nqzz Aqzz htqzz; (try dsimp only [Mine.dled] at Nqzz); (try (revert Nqzz Aqzz htqzz; intro _ _ _)); (try k_sweep))
  k_with "call ref" => (k_here; (with_reducible show wpAny _ _ (PySem.call (Value.ref 135) _) _ _ _); k_dflt (refine' Mine.d_hook (dep := 3) ?Cz26 ?hprez26 ?hkz26 ?APz26 ?Bz26 ?Fz26 ?Xz26 ?Nz26 ?Tz26 ?hmz26 ?hfz26 ?hkez26 ?hdz26 ?huz26 ?_; (case APz26 => assumption); (case Bz26 => k_asm); (case Fz26 => k_asm); (case Xz26 => k_asm); (case Nz26 => k_asm); (case Tz26 => k_asm); (case hmz26 => first | exact fun _ h => h | exact fun _ h => .tail _ h | exact fun _ h => .tail _ (.tail _ h)); (case Cz26 => exact Mine.var_value_fs _ (by assumption) _ _ _ (by assumption)); (case hprez26 => assumption); (case hkz26 => first | exact fun _ _ e => e | exact Fr.keep (by assumption) | exact Below.stays (by assumption)); (case hfz26 => exact rfl); (case hkez26 => exact rfl); (case hdz26 => ((try dsimp only [depth_deeper, Mine.top]); (first | exact Mine.rm2 (by assumption) rfl | exact Mine.rm_tree (by assumption) | exact Mine.rm_ord (by assumption) (Nat.succ_le_succ (Nat.le_add_right _ _)) | exact Mine.rm_ord (by assumption) (Nat.succ_le_succ (Nat.le_add_left _ _)) | exact Mine.rm_ord (by assumption) (Nat.le_refl _) | omega))); (case huz26 => ((try dsimp only [units_deeper, units_in1, Mine.top]); (first | exact Mine.rm2 (by assumption) rfl | exact Mine.rm_treeu (by assumption) | exact Mine.rm_ordu (by assumption) (Nat.succ_le_succ (Nat.le_add_right _ _)) | exact Mine.rm_ordu (by assumption) (Nat.succ_le_succ (Nat.le_add_left _ _)) | exact Mine.rm_ordu (by assumption) (Nat.le_refl _) | omega)))); intro _ _ _ _ _ _ Nqzz eqzz haqzz; (try dsimp only [Mine.dled] at Nqzz); (try (revert Nqzz eqzz haqzz; intro _ _ _)); (try k_sweep))
  k_with "call ref" => (k_here; (with_reducible show wpAny _ _ (PySem.call (Value.ref 142) _) _ _ _); k_dflt (refine' Mine.d_hook (dep := 3) ?Cz27 ?hprez27 ?hkz27 ?APz27 ?Bz27 ?Fz27 ?Xz27 ?Nz27 ?Tz27 ?hmz27 ?hfz27 ?hkez27 ?hdz27 ?huz27 ?_; (case APz27 => assumption); (case Bz27 => k_asm); (case Fz27 => k_asm); (case Xz27 => k_asm); (case Nz27 => k_asm); (case Tz27 => k_asm); (case hmz27 => first | exact fun _ h => h | exact fun _ h => .tail _ h | exact fun _ h => .tail _ (.tail _ h)); (case Cz27 => exact Mine.name_of_fs _ (by assumption) _ _ _ _ (by assumption)); (case hprez27 => assumption); (case hkz27 => first | exact fun _ _ e => e | exact Fr.keep (by assumption) | exact Below.stays (by assumption)); (case hfz27 => exact rfl); (case hkez27 => exact rfl); (case hdz27 => ((try dsimp only [depth_deeper, Mine.top]); (first | exact Mine.rm2 (by assumption) rfl | exact Mine.rm_tree (by assumption) | exact Mine.rm_ord (by assumption) (Nat.succ_le_succ (Nat.le_add_right _ _)) | exact Mine.rm_ord (by assumption) (Nat.succ_le_succ (Nat.le_add_left _ _)) | exact Mine.rm_ord (by assumption) (Nat.le_refl _) | omega))); (case huz27 => ((try dsimp only [units_deeper, units_in1, Mine.top]); (first | exact Mine.rm2 (by assumption) rfl | exact Mine.rm_treeu (by assumption) | exact Mine.rm_ordu (by assumption) (Nat.succ_le_succ (Nat.le_add_right _ _)) | exact Mine.rm_ordu (by assumption) (Nat.succ_le_succ (Nat.le_add_left _ _)) | exact Mine.rm_ordu (by assumption) (Nat.le_refl _) | omega)))); intro _ _ _ _ _ _ Nqzz eqzz haqzz; (try dsimp only [Mine.dled] at Nqzz); (try (revert Nqzz eqzz haqzz; intro _ _ _)); (try k_sweep))
  k_with "call ref" => (k_here; (with_reducible show wpAny _ _ (PySem.call (Value.ref 149) _) _ _ _); k_dflt (refine' Mine.d_hook (dep := 3) ?Cz28 ?hprez28 ?hkz28 ?APz28 ?Bz28 ?Fz28 ?Xz28 ?Nz28 ?Tz28 ?hmz28 ?hfz28 ?hkez28 ?hdz28 ?huz28 ?_; (case APz28 => assumption); (case Bz28 => k_asm); (case Fz28 => k_asm); (case Xz28 => k_asm); (case Nz28 => k_asm); (case Tz28 => k_asm); (case hmz28 => first | exact fun _ h => h | exact fun _ h => .tail _ h | exact fun _ h => .tail _ (.tail _ h)); (case Cz28 => exact Mine.named_by_fs _ (by assumption) _ _ _ (by assumption)); (case hprez28 => assumption); (case hkz28 => first | exact fun _ _ e => e | exact Fr.keep (by assumption) | exact Below.stays (by assumption)); (case hfz28 => exact rfl); (case hkez28 => exact rfl); (case hdz28 => ((try dsimp only [depth_deeper, Mine.top]); (first | exact Mine.rm2 (by assumption) rfl | exact Mine.rm_tree (by assumption) | exact Mine.rm_ord (by assumption) (Nat.succ_le_succ (Nat.le_add_right _ _)) | exact Mine.rm_ord (by assumption) (Nat.succ_le_succ (Nat.le_add_left _ _)) | exact Mine.rm_ord (by assumption) (Nat.le_refl _) | omega))); (case huz28 => ((try dsimp only [units_deeper, units_in1, Mine.top]); (first | exact Mine.rm2 (by assumption) rfl | exact Mine.rm_treeu (by assumption) | exact Mine.rm_ordu (by assumption) (Nat.succ_le_succ (Nat.le_add_right _ _)) | exact Mine.rm_ordu (by assumption) (Nat.succ_le_succ (Nat.le_add_left _ _)) | exact Mine.rm_ordu (by assumption) (Nat.le_refl _) | omega)))); intro _ _ _ _ _ _ Nqzz eqzz haqzz; (try dsimp only [Mine.dled] at Nqzz); (try (revert Nqzz eqzz haqzz; intro _ _ _)); (try k_sweep))
  k_with "call ref" => (k_here; (with_reducible show wpAny _ _ (PySem.call (Value.ref 156) _) _ _ _); k_dflt (refine' Mine.d_hook (dep := 3) ?Cz29 ?hprez29 ?hkz29 ?APz29 ?Bz29 ?Fz29 ?Xz29 ?Nz29 ?Tz29 ?hmz29 ?hfz29 ?hkez29 ?hdz29 ?huz29 ?_; (case APz29 => assumption); (case Bz29 => k_asm); (case Fz29 => k_asm); (case Xz29 => k_asm); (case Nz29 => k_asm); (case Tz29 => k_asm); (case hmz29 => first | exact fun _ h => h | exact fun _ h => .tail _ h | exact fun _ h => .tail _ (.tail _ h)); (case Cz29 => exact Mine.ref_value_fs _ (by assumption) _ _ _ (by assumption)); (case hprez29 => assumption); (case hkz29 => first | exact fun _ _ e => e | exact Fr.keep (by assumption) | exact Below.stays (by assumption)); (case hfz29 => exact rfl); (case hkez29 => exact rfl); (case hdz29 => ((try dsimp only [depth_deeper, Mine.top]); (first | exact Mine.rm2 (by assumption) rfl | exact Mine.rm_tree (by assumption) | exact Mine.rm_ord (by assumption) (Nat.succ_le_succ (Nat.le_add_right _ _)) | exact Mine.rm_ord (by assumption) (Nat.succ_le_succ (Nat.le_add_left _ _)) | exact Mine.rm_ord (by assumption) (Nat.le_refl _) | omega))); (case huz29 => ((try dsimp only [units_deeper, units_in1, Mine.top]); (first | exact Mine.rm2 (by assumption) rfl | exact Mine.rm_treeu (by assumption) | exact Mine.rm_ordu (by assumption) (Nat.succ_le_succ (Nat.le_add_right _ _)) | exact Mine.rm_ordu (by assumption) (Nat.succ_le_succ (Nat.le_add_left _ _)) | exact Mine.rm_ordu (by assumption) (Nat.le_refl _) | omega)))); intro _ _ _ _ _ _ Nqzz eqzz haqzz; (try dsimp only [Mine.dled] at Nqzz); (try (revert Nqzz eqzz haqzz; intro _ _ _)); (try k_sweep))
  k_with "call ref" => (k_here; (with_reducible show wpAny _ _ (PySem.call (Value.ref 163) _) _ _ _); k_dflt (refine' Mine.d_hook (dep := 3) ?Cz30 ?hprez30 ?hkz30 ?APz30 ?Bz30 ?Fz30 ?Xz30 ?Nz30 ?Tz30 ?hmz30 ?hfz30 ?hkez30 ?hdz30 ?huz30 ?_; (case APz30 => assumption); (case Bz30 => k_asm); (case Fz30 => k_asm); (case Xz30 => k_asm); (case Nz30 => k_asm); (case Tz30 => k_asm); (case hmz30 => first | exact fun _ h => h | exact fun _ h => .tail _ h | exact fun _ h => .tail _ (.tail _ h)); (case Cz30 => exact Mine.called_fs _ (by assumption) _ _ _ _ _ (by assumption)); (case hprez30 => assumption); (case hkz30 => first | exact fun _ _ e => e | exact Fr.keep (by assumption) | exact Below.stays (by assumption)); (case hfz30 => exact rfl); (case hkez30 => exact rfl); (case hdz30 => ((try dsimp only [depth_deeper, Mine.top]); (first | exact Mine.rm2 (by assumption) rfl | exact Mine.rm_tree (by assumption) | exact Mine.rm_ord (by assumption) (Nat.succ_le_succ (Nat.le_add_right _ _)) | exact Mine.rm_ord (by assumption) (Nat.succ_le_succ (Nat.le_add_left _ _)) | exact Mine.rm_ord (by assumption) (Nat.le_refl _) | omega))); (case huz30 => ((try dsimp only [units_deeper, units_in1, Mine.top]); (first | exact Mine.rm2 (by assumption) rfl | exact Mine.rm_treeu (by assumption) | exact Mine.rm_ordu (by assumption) (Nat.succ_le_succ (Nat.le_add_right _ _)) | exact Mine.rm_ordu (by assumption) (Nat.succ_le_succ (Nat.le_add_left _ _)) | exact Mine.rm_ordu (by assumption) (Nat.le_refl _) | omega)))); intro _ _ _ _ _ _ Nqzz eqzz haqzz; (try dsimp only [Mine.dled] at Nqzz); (try (revert Nqzz eqzz haqzz; intro _ _ _)); (try k_sweep))
  k_with "call ref" => (k_here; (with_reducible show wpAny _ _ (PySem.call (Value.ref 170) _) _ _ _); k_dflt (refine' Mine.d_hook (dep := 3) ?Cz31 ?hprez31 ?hkz31 ?APz31 ?Bz31 ?Fz31 ?Xz31 ?Nz31 ?Tz31 ?hmz31 ?hfz31 ?hkez31 ?hdz31 ?huz31 ?_; (case APz31 => assumption); (case Bz31 => k_asm); (case Fz31 => k_asm); (case Xz31 => k_asm); (case Nz31 => k_asm); (case Tz31 => k_asm); (case hmz31 => first | exact fun _ h => h | exact fun _ h => .tail _ h | exact fun _ h => .tail _ (.tail _ h)); (case Cz31 => exact Mine.item_of_fs _ (by assumption) _ _ _ _ _ (by assumption)); (case hprez31 => assumption); (case hkz31 => first | exact fun _ _ e => e | exact Fr.keep (by assumption) | exact Below.stays (by assumption)); (case hfz31 => exact rfl); (case hkez31 => exact rfl); (case hdz31 => ((try dsimp only [depth_deeper, Mine.top]); (first | exact Mine.rm2 (by assumption) rfl | exact Mine.rm_tree (by assumption) | exact Mine.rm_ord (by assumption) (Nat.succ_le_succ (Nat.le_add_right _ _)) | exact Mine.rm_ord (by assumption) (Nat.succ_le_succ (Nat.le_add_left _ _)) | exact Mine.rm_ord (by assumption) (Nat.le_refl _) | omega))); (case huz31 => ((try dsimp only [units_deeper, units_in1, Mine.top]); (first | exact Mine.rm2 (by assumption) rfl | exact Mine.rm_treeu (by assumption) | exact Mine.rm_ordu (by assumption) (Nat.succ_le_succ (Nat.le_add_right _ _)) | exact Mine.rm_ordu (by assumption) (Nat.succ_le_succ (Nat.le_add_left _ _)) | exact Mine.rm_ordu (by assumption) (Nat.le_refl _) | omega)))); intro _ _ _ _ _ _ Nqzz eqzz haqzz; (try dsimp only [Mine.dled] at Nqzz); (try (revert Nqzz eqzz haqzz; intro _ _ _)); (try k_sweep))
  k_with "call ref" => (k_here; (with_reducible show wpAny _ _ (PySem.call (Value.ref 177) _) _ _ _); k_dflt (refine' Mine.d_hook (dep := 3) ?Cz32 ?hprez32 ?hkz32 ?APz32 ?Bz32 ?Fz32 ?Xz32 ?Nz32 ?Tz32 ?hmz32 ?hfz32 ?hkez32 ?hdz32 ?huz32 ?_; (case APz32 => assumption); (case Bz32 => k_asm); (case Fz32 => k_asm); (case Xz32 => k_asm); (case Nz32 => k_asm); (case Tz32 => k_asm); (case hmz32 => first | exact fun _ h => h | exact fun _ h => .tail _ h | exact fun _ h => .tail _ (.tail _ h)); (case Cz32 => exact Mine.operated_fs _ (by assumption) _ _ _ _ (by assumption)); (case hprez32 => assumption); (case hkz32 => first | exact fun _ _ e => e | exact Fr.keep (by assumption) | exact Below.stays (by assumption)); (case hfz32 => exact rfl); (case hkez32 => exact rfl); (case hdz32 => ((try dsimp only [depth_deeper, Mine.top]); (first | exact Mine.rm2 (by assumption) rfl | exact Mine.rm_tree (by assumption) | exact Mine.rm_ord (by assumption) (Nat.succ_le_succ (Nat.le_add_right _ _)) | exact Mine.rm_ord (by assumption) (Nat.succ_le_succ (Nat.le_add_left _ _)) | exact Mine.rm_ord (by assumption) (Nat.le_refl _) | omega))); (case huz32 => ((try dsimp only [units_deeper, units_in1, Mine.top]); (first | exact Mine.rm2 (by assumption) rfl | exact Mine.rm_treeu (by assumption) | exact Mine.rm_ordu (by assumption) (Nat.succ_le_succ (Nat.le_add_right _ _)) | exact Mine.rm_ordu (by assumption) (Nat.succ_le_succ (Nat.le_add_left _ _)) | exact Mine.rm_ordu (by assumption) (Nat.le_refl _) | omega)))); intro _ _ _ _ _ _ Nqzz eqzz haqzz; (try dsimp only [Mine.dled] at Nqzz); (try (revert Nqzz eqzz haqzz; intro _ _ _)); (try k_sweep))
  k_with "call ref" => (k_here; (with_reducible show wpAny _ _ (PySem.call (Value.ref 191) _) _ _ _); k_dflt (refine' Mine.d_hook (dep := 3) ?Cz33 ?hprez33 ?hkz33 ?APz33 ?Bz33 ?Fz33 ?Xz33 ?Nz33 ?Tz33 ?hmz33 ?hfz33 ?hkez33 ?hdz33 ?huz33 ?_; (case APz33 => assumption); (case Bz33 => k_asm); (case Fz33 => k_asm); (case Xz33 => k_asm); (case Nz33 => k_asm); (case Tz33 => k_asm); (case hmz33 => first | exact fun _ h => h | exact fun _ h => .tail _ h | exact fun _ h => .tail _ (.tail _ h)); (case Cz33 => exact Mine.given_part_fs _ (by assumption) _ _ _ _ _ (by assumption)); (case hprez33 => assumption); (case hkz33 => first | exact fun _ _ e => e | exact Fr.keep (by assumption) | exact Below.stays (by assumption)); (case hfz33 => exact rfl); (case hkez33 => exact rfl); (case hdz33 => ((try dsimp only [depth_deeper, Mine.top]); (first | exact Mine.rm2 (by assumption) rfl | exact Mine.rm_tree (by assumption) | exact Mine.rm_ord (by assumption) (Nat.succ_le_succ (Nat.le_add_right _ _)) | exact Mine.rm_ord (by assumption) (Nat.succ_le_succ (Nat.le_add_left _ _)) | exact Mine.rm_ord (by assumption) (Nat.le_refl _) | omega))); (case huz33 => ((try dsimp only [units_deeper, units_in1, Mine.top]); (first | exact Mine.rm2 (by assumption) rfl | exact Mine.rm_treeu (by assumption) | exact Mine.rm_ordu (by assumption) (Nat.succ_le_succ (Nat.le_add_right _ _)) | exact Mine.rm_ordu (by assumption) (Nat.succ_le_succ (Nat.le_add_left _ _)) | exact Mine.rm_ordu (by assumption) (Nat.le_refl _) | omega)))); intro _ _ _ _ _ _ Nqzz eqzz haqzz; (try dsimp only [Mine.dled] at Nqzz); (try (revert Nqzz eqzz haqzz; intro _ _ _)); (try k_sweep))
  k_with "call ref" => (k_here; (with_reducible show wpAny _ _ (PySem.call (Value.ref 198) _) _ _ _); k_dflt (refine' Mine.d_hook (dep := 3) ?Cz34 ?hprez34 ?hkz34 ?APz34 ?Bz34 ?Fz34 ?Xz34 ?Nz34 ?Tz34 ?hmz34 ?hfz34 ?hkez34 ?hdz34 ?huz34 ?_; (case APz34 => assumption); (case Bz34 => k_asm); (case Fz34 => k_asm); (case Xz34 => k_asm); (case Nz34 => k_asm); (case Tz34 => k_asm); (case hmz34 => first | exact fun _ h => h | exact fun _ h => .tail _ h | exact fun _ h => .tail _ (.tail _ h)); (case Cz34 => exact Mine.cursor_fs _ (by assumption) _ _ _ (by assumption)); (case hprez34 => assumption); (case hkz34 => first | exact fun _ _ e => e | exact Fr.keep (by assumption) | exact Below.stays (by assumption)); (case hfz34 => exact rfl); (case hkez34 => exact rfl); (case hdz34 => ((try dsimp only [depth_deeper, Mine.top]); (first | exact Mine.rm2 (by assumption) rfl | exact Mine.rm_tree (by assumption) | exact Mine.rm_ord (by assumption) (Nat.succ_le_succ (Nat.le_add_right _ _)) | exact Mine.rm_ord (by assumption) (Nat.succ_le_succ (Nat.le_add_left _ _)) | exact Mine.rm_ord (by assumption) (Nat.le_refl _) | omega))); (case huz34 => ((try dsimp only [units_deeper, units_in1, Mine.top]); (first | exact Mine.rm2 (by assumption) rfl | exact Mine.rm_treeu (by assumption) | exact Mine.rm_ordu (by assumption) (Nat.succ_le_succ (Nat.le_add_right _ _)) | exact Mine.rm_ordu (by assumption) (Nat.succ_le_succ (Nat.le_add_left _ _)) | exact Mine.rm_ordu (by assumption) (Nat.le_refl _) | omega)))); intro _ _ _ _ _ _ Nqzz eqzz haqzz; (try dsimp only [Mine.dled] at Nqzz); (try (revert Nqzz eqzz haqzz; intro _ _ _)); (try k_sweep))
  k_with "call builtin:list.pop" => (k_here; k_dflt (refine' Mine.pop_any ?Fz35 ?Nz35 ?Uz35 ?pz35 ?zz35 ?_; (case Fz35 => k_asm); (case Nz35 => k_asm); (case Uz35 => k_dflt k_updF); (case pz35 => assumption); (case zz35 => omega)); intro _ _ _ Nqzz eqzz; (try dsimp only at Nqzz); (try (revert Nqzz eqzz; intro _ _)); (try k_sweep))
  refine' Mine.fs_plain (binds := [(Str.ofString "work", .ref V.W), (Str.ofString "order", v), (Str.ofString "hooks", .ref K.H)]) ?ho ?hcd ?hb ?hl ?h ?c2 ?c3 ?c4 ?c5
  case ho => (intro P; k_dflt k_is)
  case hcd => (intro P; k_dflt k_is)
  case hb => (intro s; exact BindsTo.of_eq rfl)
  case hl => exact locs rfl
  case c5 => decide
  case c2 => exact rfl
  case c3 => exact rfl
  case c4 => exact rfl
  case h =>
  intro dp un gd outer base g s p loose mean mg mb L' h' tk B' X' T' F' N' pre hd hu
  obtain ⟨hro, hpre⟩ := pre
  simp only [dled] at N'
  try dsimp only
  rcases hc with rfl | rfl
  · simp only [need] at hnd
    have hnd1 : 1 + 1 ≤ st.size := hnd
    cases hro
    (have ht := isTup_of (by assumption)); (with_reducible show wpAny _ _ _ _ _ _); k_fold; k_steps
    ((show Done _ _ _ _ _); exact ⟨_, _, _, (by k_asm), (by k_asm), ask_end (by assumption) (by first | assumption | exact Taken.refl | exact Taken.trans' (by assumption) (by assumption)) rfl (by assumption) (by assumption) rfl (by assumption) (by assumption) (by assumption), rfl⟩)
  · simp only [need] at hnd
    cases hro
    (have ht := isTup_of (by assumption)); (with_reducible show wpAny _ _ _ _ _ _); k_fold; k_steps
    ((show Done _ _ _ _ _); exact ⟨_, _, _, (by k_asm), (by k_asm), ask_end (by assumption) (by first | assumption | exact Taken.refl | exact Taken.trans' (by assumption) (by assumption)) rfl (by assumption) (by assumption) rfl (by assumption) (by assumption) (by assumption), rfl⟩)
set_option maxHeartbeats 40000000 in
theorem Mine.other_fs {w : World} (V : Wk) (K : Hk) (OK : K.Ok w) (S : Addr) (AP : Apart V K S) (o : O) (v : Value) (σ : M) (st gs as : Array Value) (ks kg ka : Nat) (hst : RSs st.toList σ.st) (hn : as.size = σ.n) (hnd : need o ≤ st.size) (hsz : st.size < 90000) (hsa : as.size < 90000) (hsg : gs.size < 90000) (hun : o = .unguard → 0 < gs.size)
    (hc : o = .unguard ∨ o = .drop ∨ o = .fail) : FS w 289 4 [.ref V.W, v, .ref K.H] (fun g => RO (inH g) v o ∧ K.pre g) (dled w V K S st gs as ks kg ka) (DoPost w V K o σ gs) := by
  w_top off
  k_with_none
  k_with "callWith ref" => (k_here; k_dflt (first | (refine' callWith_K ?k1z1 ?k2z1 ?_; (case k1z1 => k_asm); (case k2z1 => k_is); k_whole) | (refine' callWith_K0 ?k1z1 ?k2z1 ?_; (case k1z1 => k_in); (case k2z1 => k_is); k_whole)))
  k_with "binaryOp Add ref ref" => (k_here; with_reducible refine' Mine.add_mem ?Fz2 ?Nz2 ?az2 ?bz2 ?zz2 ?_; (case Fz2 => k_asm); (case Nz2 => k_asm); (case az2 => k_dflt k_mem); (case bz2 => k_dflt k_mem); (case zz2 => ((try dsimp only [Mine.T.size] at *); (try simp only [Array.size_append, List.size_toArray, List.length_cons, List.length_nil]); omega)); intro _ _ _ _ l1zz; (try k_lt l1zz); (try (revert l1zz; intro _)); (try k_sweep))
  k_with "call builtin:len" => (k_here; with_reducible refine' Mine.len_mem ?Nz3 ?mz3 ?ez3 ?zz3 ?_; (case Nz3 => k_asm); (case mz3 => k_dflt k_mem); (case ez3 => first | with_reducible assumption | exact rfl); (case zz3 => ((try dsimp only [Mine.T.size] at *); (try simp only [Array.size_push]); omega)); intro _ _)
  k_with "call builtin:len" => (k_here; with_reducible refine' Mine.len_tupN ?Tz4 ?ez4 ?zz4 ?_; (case Tz4 => k_dflt is_tup); (case ez4 => first | with_reducible assumption | exact rfl); (case zz4 => first | (k_dflt decide) | ((try dsimp only [Mine.T.size] at *); omega)); intro _ _)
  k_with "call builtin:list.extend" => (k_here; with_reducible refine' Mine.ext_mem ?Fz5 ?Nz5 ?bz5 ?Uz5 ?zz5 ?_; (case Fz5 => k_asm); (case Nz5 => k_asm); (case bz5 => k_dflt k_mem); (case Uz5 => k_dflt k_updF); (case zz5 => ((try dsimp only [Mine.T.size] at *); (try simp only [Array.size_append, List.size_toArray, List.length_cons, List.length_nil]); omega)); intro _ _ _ Nqzz; (try dsimp only at Nqzz); (try (revert Nqzz; intro _)); (try k_sweep))
  k_with "call ref" => (k_here; (with_reducible show wpAny _ _ (PySem.call (Value.ref 296) _) _ _ _); k_dflt (refine' Mine.ord_call ?Iz6 ?Bz6 ?Fz6 ?Xz6 ?Nz6 ?Tz6 ?rz6 ?kz6 ?fz6 ?ez6 ?sz6 ?wz6 ?dz6 ?uz6 ?_; (case Iz6 => assumption); (case Bz6 => k_asm); (case Fz6 => k_asm); (case Xz6 => k_asm); (case Nz6 => k_asm); (case Tz6 => k_asm); (case rz6 => assumption); (case kz6 => first | exact fun _ _ e => e | exact Fr.keep (by assumption) | exact fun _ _ e => Fr.keep (by assumption) _ _ (Fr.keep (by assumption) _ _ e)); (case fz6 => exact rfl); (case ez6 => exact rfl); (case sz6 => ((try dsimp only [Mine.T.size] at *); omega)); (case wz6 => first | assumption | exact And.left (by assumption) | exact And.right (by assumption)); (case dz6 => ((try dsimp only [Mine.T.size] at *); (try dsimp only [depth_deeper, Mine.top]); (first | exact Mine.rm2 (by assumption) rfl | exact Mine.rm_tree (by assumption) | exact Mine.rm_ord (by assumption) (Nat.succ_le_succ (Nat.le_add_right _ _)) | exact Mine.rm_ord (by assumption) (Nat.succ_le_succ (Nat.le_add_left _ _)) | exact Mine.rm_ord (by assumption) (Nat.le_refl _) | omega))); (case uz6 => ((try dsimp only [Mine.T.size] at *); (try dsimp only [units_deeper, units_in1, Mine.top]); (first | exact Mine.rm2 (by assumption) rfl | exact Mine.rm_treeu (by assumption) | exact Mine.rm_ordu (by assumption) (Nat.succ_le_succ (Nat.le_add_right _ _)) | exact Mine.rm_ordu (by assumption) (Nat.succ_le_succ (Nat.le_add_left _ _)) | exact Mine.rm_ordu (by assumption) (Nat.le_refl _) | omega)))); intro _ _ _ _ _ _ _ _ _ _ _ _ _; (try k_sweep))
  k_with "call ref" => (k_here; (with_reducible show wpAny _ _ (PySem.call (Value.ref 303) _) _ _ _); k_dflt (refine' Mine.fs_call0 (mo := 2) ?Iz7 ?Bz7 ?Fz7 ?Xz7 ?Nz7 ?Tz7 ?rz7 ?kz7 ?fz7 ?ez7 ?dz7 ?uz7 ?_; (case Iz7 => assumption); (case Bz7 => k_asm); (case Fz7 => k_asm); (case Xz7 => k_asm); (case Nz7 => k_asm); (case Tz7 => k_asm); (case rz7 => assumption); (case kz7 => first | exact fun _ _ e => e | exact Fr.keep (by assumption) | exact fun _ _ e => Fr.keep (by assumption) _ _ (Fr.keep (by assumption) _ _ e)); (case fz7 => exact rfl); (case ez7 => exact rfl); (case dz7 => ((try dsimp only [Mine.T.size] at *); (try dsimp only [depth_deeper, Mine.top]); (first | exact Mine.rm2 (by assumption) rfl | exact Mine.rm_tree (by assumption) | exact Mine.rm_ord (by assumption) (Nat.succ_le_succ (Nat.le_add_right _ _)) | exact Mine.rm_ord (by assumption) (Nat.succ_le_succ (Nat.le_add_left _ _)) | exact Mine.rm_ord (by assumption) (Nat.le_refl _) | omega))); (case uz7 => ((try dsimp only [Mine.T.size] at *); (try dsimp only [units_deeper, units_in1, Mine.top]); (first | exact Mine.rm2 (by assumption) rfl | exact Mine.rm_treeu (by assumption) | exact Mine.rm_ordu (by assumption) (Nat.succ_le_succ (Nat.le_add_right _ _)) | exact Mine.rm_ordu (by assumption) (Nat.succ_le_succ (Nat.le_add_left _ _)) | exact Mine.rm_ordu (by assumption) (Nat.le_refl _) | omega)))); intro _ _ _ _ _ _ _ _ _ _ _ _ _; (try k_sweep))
  k_with "call ref" => (k_here; (with_reducible show wpAny _ _ (PySem.call (Value.ref 338) _) _ _ _); k_dflt (refine' Mine.fs_pure ?Iz8 ?Bz8 ?Fz8 ?Xz8 ?Nz8 ?Tz8 ?rz8 ?fz8 ?ez8 ?dz8 ?uz8 ?_; (case Iz8 => assumption); (case Bz8 => k_asm); (case Fz8 => k_asm); (case Xz8 => k_asm); (case Nz8 => k_asm); (case Tz8 => k_asm); (case rz8 => exact fun g' hk _ => Mine.RO.mono (by assumption) hk); (case fz8 => exact rfl); (case ez8 => exact rfl); (case dz8 => ((try dsimp only [depth_deeper, Mine.top]); (first | exact Mine.rm2 (by assumption) rfl | exact Mine.rm_tree (by assumption) | exact Mine.rm_ord (by assumption) (Nat.succ_le_succ (Nat.le_add_right _ _)) | exact Mine.rm_ord (by assumption) (Nat.succ_le_succ (Nat.le_add_left _ _)) | exact Mine.rm_ord (by assumption) (Nat.le_refl _) | omega))); (case uz8 => ((try dsimp only [units_deeper, units_in1, Mine.top]); (first | exact Mine.rm2 (by assumption) rfl | exact Mine.rm_treeu (by assumption) | exact Mine.rm_ordu (by assumption) (Nat.succ_le_succ (Nat.le_add_right _ _)) | exact Mine.rm_ordu (by assumption) (Nat.succ_le_succ (Nat.le_add_left _ _)) | exact Mine.rm_ordu (by assumption) (Nat.le_refl _) | omega)))); intro _ _ _ _ _ eqzz; (obtain ⟨tqzz, eqzz⟩ := eqzz; subst eqzz); (try (revert tqzz; intro _)); (try k_sweep))
  k_with "call builtin:isinstance" => (k_here; with_reducible refine' Mine.isi_tup ?Tz9 ?_; (case Tz9 => k_dflt is_tup); intro _)
  k_with "execs cons" => (k_here; first | (with_reducible refine' Mine.skip_if0 ?Fz10 ?vz10 ?bz10 ?_ ?x1z10 ?x2z10 ?x3z10; (case Fz10 => k_asm); (case vz10 => k_dflt exact rfl); (case bz10 => k_dflt decide); (case x1z10 => k_dflt exact rfl); (case x2z10 => k_dflt exact rfl); (case x3z10 => k_dflt decide); intro _) | (with_reducible refine' Mine.skip_or0 ?Fz10 ?vz10 ?bz10 ?b2z10 ?_ ?x1z10 ?x2z10 ?x3z10; (case Fz10 => k_asm); (case vz10 => k_dflt exact rfl); (case bz10 => k_dflt decide); (case b2z10 => k_dflt decide); (case x1z10 => k_dflt exact rfl); (case x2z10 => k_dflt exact rfl); (case x3z10 => k_dflt decide); intro _) | (with_reducible refine' Mine.take_if0 ?Fz10 ?vz10 ?bz10 ?_ ?x1z10 ?x2z10 ?x3z10; (case Fz10 => k_asm); (case vz10 => k_dflt exact rfl); (case bz10 => k_dflt decide); (case x1z10 => k_dflt exact rfl); (case x2z10 => k_dflt exact rfl); (case x3z10 => k_dflt decide); intro _))
  k_with "execs cons" => (k_here; first | (with_reducible refine' Mine.skip_in0 ?Fz11 ?Nz11 ?vz11 ?sz11 ?nz11 ?bz11 ?mz11 ?_ ?x1z11 ?x2z11 ?x3z11; (case Fz11 => k_asm); (case Nz11 => k_asm); (case vz11 => k_dflt exact rfl); (case sz11 => k_dflt exact rfl); (case nz11 => k_dflt decide); (case bz11 => k_dflt decide); (case mz11 => k_dflt exact rfl); (case x1z11 => k_dflt exact rfl); (case x2z11 => k_dflt exact rfl); (case x3z11 => k_dflt decide); intro _ _ _ _; (try k_sweep)) | (with_reducible refine' Mine.take_in0 ?Fz11 ?Nz11 ?vz11 ?sz11 ?nz11 ?bz11 ?mz11 ?_ ?x1z11 ?x2z11 ?x3z11; (case Fz11 => k_asm); (case Nz11 => k_asm); (case vz11 => k_dflt exact rfl); (case sz11 => k_dflt exact rfl); (case nz11 => k_dflt decide); (case bz11 => k_dflt decide); (case mz11 => k_dflt exact rfl); (case x1z11 => k_dflt exact rfl); (case x2z11 => k_dflt exact rfl); (case x3z11 => k_dflt decide); intro _ _ _ _; (try k_sweep)))
  k_with "eval Subscript Name Constant" => (k_here; with_reducible refine' Mine.item_tup0 ?Fz12 ?vz12 ?tz12 ?loz12 ?hiz12 ?jz12 ?uz12 ?_ ?x1z12 ?x2z12 ?x3z12; (case Fz12 => k_asm); (case vz12 => k_dflt exact rfl); (case tz12 => k_dflt is_tup); (case loz12 => k_dflt decide); (case hiz12 => k_dflt decide); (case jz12 => k_dflt exact rfl); (case uz12 => k_dflt exact rfl); (case x1z12 => k_dflt exact rfl); (case x2z12 => k_dflt exact rfl); (case x3z12 => k_dflt decide); intro _)
  k_with "call ref" => (k_here; (with_reducible show wpAny _ _ (PySem.call (Value.ref 86) _) _ _ _); k_dflt (refine' Mine.d_push ?APz23 ?hvz23 ?hszz23 ?Bz23 ?Fz23 ?Xz23 ?Nz23 ?Tz23 ?hmz23 ?hfz23 ?hkez23 ?hdz23 ?huz23 ?_; (case APz23 => assumption); (case Bz23 => k_asm); (case Fz23 => k_asm); (case Xz23 => k_asm); (case Nz23 => k_asm); (case Tz23 => k_asm); (case hmz23 => first | exact fun _ h => h | exact fun _ h => .tail _ h | exact fun _ h => .tail _ (.tail _ h)); (case hvz23 => first | exact Mine.ans_ok (by assumption) | exact .inr ⟨_, by assumption⟩); (case hszz23 => first | assumption | exact Mine.Taken.lt (by assumption) (by assumption) | exact Mine.Taken.lt (by assumption) (Mine.Taken.lt (by assumption) (by assumption))); (case hfz23 => exact rfl); (case hkez23 => exact rfl); (case hdz23 => ((try dsimp only [depth_deeper, Mine.top]); (first | exact Mine.rm2 (by assumption) rfl | exact Mine.rm_tree (by assumption) | exact Mine.rm_ord (by assumption) (Nat.succ_le_succ (Nat.le_add_right _ _)) | exact Mine.rm_ord (by assumption) (Nat.succ_le_succ (Nat.le_add_left _ _)) | exact Mine.rm_ord (by assumption) (Nat.le_refl _) | omega))); (case huz23 => ((try dsimp only [units_deeper, units_in1, Mine.top]); (first | exact Mine.rm2 (by assumption) rfl | exact Mine.rm_treeu (by assumption) | exact Mine.rm_ordu (by assumption) (Nat.succ_le_succ (Nat.le_add_right _ _)) | exact Mine.rm_ordu (by assumption) (Nat.succ_le_succ (Nat.le_add_left _ _)) | exact Mine.rm_ordu (by assumption) (Nat.le_refl _) | omega)))); intro _ _ _ _ _ _ Nqzz hpqzz; (try dsimp only [Mine.dled] at Nqzz); (try (revert Nqzz hpqzz; intro _ _)); (try k_sweep))
  k_with "call ref" => (k_here; (with_reducible show wpAny _ _ (PySem.call (Value.ref 93) _) _ _ _); k_dflt (refine' Mine.d_pop ?APz24 ?hposz24 ?hszz24 ?Bz24 ?Fz24 ?Xz24 ?Nz24 ?Tz24 ?hmz24 ?hfz24 ?hkez24 ?hdz24 ?huz24 ?_; (case APz24 => assumption); (case Bz24 => k_asm); (case Fz24 => k_asm); (case Xz24 => k_asm); (case Nz24 => k_asm); (case Tz24 => k_asm); (case hmz24 => first | exact fun _ h => h | exact fun _ h => .tail _ h | exact fun _ h => .tail _ (.tail _ h)); (case hposz24 => first | assumption | omega | exact Mine.Taken.pos (by assumption) (by assumption)); (case hszz24 => first | assumption | exact Mine.Taken.lt (by assumption) (by assumption) | exact Mine.Taken.lt (by assumption) (Mine.Taken.lt (by assumption) (by assumption))); (case hfz24 => exact rfl); (case hkez24 => exact rfl); (case hdz24 => ((try dsimp only [depth_deeper, Mine.top]); (first | exact Mine.rm2 (by assumption) rfl | exact Mine.rm_tree (by assumption) | exact Mine.rm_ord (by assumption) (Nat.succ_le_succ (Nat.le_add_right _ _)) | exact Mine.rm_ord (by assumption) (Nat.succ_le_succ (Nat.le_add_left _ _)) | exact Mine.rm_ord (by assumption) (Nat.le_refl _) | omega))); (case huz24 => ((try dsimp only [units_deeper, units_in1, Mine.top]); (first | exact Mine.rm2 (by assumption) rfl | exact Mine.rm_treeu (by assumption) | exact Mine.rm_ordu (by assumption) (Nat.succ_le_succ (Nat.le_add_right _ _)) | exact Mine.rm_ordu (by assumption) (Nat.succ_le_succ (Nat.le_add_left _ _)) | exact Mine.rm_ordu (by assumption) (Nat.le_refl _) | omega)))); intro _ _ _ _ _ _ Nqzz htqzz; (try dsimp only [Mine.dled] at Nqzz); (try (revert Nqzz htqzz; intro _ _)); (try k_sweep))
  k_with "call ref" => (k_here; (with_reducible show wpAny _ _ (PySem.call (Value.ref 100) _) _ _ _); k_dflt (refine' Mine.d_take ?APz25 ?hkz25 ?hszz25 ?Bz25 ?Fz25 ?Xz25 ?Nz25 ?Tz25 ?hmz25 ?hfz25 ?hkez25 ?hdz25 ?huz25 ?_; (case APz25 => assumption); (case Bz25 => k_asm); (case Fz25 => k_asm); (case Xz25 => k_asm); (case Nz25 => k_asm); (case Tz25 => k_asm); (case hmz25 => first | exact fun _ h => h | exact fun _ h => .tail _ h | exact fun _ h => .tail _ (.tail _ h)); (case hkz25 => first | assumption | omega); (case hszz25 => first | assumption | exact Mine.Taken.lt (by assumption) (by assumption) | exact Mine.Taken.lt (by assumption) (Mine.Taken.lt (by assumption) (by assumption))); (case hfz25 => exact rfl); (case hkez25 => exact rfl); (case hdz25 => ((try dsimp only [depth_deeper, Mine.top]); (first | exact Mine.rm2 (by assumption) rfl | exact Mine.rm_tree (by assumption) | exact Mine.rm_ord (by assumption) (Nat.succ_le_succ (Nat.le_add_right _ _)) | exact Mine.rm_ord (by assumption) (Nat.succ_le_succ (Nat.le_add_left _ _)) | exact Mine.rm_ord (by assumption) (Nat.le_refl _) | omega))); (case huz25 => ((try dsimp only [units_deeper, units_in1, Mine.top]); (first | exact Mine.rm2 (by assumption) rfl | exact Mine.rm_treeu (by assumption) | exact Mine.rm_ordu (by assumption) (Nat.succ_le_succ (Nat.le_add_right _ _)) | exact Mine.rm_ordu (by assumption) (Nat.succ_le_succ (Nat.le_add_left _ _)) | exact Mine.rm_ordu (by assumption) (Nat.le_refl _) | omega)))); intro _ _ _ _ _ _ _ Nqzz Aqzz htqzz; (try dsimp only [Mine.dled] at Nqzz); (try (revert Nqzz Aqzz htqzz; intro _ _ _)); (try k_sweep))
  k_with "call ref" => (k_here; (with_reducible show wpAny _ _ (PySem.call (Value.ref 135) _) _ _ _); k_dflt (refine' Mine.d_hook (dep := 3) ?Cz26 ?hprez26 ?hkz26 ?APz26 ?Bz26 ?Fz26 ?Xz26 ?Nz26 ?Tz26 ?hmz26 ?hfz26 ?hkez26 ?hdz26 ?huz26 ?_; (case APz26 => assumption); (case Bz26 => k_asm); (case Fz26 => k_asm); (case Xz26 => k_asm); (case Nz26 => k_asm); (case Tz26 => k_asm); (case hmz26 => first | exact fun _ h => h | exact fun _ h => .tail _ h | exact fun _ h => .tail _ (.tail _ h)); (case Cz26 => exact Mine.var_value_fs _ (by assumption) _ _ _ (by assumption)); (case hprez26 => assumption); (case hkz26 => first | exact fun _ _ e => e | exact Fr.keep (by assumption) | exact Below.stays (by assumption)); (case hfz26 => exact rfl); (case hkez26 => exact rfl); (case hdz26 => ((try dsimp only [depth_deeper, Mine.top]); (first | exact Mine.rm2 (by assumption) rfl | exact Mine.rm_tree (by assumption) | exact Mine.rm_ord (by assumption) (Nat.succ_le_succ (Nat.le_add_right _ _)) | exact Mine.rm_ord (by assumption) (Nat.succ_le_succ (Nat.le_add_left _ _)) | exact Mine.rm_ord (by assumption) (Nat.le_refl _) | omega))); (case huz26 => ((try dsimp only [units_deeper, units_in1, Mine.top]); (first | exact Mine.rm2 (by assumption) rfl | exact Mine.rm_treeu (by assumption) | exact Mine.rm_ordu (by assumption) (Nat.succ_le_succ (Nat.le_add_right _ _)) | exact Mine.rm_ordu (by assumption) (Nat.succ_le_succ (Nat.le_add_left _ _)) | exact Mine.rm_ordu (by assumption) (Nat.le_refl _) | omega)))); intro _ _ _ _ _ _ Nqzz eqzz haqzz; (try dsimp only [Mine.dled] at Nqzz); (try (revert Nqzz eqzz haqzz; intro _ _ _)); (try k_sweep))
  k_with "call ref" => (k_here; (with_reducible show wpAny _ _ (PySem.call (Value.ref 142) _) _ _ _); k_dflt (refine' Mine.d_hook (dep := 3) ?Cz27 ?hprez27 ?hkz27 ?APz27 ?Bz27 ?Fz27 ?Xz27 ?Nz27 ?Tz27 ?hmz27 ?hfz27 ?hkez27 ?hdz27 ?huz27 ?_; (case APz27 => assumption); (case Bz27 => k_asm); (case Fz27 => k_asm); (case Xz27 => k_asm); (case Nz27 => k_asm); (case Tz27 => k_asm); (case hmz27 => first | exact fun _ h => h | exact fun _ h => .tail _ h | exact fun _ h => .tail _ (.tail _ h)); (case Cz27 => exact Mine.name_of_fs _ (by assumption) _ _ _ _ (by assumption)); (case hprez27 => assumption); (case hkz27 => first | exact fun _ _ e => e | exact Fr.keep (by assumption) | exact Below.stays (by assumption)); (case hfz27 => exact rfl); (case hkez27 => exact rfl); (case hdz27 => ((try dsimp only [depth_deeper, Mine.top]); (first | exact Mine.rm2 (by assumption) rfl | exact Mine.rm_tree (by assumption) | exact Mine.rm_ord (by assumption) (Nat.succ_le_succ (Nat.le_add_right _ _)) | exact Mine.rm_ord (by assumption) (Nat.succ_le_succ (Nat.le_add_left _ _)) | exact Mine.rm_ord (by assumption) (Nat.le_refl _) | omega))); (case huz27 => ((try dsimp only [units_deeper, units_in1, Mine.top]); (first | exact Mine.rm2 (by assumption) rfl | exact Mine.rm_treeu (by assumption) | exact Mine.rm_ordu (by assumption) (Nat.succ_le_succ (Nat.le_add_right _ _)) | exact Mine.rm_ordu (by assumption) (Nat.succ_le_succ (Nat.le_add_left _ _)) | exact Mine.rm_ordu (by assumption) (Nat.le_refl _) | omega)))); intro _ _ _ _ _ _ Nqzz eqzz haqzz; (try dsimp only [Mine.dled] at Nqzz); (try (revert Nqzz eqzz haqzz; intro _ _ _)); (try k_sweep))
  k_with "call ref" => (k_here; (with_reducible show wpAny _ _ (PySem.call (Value.ref 149) _) _ _ _); k_dflt (refine' Mine.d_hook (dep := 3) ?Cz28 ?hprez28 ?hkz28 ?APz28 ?Bz28 ?Fz28 ?Xz28 ?Nz28 ?Tz28 ?hmz28 ?hfz28 ?hkez28 ?hdz28 ?huz28 ?_; (case APz28 => assumption); (case Bz28 => k_asm); (case Fz28 => k_asm); (case Xz28 => k_asm); (case Nz28 => k_asm); (case Tz28 => k_asm); (case hmz28 => first | exact fun _ h => h | exact fun _ h => .tail _ h | exact fun _ h => .tail _ (.tail _ h)); (case Cz28 => exact Mine.named_by_fs _ (by assumption) _ _ _ (by assumption)); (case hprez28 => assumption); (case hkz28 => first | exact fun _ _ e => e | exact Fr.keep (by assumption) | exact Below.stays (by assumption)); (case hfz28 => exact rfl); (case hkez28 => exact rfl); (case hdz28 => ((try dsimp only [depth_deeper, Mine.top]); (first | exact Mine.rm2 (by assumption) rfl | exact Mine.rm_tree (by assumption) | exact Mine.rm_ord (by assumption) (Nat.succ_le_succ (Nat.le_add_right _ _)) | exact Mine.rm_ord (by assumption) (Nat.succ_le_succ (Nat.le_add_left _ _)) | exact Mine.rm_ord (by assumption) (Nat.le_refl _) | omega))); (case huz28 => ((try dsimp only [units_deeper, units_in1, Mine.top]); (first | exact Mine.rm2 (by assumption) rfl | exact Mine.rm_treeu (by assumption) | exact Mine.rm_ordu (by assumption) (Nat.succ_le_succ (Nat.le_add_right _ _)) | exact Mine.rm_ordu (by assumption) (Nat.succ_le_succ (Nat.le_add_left _ _)) | exact Mine.rm_ordu (by assumption) (Nat.le_refl _) | omega)))); intro _ _ _ _ _ _ Nqzz eqzz haqzz; (try dsimp only [Mine.dled] at Nqzz); (try (revert Nqzz eqzz haqzz; intro _ _ _)); (try k_sweep))
  k_with "call ref" => (k_here; (with_reducible show wpAny _ _ (PySem.call (Value.ref 156) _) _ _ _); k_dflt (refine' Mine.d_hook (dep := 3) ?Cz29 ?hprez29 ?hkz29 ?APz29 ?Bz29 ?Fz29 ?Xz29 ?Nz29 ?Tz29 ?hmz29 ?hfz29 ?hkez29 ?hdz29 ?huz29 ?_; (case APz29 => assumption); (case Bz29 => k_asm); (case Fz29 => k_asm); (case Xz29 => k_asm); (case Nz29 => k_asm); (case Tz29 => k_asm); (case hmz29 => first | exact fun _ h => h | exact fun _ h => .tail _ h | exact fun _ h => .tail _ (.tail _ h)); (case Cz29 => exact Mine.ref_value_fs _ (by assumption) _ _ _ (by assumption)); (case hprez29 => assumption); (case hkz29 => first | exact fun _ _ e => e | exact Fr.keep (by assumption) | exact Below.stays (by assumption)); (case hfz29 => exact rfl); (case hkez29 => exact rfl); (case hdz29 => ((try dsimp only [depth_deeper, Mine.top]); (first | exact Mine.rm2 (by assumption) rfl | exact Mine.rm_tree (by assumption) | exact Mine.rm_ord (by assumption) (Nat.succ_le_succ (Nat.le_add_right _ _)) | exact Mine.rm_ord (by assumption) (Nat.succ_le_succ (Nat.le_add_left _ _)) | exact Mine.rm_ord (by assumption) (Nat.le_refl _) | omega))); (case huz29 => ((try dsimp only [units_deeper, units_in1, Mine.top]); (first | exact Mine.rm2 (by assumption) rfl | exact Mine.rm_treeu (by assumption) | exact Mine.rm_ordu (by assumption) (Nat.succ_le_succ (Nat.le_add_right _ _)) | exact Mine.rm_ordu (by assumption) (Nat.succ_le_succ (Nat.le_add_left _ _)) | exact Mine.rm_ordu (by assumption) (Nat.le_refl _) | omega)))); intro _ _ _ _ _ _ Nqzz eqzz haqzz; (try dsimp only [Mine.dled] at Nqzz); (try (revert Nqzz eqzz haqzz; intro _ _ _)); (try k_sweep))
  k_with "call ref" => (k_here; (with_reducible show wpAny _ _ (PySem.call (Value.ref 163) _) _ _ _); k_dflt (refine' Mine.d_hook (dep := 3) ?Cz30 ?hprez30 ?hkz30 ?APz30 ?Bz30 ?Fz30 ?Xz30 ?Nz30 ?Tz30 ?hmz30 ?hfz30 ?hkez30 ?hdz30 ?huz30 ?_; (case APz30 => assumption); (case Bz30 => k_asm); (case Fz30 => k_asm); (case Xz30 => k_asm); (case Nz30 => k_asm); (case Tz30 => k_asm); (case hmz30 => first | exact fun _ h => h | exact fun _ h => .tail _ h | exact fun _ h => .tail _ (.tail _ h)); (case Cz30 => exact Mine.called_fs _ (by assumption) _ _ _ _ _ (by assumption)); (case hprez30 => assumption); (case hkz30 => first | exact fun _ _ e => e | exact Fr.keep (by assumption) | exact Below.stays (by assumption)); (case hfz30 => exact rfl); (case hkez30 => exact rfl); (case hdz30 => ((try dsimp only [depth_deeper, Mine.top]); (first | exact Mine.rm2 (by assumption) rfl | exact Mine.rm_tree (by assumption) | exact Mine.rm_ord (by assumption) (Nat.succ_le_succ (Nat.le_add_right _ _)) | exact Mine.rm_ord (by assumption) (Nat.succ_le_succ (Nat.le_add_left _ _)) | exact Mine.rm_ord (by assumption) (Nat.le_refl _) | omega))); (case huz30 => ((try dsimp only [units_deeper, units_in1, Mine.top]); (first | exact Mine.rm2 (by assumption) rfl | exact Mine.rm_treeu (by assumption) | exact Mine.rm_ordu (by assumption) (Nat.succ_le_succ (Nat.le_add_right _ _)) | exact Mine.rm_ordu (by assumption) (Nat.succ_le_succ (Nat.le_add_left _ _)) | exact Mine.rm_ordu (by assumption) (Nat.le_refl _) | omega)))); intro _ _ _ _ _ _ Nqzz eqzz haqzz; (try dsimp only [Mine.dled] at Nqzz); (try (revert Nqzz eqzz haqzz; intro _ _ _)); (try k_sweep))
  k_with "call ref" => (k_here; (with_reducible show wpAny _ _ (PySem.call (Value.ref 170) _) _ _ _); k_dflt (refine' Mine.d_hook (dep := 3) ?Cz31 ?hprez31 ?hkz31 ?APz31 ?Bz31 ?Fz31 ?Xz31 ?Nz31 ?Tz31 ?hmz31 ?hfz31 ?hkez31 ?hdz31 ?huz31 ?_; (case APz31 => assumption); (case Bz31 => k_asm); (case Fz31 => k_asm); (case Xz31 => k_asm); (case Nz31 => k_asm); (case Tz31 => k_asm); (case hmz31 => first | exact fun _ h => h | exact fun _ h => .tail _ h | exact fun _ h => .tail _ (.tail _ h)); (case Cz31 => exact Mine.item_of_fs _ (by assumption) _ _ _ _ _ (by assumption)); (case hprez31 => assumption); (case hkz31 => first | exact fun _ _ e => e | exact Fr.keep (by assumption) | exact Below.stays (by assumption)); (case hfz31 => exact rfl); (case hkez31 => exact rfl); (case hdz31 => ((try dsimp only [depth_deeper, Mine.top]); (first | exact Mine.rm2 (by assumption) rfl | exact Mine.rm_tree (by assumption) | exact Mine.rm_ord (by assumption) (Nat.succ_le_succ (Nat.le_add_right _ _)) | exact Mine.rm_ord (by assumption) (Nat.succ_le_succ (Nat.le_add_left _ _)) | exact Mine.rm_ord (by assumption) (Nat.le_refl _) | omega))); (case huz31 => ((try dsimp only [units_deeper, units_in1, Mine.top]); (first | exact Mine.rm2 (by assumption) rfl | exact Mine.rm_treeu (by assumption) | exact Mine.rm_ordu (by assumption) (Nat.succ_le_succ (Nat.le_add_right _ _)) | exact Mine.rm_ordu (by assumption) (Nat.succ_le_succ (Nat.le_add_left _ _)) | exact Mine.rm_ordu (by assumption) (Nat.le_refl _) | omega)))); intro _ _ _ _ _ _ Nqzz eqzz haqzz; (try dsimp only [Mine.dled] at Nqzz); (try (revert Nqzz eqzz haqzz; intro _ _ _)); (try k_sweep))
  k_with "call ref" => (k_here; (with_reducible show wpAny _ _ (PySem.call (Value.ref 177) _) _ _ _); k_dflt (refine' Mine.d_hook (dep := 3) ?Cz32 ?hprez32 ?hkz32 ?APz32 ?Bz32 ?Fz32 ?Xz32 ?Nz32 ?Tz32 ?hmz32 ?hfz32 ?hkez32 ?hdz32 ?huz32 ?_; (case APz32 => assumption); (case Bz32 => k_asm); (case Fz32 => k_asm); (case Xz32 => k_asm); (case Nz32 => k_asm); (case Tz32 => k_asm); (case hmz32 => first | exact fun _ h => h | exact fun _ h => .tail _ h | exact fun _ h => .tail _ (.tail _ h)); (case Cz32 => exact Mine.operated_fs _ (by assumption) _ _ _ _ (by assumption)); (case hprez32 => assumption); (case hkz32 => first | exact fun _ _ e => e | exact Fr.keep (by assumption) | exact Below.stays (by assumption)); (case hfz32 => exact rfl); (case hkez32 => exact rfl); (case hdz32 => ((try dsimp only [depth_deeper, Mine.top]); (first | exact Mine.rm2 (by assumption) rfl | exact Mine.rm_tree (by assumption) | exact Mine.rm_ord (by assumption) (Nat.succ_le_succ (Nat.le_add_right _ _)) | exact Mine.rm_ord (by assumption) (Nat.succ_le_succ (Nat.le_add_left _ _)) | exact Mine.rm_ord (by assumption) (Nat.le_refl _) | omega))); (case huz32 => ((try dsimp only [units_deeper, units_in1, Mine.top]); (first | exact Mine.rm2 (by assumption) rfl | exact Mine.rm_treeu (by assumption) | exact Mine.rm_ordu (by assumption) (Nat.succ_le_succ (Nat.le_add_right _ _)) | exact Mine.rm_ordu (by assumption) (Nat.succ_le_succ (Nat.le_add_left _ _)) | exact Mine.rm_ordu (by assumption) (Nat.le_refl _) | omega)))); intro _ _ _ _ _ _ Nqzz eqzz haqzz; (try dsimp only [Mine.dled] at Nqzz); (try (revert Nqzz eqzz haqzz; intro _ _ _)); (try k_sweep))
  k_with "call ref" => (k_here; (with_reducible show wpAny _ _ (PySem.call (Value.ref 191) _) _ _ _); k_dflt (refine' Mine.d_hook (dep := 3) ?Cz33 ?hprez33 ?hkz33 ?APz33 ?Bz33 ?Fz33 ?Xz33 ?Nz33 ?Tz33 ?hmz33 ?hfz33 ?hkez33 ?hdz33 ?huz33 ?_; (case APz33 => assumption); (case Bz33 => k_asm); (case Fz33 => k_asm); (case Xz33 => k_asm); (case Nz33 => k_asm); (case Tz33 => k_asm); (case hmz33 => first | exact fun _ h => h | exact fun _ h => .tail _ h | exact fun _ h => .tail _ (.tail _ h)); (case Cz33 => exact Mine.given_part_fs _ (by assumption) _ _ _ _ _ (by assumption)); (case hprez33 => assumption); (case hkz33 => first | exact fun _ _ e => e | exact Fr.keep (by assumption) | exact Below.stays (by assumption)); (case hfz33 => exact rfl); (case hkez33 => exact rfl); (case hdz33 => ((try dsimp only [depth_deeper, Mine.top]); (first | exact Mine.rm2 (by assumption) rfl | exact Mine.rm_tree (by assumption) | exact Mine.rm_ord (by assumption) (Nat.succ_le_succ (Nat.le_add_right _ _)) | exact Mine.rm_ord (by assumption) (Nat.succ_le_succ (Nat.le_add_left _ _)) | exact Mine.rm_ord (by assumption) (Nat.le_refl _) | omega))); (case huz33 => ((try dsimp only [units_deeper, units_in1, Mine.top]); (first | exact Mine.rm2 (by assumption) rfl | exact Mine.rm_treeu (by assumption) | exact Mine.rm_ordu (by assumption) (Nat.succ_le_succ (Nat.le_add_right _ _)) | exact Mine.rm_ordu (by assumption) (Nat.succ_le_succ (Nat.le_add_left _ _)) | exact Mine.rm_ordu (by assumption) (Nat.le_refl _) | omega)))); intro _ _ _ _ _ _ Nqzz eqzz haqzz; (try dsimp only [Mine.dled] at Nqzz); (try (revert Nqzz eqzz haqzz; intro _ _ _)); (try k_sweep))
  k_with "call ref" => (k_here; (with_reducible show wpAny _ _ (PySem.call (Value.ref 198) _) _ _ _); k_dflt (refine' Mine.d_hook (dep := 3) ?Cz34 ?hprez34 ?hkz34 ?APz34 ?Bz34 ?Fz34 ?Xz34 ?Nz34 ?Tz34 ?hmz34 ?hfz34 ?hkez34 ?hdz34 ?huz34 ?_; (case APz34 => assumption); (case Bz34 => k_asm); (case Fz34 => k_asm); (case Xz34 => k_asm); (case Nz34 => k_asm); (case Tz34 => k_asm); (case hmz34 => first | exact fun _ h => h | exact fun _ h => .tail _ h | exact fun _ h => .tail _ (.tail _ h)); (case Cz34 => exact Mine.cursor_fs _ (by assumption) _ _ _ (by assumption)); (case hprez34 => assumption); (case hkz34 => first | exact fun _ _ e => e | exact Fr.keep (by assumption) | exact Below.stays (by assumption)); (case hfz34 => exact rfl); (case hkez34 => exact rfl); (case hdz34 => ((try dsimp only [depth_deeper, Mine.top]); (first | exact Mine.rm2 (by assumption) rfl | exact Mine.rm_tree (by assumption) | exact Mine.rm_ord (by assumption) (Nat.succ_le_succ (Nat.le_add_right _ _)) | exact Mine.rm_ord (by assumption) (Nat.succ_le_succ (Nat.le_add_left _ _)) | exact Mine.rm_ord (by assumption) (Nat.le_refl _) | omega))); (case huz34 => ((try dsimp only [units_deeper, units_in1, Mine.top]); (first | exact Mine.rm2 (by assumption) rfl | exact Mine.rm_treeu (by assumption) | exact Mine.rm_ordu (by assumption) (Nat.succ_le_succ (Nat.le_add_right _ _)) | exact Mine.rm_ordu (by assumption) (Nat.succ_le_succ (Nat.le_add_left _ _)) | exact Mine.rm_ordu (by assumption) (Nat.le_refl _) | omega)))); intro _ _ _ _ _ _ Nqzz eqzz haqzz; (try dsimp only [Mine.dled] at Nqzz); (try (revert Nqzz eqzz haqzz; intro _ _ _)); (try k_sweep))
  k_with "call builtin:list.pop" => (k_here; k_dflt (refine' Mine.pop_any ?Fz35 ?Nz35 ?Uz35 ?pz35 ?zz35 ?_; (case Fz35 => k_asm); (case Nz35 => k_asm); (case Uz35 => k_dflt k_updF); (case pz35 => assumption); (case zz35 => omega)); intro _ _ _ Nqzz eqzz; (try dsimp only at Nqzz); (try (revert Nqzz eqzz; intro _ _)); (try k_sweep))
  refine' Mine.fs_plain (binds := [(Str.ofString "work", .ref V.W), (Str.ofString "order", v), (Str.ofString "hooks", .ref K.H)]) ?ho ?hcd ?hb ?hl ?h ?c2 ?c3 ?c4 ?c5
  case ho => (intro P; k_dflt k_is)
  case hcd => (intro P; k_dflt k_is)
  case hb => (intro s; exact BindsTo.of_eq rfl)
  case hl => exact locs rfl
  case c5 => decide
  case c2 => exact rfl
  case c3 => exact rfl
  case c4 => exact rfl
  case h =>
  intro dp un gd outer base g s p loose mean mg mb L' h' tk B' X' T' F' N' pre hd hu
  obtain ⟨hro, hpre⟩ := pre
  simp only [dled] at N'
  try dsimp only
  rcases hc with rfl | rfl | rfl
  · have hp := hun rfl
    have a1 := AP.gw; have a2 := AP.gd; have a3 := AP.gs; have a4 := AP.hg; have a5 := AP.ig; have a6 := AP.ag
    cases hro
    (have ht := isTup_of (by assumption)); (with_reducible show wpAny _ _ _ _ _ _); k_fold; k_steps
    ((show Done _ _ _ _ _); exact ⟨_, _, _, (by k_asm), (by k_asm), unguard_end hst hn AP, rfl⟩)
  · simp only [need] at hnd
    cases hro
    (have ht := isTup_of (by assumption)); (with_reducible show wpAny _ _ _ _ _ _); k_fold; k_steps
    ((show Done _ _ _ _ _); exact ⟨_, _, _, (by k_asm), (by k_asm), drop_end hst hn (by assumption) AP, rfl⟩)
  · cases hro
    (have ht := isTup_of (by assumption)); (with_reducible show wpAny _ _ _ _ _ _); k_fold; k_steps
    ((show Done _ _ _ _ _); exact ⟨_, _, _, (by k_asm), (by k_asm), fail_end hst hn AP, rfl⟩)
set_option maxHeartbeats 40000000 in
theorem Mine.order_fs {w : World} (V : Wk) (K : Hk) (OK : K.Ok w) (S : Addr) (AP : Apart V K S) (o : O) (v : Value) (σ : M) (st gs as : Array Value) (ks kg ka : Nat) (hst : RSs st.toList σ.st) (hn : as.size = σ.n) (hnd : need o ≤ st.size) (hsz : st.size < 90000) (hsa : as.size < 90000) (hsg : gs.size < 90000) (hun : o = .unguard → 0 < gs.size)
    (hc : o.isGuard = false) : FS w 268 5 [.ref V.W, v, .ref K.H] (fun g => RO (inH g) v o ∧ K.pre g) (dled w V K S st gs as ks kg ka) (DoPost w V K o σ gs) := by
  w_top off
  k_with_none
  k_with "callWith ref" => (k_here; k_dflt (first | (refine' callWith_K ?k1z1 ?k2z1 ?_; (case k1z1 => k_asm); (case k2z1 => k_is); k_whole) | (refine' callWith_K0 ?k1z1 ?k2z1 ?_; (case k1z1 => k_in); (case k2z1 => k_is); k_whole)))
  k_with "binaryOp Add ref ref" => (k_here; with_reducible refine' Mine.add_mem ?Fz2 ?Nz2 ?az2 ?bz2 ?zz2 ?_; (case Fz2 => k_asm); (case Nz2 => k_asm); (case az2 => k_dflt k_mem); (case bz2 => k_dflt k_mem); (case zz2 => ((try dsimp only [Mine.T.size] at *); (try simp only [Array.size_append, List.size_toArray, List.length_cons, List.length_nil]); omega)); intro _ _ _ _ l1zz; (try k_lt l1zz); (try (revert l1zz; intro _)); (try k_sweep))
  k_with "call builtin:len" => (k_here; with_reducible refine' Mine.len_mem ?Nz3 ?mz3 ?ez3 ?zz3 ?_; (case Nz3 => k_asm); (case mz3 => k_dflt k_mem); (case ez3 => first | with_reducible assumption | exact rfl); (case zz3 => ((try dsimp only [Mine.T.size] at *); (try simp only [Array.size_push]); omega)); intro _ _)
  k_with "call builtin:len" => (k_here; with_reducible refine' Mine.len_tupN ?Tz4 ?ez4 ?zz4 ?_; (case Tz4 => k_dflt is_tup); (case ez4 => first | with_reducible assumption | exact rfl); (case zz4 => first | (k_dflt decide) | ((try dsimp only [Mine.T.size] at *); omega)); intro _ _)
  k_with "call builtin:list.extend" => (k_here; with_reducible refine' Mine.ext_mem ?Fz5 ?Nz5 ?bz5 ?Uz5 ?zz5 ?_; (case Fz5 => k_asm); (case Nz5 => k_asm); (case bz5 => k_dflt k_mem); (case Uz5 => k_dflt k_updF); (case zz5 => ((try dsimp only [Mine.T.size] at *); (try simp only [Array.size_append, List.size_toArray, List.length_cons, List.length_nil]); omega)); intro _ _ _ Nqzz; (try dsimp only at Nqzz); (try (revert Nqzz; intro _)); (try k_sweep))
  k_with "call ref" => (k_here; (with_reducible show wpAny _ _ (PySem.call (Value.ref 296) _) _ _ _); k_dflt (refine' Mine.ord_call ?Iz6 ?Bz6 ?Fz6 ?Xz6 ?Nz6 ?Tz6 ?rz6 ?kz6 ?fz6 ?ez6 ?sz6 ?wz6 ?dz6 ?uz6 ?_; (case Iz6 => assumption); (case Bz6 => k_asm); (case Fz6 => k_asm); (case Xz6 => k_asm); (case Nz6 => k_asm); (case Tz6 => k_asm); (case rz6 => assumption); (case kz6 => first | exact fun _ _ e => e | exact Fr.keep (by assumption) | exact fun _ _ e => Fr.keep (by assumption) _ _ (Fr.keep (by assumption) _ _ e)); (case fz6 => exact rfl); (case ez6 => exact rfl); (case sz6 => ((try dsimp only [Mine.T.size] at *); omega)); (case wz6 => first | assumption | exact And.left (by assumption) | exact And.right (by assumption)); (case dz6 => ((try dsimp only [Mine.T.size] at *); (try dsimp only [depth_deeper, Mine.top]); (first | exact Mine.rm2 (by assumption) rfl | exact Mine.rm_tree (by assumption) | exact Mine.rm_ord (by assumption) (Nat.succ_le_succ (Nat.le_add_right _ _)) | exact Mine.rm_ord (by assumption) (Nat.succ_le_succ (Nat.le_add_left _ _)) | exact Mine.rm_ord (by assumption) (Nat.le_refl _) | omega))); (case uz6 => ((try dsimp only [Mine.T.size] at *); (try dsimp only [units_deeper, units_in1, Mine.top]); (first | exact Mine.rm2 (by assumption) rfl | exact Mine.rm_treeu (by assumption) | exact Mine.rm_ordu (by assumption) (Nat.succ_le_succ (Nat.le_add_right _ _)) | exact Mine.rm_ordu (by assumption) (Nat.succ_le_succ (Nat.le_add_left _ _)) | exact Mine.rm_ordu (by assumption) (Nat.le_refl _) | omega)))); intro _ _ _ _ _ _ _ _ _ _ _ _ _; (try k_sweep))
  k_with "call ref" => (k_here; (with_reducible show wpAny _ _ (PySem.call (Value.ref 303) _) _ _ _); k_dflt (refine' Mine.fs_call0 (mo := 2) ?Iz7 ?Bz7 ?Fz7 ?Xz7 ?Nz7 ?Tz7 ?rz7 ?kz7 ?fz7 ?ez7 ?dz7 ?uz7 ?_; (case Iz7 => assumption); (case Bz7 => k_asm); (case Fz7 => k_asm); (case Xz7 => k_asm); (case Nz7 => k_asm); (case Tz7 => k_asm); (case rz7 => assumption); (case kz7 => first | exact fun _ _ e => e | exact Fr.keep (by assumption) | exact fun _ _ e => Fr.keep (by assumption) _ _ (Fr.keep (by assumption) _ _ e)); (case fz7 => exact rfl); (case ez7 => exact rfl); (case dz7 => ((try dsimp only [Mine.T.size] at *); (try dsimp only [depth_deeper, Mine.top]); (first | exact Mine.rm2 (by assumption) rfl | exact Mine.rm_tree (by assumption) | exact Mine.rm_ord (by assumption) (Nat.succ_le_succ (Nat.le_add_right _ _)) | exact Mine.rm_ord (by assumption) (Nat.succ_le_succ (Nat.le_add_left _ _)) | exact Mine.rm_ord (by assumption) (Nat.le_refl _) | omega))); (case uz7 => ((try dsimp only [Mine.T.size] at *); (try dsimp only [units_deeper, units_in1, Mine.top]); (first | exact Mine.rm2 (by assumption) rfl | exact Mine.rm_treeu (by assumption) | exact Mine.rm_ordu (by assumption) (Nat.succ_le_succ (Nat.le_add_right _ _)) | exact Mine.rm_ordu (by assumption) (Nat.succ_le_succ (Nat.le_add_left _ _)) | exact Mine.rm_ordu (by assumption) (Nat.le_refl _) | omega)))); intro _ _ _ _ _ _ _ _ _ _ _ _ _; (try k_sweep))
  k_with "call ref" => (k_here; (with_reducible show wpAny _ _ (PySem.call (Value.ref 338) _) _ _ _); k_dflt (refine' Mine.fs_pure ?Iz8 ?Bz8 ?Fz8 ?Xz8 ?Nz8 ?Tz8 ?rz8 ?fz8 ?ez8 ?dz8 ?uz8 ?_; (case Iz8 => assumption); (case Bz8 => k_asm); (case Fz8 => k_asm); (case Xz8 => k_asm); (case Nz8 => k_asm); (case Tz8 => k_asm); (case rz8 => exact fun g' hk _ => Mine.RO.mono (by assumption) hk); (case fz8 => exact rfl); (case ez8 => exact rfl); (case dz8 => ((try dsimp only [depth_deeper, Mine.top]); (first | exact Mine.rm2 (by assumption) rfl | exact Mine.rm_tree (by assumption) | exact Mine.rm_ord (by assumption) (Nat.succ_le_succ (Nat.le_add_right _ _)) | exact Mine.rm_ord (by assumption) (Nat.succ_le_succ (Nat.le_add_left _ _)) | exact Mine.rm_ord (by assumption) (Nat.le_refl _) | omega))); (case uz8 => ((try dsimp only [units_deeper, units_in1, Mine.top]); (first | exact Mine.rm2 (by assumption) rfl | exact Mine.rm_treeu (by assumption) | exact Mine.rm_ordu (by assumption) (Nat.succ_le_succ (Nat.le_add_right _ _)) | exact Mine.rm_ordu (by assumption) (Nat.succ_le_succ (Nat.le_add_left _ _)) | exact Mine.rm_ordu (by assumption) (Nat.le_refl _) | omega)))); intro _ _ _ _ _ eqzz; (obtain ⟨tqzz, eqzz⟩ := eqzz; subst eqzz); (try (revert tqzz; intro _)); (try k_sweep))
  k_with "call builtin:isinstance" => (k_here; with_reducible refine' Mine.isi_tup ?Tz9 ?_; (case Tz9 => k_dflt is_tup); intro _)
  k_with "execs cons" => (k_here; first | (with_reducible refine' Mine.skip_if0 ?Fz10 ?vz10 ?bz10 ?_ ?x1z10 ?x2z10 ?x3z10; (case Fz10 => k_asm); (case vz10 => k_dflt exact rfl); (case bz10 => k_dflt decide); (case x1z10 => k_dflt exact rfl); (case x2z10 => k_dflt exact rfl); (case x3z10 => k_dflt decide); intro _) | (with_reducible refine' Mine.skip_or0 ?Fz10 ?vz10 ?bz10 ?b2z10 ?_ ?x1z10 ?x2z10 ?x3z10; (case Fz10 => k_asm); (case vz10 => k_dflt exact rfl); (case bz10 => k_dflt decide); (case b2z10 => k_dflt decide); (case x1z10 => k_dflt exact rfl); (case x2z10 => k_dflt exact rfl); (case x3z10 => k_dflt decide); intro _) | (with_reducible refine' Mine.take_if0 ?Fz10 ?vz10 ?bz10 ?_ ?x1z10 ?x2z10 ?x3z10; (case Fz10 => k_asm); (case vz10 => k_dflt exact rfl); (case bz10 => k_dflt decide); (case x1z10 => k_dflt exact rfl); (case x2z10 => k_dflt exact rfl); (case x3z10 => k_dflt decide); intro _))
  k_with "execs cons" => (k_here; first | (with_reducible refine' Mine.skip_in0 ?Fz11 ?Nz11 ?vz11 ?sz11 ?nz11 ?bz11 ?mz11 ?_ ?x1z11 ?x2z11 ?x3z11; (case Fz11 => k_asm); (case Nz11 => k_asm); (case vz11 => k_dflt exact rfl); (case sz11 => k_dflt exact rfl); (case nz11 => k_dflt decide); (case bz11 => k_dflt decide); (case mz11 => k_dflt exact rfl); (case x1z11 => k_dflt exact rfl); (case x2z11 => k_dflt exact rfl); (case x3z11 => k_dflt decide); intro _ _ _ _; (try k_sweep)) | (with_reducible refine' Mine.take_in0 ?Fz11 ?Nz11 ?vz11 ?sz11 ?nz11 ?bz11 ?mz11 ?_ ?x1z11 ?x2z11 ?x3z11; (case Fz11 => k_asm); (case Nz11 => k_asm); (case vz11 => k_dflt exact rfl); (case sz11 => k_dflt exact rfl); (case nz11 => k_dflt decide); (case bz11 => k_dflt decide); (case mz11 => k_dflt exact rfl); (case x1z11 => k_dflt exact rfl); (case x2z11 => k_dflt exact rfl); (case x3z11 => k_dflt decide); intro _ _ _ _; (try k_sweep)))
  k_with "eval Subscript Name Constant" => (k_here; with_reducible refine' Mine.item_tup0 ?Fz12 ?vz12 ?tz12 ?loz12 ?hiz12 ?jz12 ?uz12 ?_ ?x1z12 ?x2z12 ?x3z12; (case Fz12 => k_asm); (case vz12 => k_dflt exact rfl); (case tz12 => k_dflt is_tup); (case loz12 => k_dflt decide); (case hiz12 => k_dflt decide); (case jz12 => k_dflt exact rfl); (case uz12 => k_dflt exact rfl); (case x1z12 => k_dflt exact rfl); (case x2z12 => k_dflt exact rfl); (case x3z12 => k_dflt decide); intro _)
  k_with "call ref" => (k_here; (with_reducible show wpAny _ _ (PySem.call (Value.ref 86) _) _ _ _); k_dflt (refine' Mine.d_push ?APz36 ?hvz36 ?hszz36 ?Bz36 ?Fz36 ?Xz36 ?Nz36 ?Tz36 ?hmz36 ?hfz36 ?hkez36 ?hdz36 ?huz36 ?_; (case APz36 => assumption); (case Bz36 => k_asm); (case Fz36 => k_asm); (case Xz36 => k_asm); (case Nz36 => k_asm); (case Tz36 => k_asm); (case hmz36 => first | exact fun _ h => h | exact fun _ h => .tail _ h | exact fun _ h => .tail _ (.tail _ h)); (case hvz36 => first | exact Mine.ans_ok (by assumption) | exact .inr ⟨_, by assumption⟩); (case hszz36 => first | assumption | exact Mine.Taken.lt (by assumption) (by assumption) | exact Mine.Taken.lt (by assumption) (Mine.Taken.lt (by assumption) (by assumption))); (case hfz36 => exact rfl); (case hkez36 => exact rfl); (case hdz36 => ((try dsimp only [depth_deeper, Mine.top]); (first | exact Mine.rm2 (by assumption) rfl | exact Mine.rm_tree (by assumption) | exact Mine.rm_ord (by assumption) (Nat.succ_le_succ (Nat.le_add_right _ _)) | exact Mine.rm_ord (by assumption) (Nat.succ_le_succ (Nat.le_add_left _ _)) | exact Mine.rm_ord (by assumption) (Nat.le_refl _) | omega))); (case huz36 => ((try dsimp only [units_deeper, units_in1, Mine.top]); (first | exact Mine.rm2 (by assumption) rfl | exact Mine.rm_treeu (by assumption) | exact Mine.rm_ordu (by assumption) (Nat.succ_le_succ (Nat.le_add_right _ _)) | exact Mine.rm_ordu (by assumption) (Nat.succ_le_succ (Nat.le_add_left _ _)) | exact Mine.rm_ordu (by assumption) (Nat.le_refl _) | omega)))); intro _ _ _ _ _ _ Nqzz hpqzz; (try dsimp only [Mine.dled] at Nqzz); (try (revert Nqzz hpqzz; intro _ _)); (try k_sweep))
  k_with "call ref" => (k_here; (with_reducible show wpAny _ _ (PySem.call (Value.ref 93) _) _ _ _); k_dflt (refine' Mine.d_pop ?APz37 ?hposz37 ?hszz37 ?Bz37 ?Fz37 ?Xz37 ?Nz37 ?Tz37 ?hmz37 ?hfz37 ?hkez37 ?hdz37 ?huz37 ?_; (case APz37 => assumption); (case Bz37 => k_asm); (case Fz37 => k_asm); (case Xz37 => k_asm); (case Nz37 => k_asm); (case Tz37 => k_asm); (case hmz37 => first | exact fun _ h => h | exact fun _ h => .tail _ h | exact fun _ h => .tail _ (.tail _ h)); (case hposz37 => first | assumption | omega | exact Mine.Taken.pos (by assumption) (by assumption)); (case hszz37 => first | assumption | exact Mine.Taken.lt (by assumption) (by assumption) | exact Mine.Taken.lt (by assumption) (Mine.Taken.lt (by assumption) (by assumption))); (case hfz37 => exact rfl); (case hkez37 => exact rfl); (case hdz37 => ((try dsimp only [depth_deeper, Mine.top]); (first | exact Mine.rm2 (by assumption) rfl | exact Mine.rm_tree (by assumption) | exact Mine.rm_ord (by assumption) (Nat.succ_le_succ (Nat.le_add_right _ _)) | exact Mine.rm_ord (by assumption) (Nat.succ_le_succ (Nat.le_add_left _ _)) | exact Mine.rm_ord (by assumption) (Nat.le_refl _) | omega))); (case huz37 => ((try dsimp only [units_deeper, units_in1, Mine.top]); (first | exact Mine.rm2 (by assumption) rfl | exact Mine.rm_treeu (by assumption) | exact Mine.rm_ordu (by assumption) (Nat.succ_le_succ (Nat.le_add_right _ _)) | exact Mine.rm_ordu (by assumption) (Nat.succ_le_succ (Nat.le_add_left _ _)) | exact Mine.rm_ordu (by assumption) (Nat.le_refl _) | omega)))); intro _ _ _ _ _ _ Nqzz htqzz; (try dsimp only [Mine.dled] at Nqzz); (try (revert Nqzz htqzz; intro _ _)); (try k_sweep))
  k_with "call ref" => (k_here; (with_reducible show wpAny _ _ (PySem.call (Value.ref 100) _) _ _ _); k_dflt (refine' Mine.d_take ?APz38 ?hkz38 ?hszz38 ?Bz38 ?Fz38 ?Xz38 ?Nz38 ?Tz38 ?hmz38 ?hfz38 ?hkez38 ?hdz38 ?huz38 ?_; (case APz38 => assumption); (case Bz38 => k_asm); (case Fz38 => k_asm); (case Xz38 => k_asm); (case Nz38 => k_asm); (case Tz38 => k_asm); (case hmz38 => first | exact fun _ h => h | exact fun _ h => .tail _ h | exact fun _ h => .tail _ (.tail _ h)); (case hkz38 => first | assumption | omega); (case hszz38 => first | assumption | exact Mine.Taken.lt (by assumption) (by assumption) | exact Mine.Taken.lt (by assumption) (Mine.Taken.lt (by assumption) (by assumption))); (case hfz38 => exact rfl); (case hkez38 => exact rfl); (case hdz38 => ((try dsimp only [depth_deeper, Mine.top]); (first | exact Mine.rm2 (by assumption) rfl | exact Mine.rm_tree (by assumption) | exact Mine.rm_ord (by assumption) (Nat.succ_le_succ (Nat.le_add_right _ _)) | exact Mine.rm_ord (by assumption) (Nat.succ_le_succ (Nat.le_add_left _ _)) | exact Mine.rm_ord (by assumption) (Nat.le_refl _) | omega))); (case huz38 => ((try dsimp only [units_deeper, units_in1, Mine.top]); (first | exact Mine.rm2 (by assumption) rfl | exact Mine.rm_treeu (by assumption) | exact Mine.rm_ordu (by assumption) (Nat.succ_le_succ (Nat.le_add_right _ _)) | exact Mine.rm_ordu (by assumption) (Nat.succ_le_succ (Nat.le_add_left _ _)) | exact Mine.rm_ordu (by assumption) (Nat.le_refl _) | omega)))); intro _ _ _ _ _ _ _ Nqzz Aqzz htqzz; (try dsimp only [Mine.dled] at Nqzz); (try (revert Nqzz Aqzz htqzz; intro _ _ _)); (try k_sweep))
  k_with "call ref" => (k_here; (with_reducible show wpAny _ _ (PySem.call (Value.ref 135) _) _ _ _); k_dflt (refine' Mine.d_hook (dep := 3) ?Cz39 ?hprez39 ?hkz39 ?APz39 ?Bz39 ?Fz39 ?Xz39 ?Nz39 ?Tz39 ?hmz39 ?hfz39 ?hkez39 ?hdz39 ?huz39 ?_; (case APz39 => assumption); (case Bz39 => k_asm); (case Fz39 => k_asm); (case Xz39 => k_asm); (case Nz39 => k_asm); (case Tz39 => k_asm); (case hmz39 => first | exact fun _ h => h | exact fun _ h => .tail _ h | exact fun _ h => .tail _ (.tail _ h)); (case Cz39 => exact Mine.var_value_fs _ (by assumption) _ _ _ (by assumption)); (case hprez39 => assumption); (case hkz39 => first | exact fun _ _ e => e | exact Fr.keep (by assumption) | exact Below.stays (by assumption)); (case hfz39 => exact rfl); (case hkez39 => exact rfl); (case hdz39 => ((try dsimp only [depth_deeper, Mine.top]); (first | exact Mine.rm2 (by assumption) rfl | exact Mine.rm_tree (by assumption) | exact Mine.rm_ord (by assumption) (Nat.succ_le_succ (Nat.le_add_right _ _)) | exact Mine.rm_ord (by assumption) (Nat.succ_le_succ (Nat.le_add_left _ _)) | exact Mine.rm_ord (by assumption) (Nat.le_refl _) | omega))); (case huz39 => ((try dsimp only [units_deeper, units_in1, Mine.top]); (first | exact Mine.rm2 (by assumption) rfl | exact Mine.rm_treeu (by assumption) | exact Mine.rm_ordu (by assumption) (Nat.succ_le_succ (Nat.le_add_right _ _)) | exact Mine.rm_ordu (by assumption) (Nat.succ_le_succ (Nat.le_add_left _ _)) | exact Mine.rm_ordu (by assumption) (Nat.le_refl _) | omega)))); intro _ _ _ _ _ _ Nqzz eqzz haqzz; (try dsimp only [Mine.dled] at Nqzz); (try (revert Nqzz eqzz haqzz; intro _ _ _)); (try k_sweep))
  k_with "call ref" => (k_here; (with_reducible show wpAny _ _ (PySem.call (Value.ref 142) _) _ _ _); k_dflt (refine' Mine.d_hook (dep := 3) ?Cz40 ?hprez40 ?hkz40 ?APz40 ?Bz40 ?Fz40 ?Xz40 ?Nz40 ?Tz40 ?hmz40 ?hfz40 ?hkez40 ?hdz40 ?huz40 ?_; (case APz40 => assumption); (case Bz40 => k_asm); (case Fz40 => k_asm); (case Xz40 => k_asm); (case Nz40 => k_asm); (case Tz40 => k_asm); (case hmz40 => first | exact fun _ h => h | exact fun _ h => .tail _ h | exact fun _ h => .tail _ (.tail _ h)); (case Cz40 => exact Mine.name_of_fs _ (by assumption) _ _ _ _ (by assumption)); (case hprez40 => assumption); (case hkz40 => first | exact fun _ _ e => e | exact Fr.keep (by assumption) | exact Below.stays (by assumption)); (case hfz40 => exact rfl); (case hkez40 => exact rfl); (case hdz40 => ((try dsimp only [depth_deeper, Mine.top]); (first | exact Mine.rm2 (by assumption) rfl | exact Mine.rm_tree (by assumption) | exact Mine.rm_ord (by assumption) (Nat.succ_le_succ (Nat.le_add_right _ _)) | exact Mine.rm_ord (by assumption) (Nat.succ_le_succ (Nat.le_add_left _ _)) | exact Mine.rm_ord (by assumption) (Nat.le_refl _) | omega))); (case huz40 => ((try dsimp only [units_deeper, units_in1, Mine.top]); (first | exact Mine.rm2 (by assumption) rfl | exact Mine.rm_treeu (by assumption) | exact Mine.rm_ordu (by assumption) (Nat.succ_le_succ (Nat.le_add_right _ _)) | exact Mine.rm_ordu (by assumption) (Nat.succ_le_succ (Nat.le_add_left _ _)) | exact Mine.rm_ordu (by assumption) (Nat.le_refl _) | omega)))); intro _ _ _ _ _ _ Nqzz eqzz haqzz; (try dsimp only [Mine.dled] at Nqzz); (try (revert Nqzz eqzz haqzz; intro _ _ _)); (try k_sweep))
  k_with "call ref" => (k_here; (with_reducible show wpAny _ _ (PySem.call (Value.ref 149) _) _ _ _); k_dflt (refine' Mine.d_hook (dep := 3) ?Cz41 ?hprez41 ?hkz41 ?APz41 ?Bz41 ?Fz41 ?Xz41 ?Nz41 ?Tz41 ?hmz41 ?hfz41 ?hkez41 ?hdz41 ?huz41 ?_; (case APz41 => assumption); (case Bz41 => k_asm); (case Fz41 => k_asm); (case Xz41 => k_asm); (case Nz41 => k_asm); (case Tz41 => k_asm); (case hmz41 => first | exact fun _ h => h | exact fun _ h => .tail _ h | exact fun _ h => .tail _ (.tail _ h)); (case Cz41 => exact Mine.named_by_fs _ (by assumption) _ _ _ (by assumption)); (case hprez41 => assumption); (case hkz41 => first | exact fun _ _ e => e | exact Fr.keep (by assumption) | exact Below.stays (by assumption)); (case hfz41 => exact rfl); (case hkez41 => exact rfl); (case hdz41 => ((try dsimp only [depth_deeper, Mine.top]); (first | exact Mine.rm2 (by assumption) rfl | exact Mine.rm_tree (by assumption) | exact Mine.rm_ord (by assumption) (Nat.succ_le_succ (Nat.le_add_right _ _)) | exact Mine.rm_ord (by assumption) (Nat.succ_le_succ (Nat.le_add_left _ _)) | exact Mine.rm_ord (by assumption) (Nat.le_refl _) | omega))); (case huz41 => ((try dsimp only [units_deeper, units_in1, Mine.top]); (first | exact Mine.rm2 (by assumption) rfl | exact Mine.rm_treeu (by assumption) | exact Mine.rm_ordu (by assumption) (Nat.succ_le_succ (Nat.le_add_right _ _)) | exact Mine.rm_ordu (by assumption) (Nat.succ_le_succ (Nat.le_add_left _ _)) | exact Mine.rm_ordu (by assumption) (Nat.le_refl _) | omega)))); intro _ _ _ _ _ _ Nqzz eqzz haqzz; (try dsimp only [Mine.dled] at Nqzz); (try (revert Nqzz eqzz haqzz; intro _ _ _)); (try k_sweep))
  k_with "call ref" => (k_here; (with_reducible show wpAny _ _ (PySem.call (Value.ref 156) _) _ _ _); k_dflt (refine' Mine.d_hook (dep := 3) ?Cz42 ?hprez42 ?hkz42 ?APz42 ?Bz42 ?Fz42 ?Xz42 ?Nz42 ?Tz42 ?hmz42 ?hfz42 ?hkez42 ?hdz42 ?huz42 ?_; (case APz42 => assumption); (case Bz42 => k_asm); (case Fz42 => k_asm); (case Xz42 => k_asm); (case Nz42 => k_asm); (case Tz42 => k_asm); (case hmz42 => first | exact fun _ h => h | exact fun _ h => .tail _ h | exact fun _ h => .tail _ (.tail _ h)); (case Cz42 => exact Mine.ref_value_fs _ (by assumption) _ _ _ (by assumption)); (case hprez42 => assumption); (case hkz42 => first | exact fun _ _ e => e | exact Fr.keep (by assumption) | exact Below.stays (by assumption)); (case hfz42 => exact rfl); (case hkez42 => exact rfl); (case hdz42 => ((try dsimp only [depth_deeper, Mine.top]); (first | exact Mine.rm2 (by assumption) rfl | exact Mine.rm_tree (by assumption) | exact Mine.rm_ord (by assumption) (Nat.succ_le_succ (Nat.le_add_right _ _)) | exact Mine.rm_ord (by assumption) (Nat.succ_le_succ (Nat.le_add_left _ _)) | exact Mine.rm_ord (by assumption) (Nat.le_refl _) | omega))); (case huz42 => ((try dsimp only [units_deeper, units_in1, Mine.top]); (first | exact Mine.rm2 (by assumption) rfl | exact Mine.rm_treeu (by assumption) | exact Mine.rm_ordu (by assumption) (Nat.succ_le_succ (Nat.le_add_right _ _)) | exact Mine.rm_ordu (by assumption) (Nat.succ_le_succ (Nat.le_add_left _ _)) | exact Mine.rm_ordu (by assumption) (Nat.le_refl _) | omega)))); intro _ _ _ _ _ _ Nqzz eqzz haqzz; (try dsimp only [Mine.dled] at Nqzz); (try (revert Nqzz eqzz haqzz; intro _ _ _)); (try k_sweep))
  k_with "call ref" => (k_here; (with_reducible show wpAny _ _ (PySem.call (Value.ref 163) _) _ _ _); k_dflt (refine' Mine.d_hook (dep := 3) ?Cz43 ?hprez43 ?hkz43 ?APz43 ?Bz43 ?Fz43 ?Xz43 ?Nz43 ?Tz43 ?hmz43 ?hfz43 ?hkez43 ?hdz43 ?huz43 ?_; (case APz43 => assumption); (case Bz43 => k_asm); (case Fz43 => k_asm); (case Xz43 => k_asm); (case Nz43 => k_asm); (case Tz43 => k_asm); (case hmz43 => first | exact fun _ h => h | exact fun _ h => .tail _ h | exact fun _ h => .tail _ (.tail _ h)); (case Cz43 => exact Mine.called_fs _ (by assumption) _ _ _ _ _ (by assumption)); (case hprez43 => assumption); (case hkz43 => first | exact fun _ _ e => e | exact Fr.keep (by assumption) | exact Below.stays (by assumption)); (case hfz43 => exact rfl); (case hkez43 => exact rfl); (case hdz43 => ((try dsimp only [depth_deeper, Mine.top]); (first | exact Mine.rm2 (by assumption) rfl | exact Mine.rm_tree (by assumption) | exact Mine.rm_ord (by assumption) (Nat.succ_le_succ (Nat.le_add_right _ _)) | exact Mine.rm_ord (by assumption) (Nat.succ_le_succ (Nat.le_add_left _ _)) | exact Mine.rm_ord (by assumption) (Nat.le_refl _) | omega))); (case huz43 => ((try dsimp only [units_deeper, units_in1, Mine.top]); (first | exact Mine.rm2 (by assumption) rfl | exact Mine.rm_treeu (by assumption) | exact Mine.rm_ordu (by assumption) (Nat.succ_le_succ (Nat.le_add_right _ _)) | exact Mine.rm_ordu (by assumption) (Nat.succ_le_succ (Nat.le_add_left _ _)) | exact Mine.rm_ordu (by assumption) (Nat.le_refl _) | omega)))); intro _ _ _ _ _ _ Nqzz eqzz haqzz; (try dsimp only [Mine.dled] at Nqzz); (try (revert Nqzz eqzz haqzz; intro _ _ _)); (try k_sweep))
  k_with "call ref" => (k_here; (with_reducible show wpAny _ _ (PySem.call (Value.ref 170) _) _ _ _); k_dflt (refine' Mine.d_hook (dep := 3) ?Cz44 ?hprez44 ?hkz44 ?APz44 ?Bz44 ?Fz44 ?Xz44 ?Nz44 ?Tz44 ?hmz44 ?hfz44 ?hkez44 ?hdz44 ?huz44 ?_; (case APz44 => assumption); (case Bz44 => k_asm); (case Fz44 => k_asm); (case Xz44 => k_asm); (case Nz44 => k_asm); (case Tz44 => k_asm); (case hmz44 => first | exact fun _ h => h | exact fun _ h => .tail _ h | exact fun _ h => .tail _ (.tail _ h)); (case Cz44 => exact Mine.item_of_fs _ (by assumption) _ _ _ _ _ (by assumption)); (case hprez44 => assumption); (case hkz44 => first | exact fun _ _ e => e | exact Fr.keep (by assumption) | exact Below.stays (by assumption)); (case hfz44 => exact rfl); (case hkez44 => exact rfl); (case hdz44 => ((try dsimp only [depth_deeper, Mine.top]); (first | exact Mine.rm2 (by assumption) rfl | exact Mine.rm_tree (by assumption) | exact Mine.rm_ord (by assumption) (Nat.succ_le_succ (Nat.le_add_right _ _)) | exact Mine.rm_ord (by assumption) (Nat.succ_le_succ (Nat.le_add_left _ _)) | exact Mine.rm_ord (by assumption) (Nat.le_refl _) | omega))); (case huz44 => ((try dsimp only [units_deeper, units_in1, Mine.top]); (first | exact Mine.rm2 (by assumption) rfl | exact Mine.rm_treeu (by assumption) | exact Mine.rm_ordu (by assumption) (Nat.succ_le_succ (Nat.le_add_right _ _)) | exact Mine.rm_ordu (by assumption) (Nat.succ_le_succ (Nat.le_add_left _ _)) | exact Mine.rm_ordu (by assumption) (Nat.le_refl _) | omega)))); intro _ _ _ _ _ _ Nqzz eqzz haqzz; (try dsimp only [Mine.dled] at Nqzz); (try (revert Nqzz eqzz haqzz; intro _ _ _)); (try k_sweep))
  k_with "call ref" => (k_here; (with_reducible show wpAny _ _ (PySem.call (Value.ref 177) _) _ _ _); k_dflt (refine' Mine.d_hook (dep := 3) ?Cz45 ?hprez45 ?hkz45 ?APz45 ?Bz45 ?Fz45 ?Xz45 ?Nz45 ?Tz45 ?hmz45 ?hfz45 ?hkez45 ?hdz45 ?huz45 ?_; (case APz45 => assumption); (case Bz45 => k_asm); (case Fz45 => k_asm); (case Xz45 => k_asm); (case Nz45 => k_asm); (case Tz45 => k_asm); (case hmz45 => first | exact fun _ h => h | exact fun _ h => .tail _ h | exact fun _ h => .tail _ (.tail _ h)); (case Cz45 => exact Mine.operated_fs _ (by assumption) _ _ _ _ (by assumption)); (case hprez45 => assumption); (case hkz45 => first | exact fun _ _ e => e | exact Fr.keep (by assumption) | exact Below.stays (by assumption)); (case hfz45 => exact rfl); (case hkez45 => exact rfl); (case hdz45 => ((try dsimp only [depth_deeper, Mine.top]); (first | exact Mine.rm2 (by assumption) rfl | exact Mine.rm_tree (by assumption) | exact Mine.rm_ord (by assumption) (Nat.succ_le_succ (Nat.le_add_right _ _)) | exact Mine.rm_ord (by assumption) (Nat.succ_le_succ (Nat.le_add_left _ _)) | exact Mine.rm_ord (by assumption) (Nat.le_refl _) | omega))); (case huz45 => ((try dsimp only [units_deeper, units_in1, Mine.top]); (first | exact Mine.rm2 (by assumption) rfl | exact Mine.rm_treeu (by assumption) | exact Mine.rm_ordu (by assumption) (Nat.succ_le_succ (Nat.le_add_right _ _)) | exact Mine.rm_ordu (by assumption) (Nat.succ_le_succ (Nat.le_add_left _ _)) | exact Mine.rm_ordu (by assumption) (Nat.le_refl _) | omega)))); intro _ _ _ _ _ _ Nqzz eqzz haqzz; (try dsimp only [Mine.dled] at Nqzz); (try (revert Nqzz eqzz haqzz; intro _ _ _)); (try k_sweep))
  k_with "call ref" => (k_here; (with_reducible show wpAny _ _ (PySem.call (Value.ref 191) _) _ _ _); k_dflt (refine' Mine.d_hook (dep := 3) ?Cz46 ?hprez46 ?hkz46 ?APz46 ?Bz46 ?Fz46 ?Xz46 ?Nz46 ?Tz46 ?hmz46 ?hfz46 ?hkez46 ?hdz46 ?huz46 ?_; (case APz46 => assumption); (case Bz46 => k_asm); (case Fz46 => k_asm); (case Xz46 => k_asm); (case Nz46 => k_asm); (case Tz46 => k_asm); (case hmz46 => first | exact fun _ h => h | exact fun _ h => .tail _ h | exact fun _ h => .tail _ (.tail _ h)); (case Cz46 => exact Mine.given_part_fs _ (by assumption) _ _ _ _ _ (by assumption)); (case hprez46 => assumption); (case hkz46 => first | exact fun _ _ e => e | exact Fr.keep (by assumption) | exact Below.stays (by assumption)); (case hfz46 => exact rfl); (case hkez46 => exact rfl); (case hdz46 => ((try dsimp only [depth_deeper, Mine.top]); (first | exact Mine.rm2 (by assumption) rfl | exact Mine.rm_tree (by assumption) | exact Mine.rm_ord (by assumption) (Nat.succ_le_succ (Nat.le_add_right _ _)) | exact Mine.rm_ord (by assumption) (Nat.succ_le_succ (Nat.le_add_left _ _)) | exact Mine.rm_ord (by assumption) (Nat.le_refl _) | omega))); (case huz46 => ((try dsimp only [units_deeper, units_in1, Mine.top]); (first | exact Mine.rm2 (by assumption) rfl | exact Mine.rm_treeu (by assumption) | exact Mine.rm_ordu (by assumption) (Nat.succ_le_succ (Nat.le_add_right _ _)) | exact Mine.rm_ordu (by assumption) (Nat.succ_le_succ (Nat.le_add_left _ _)) | exact Mine.rm_ordu (by assumption) (Nat.le_refl _) | omega)))); intro _ _ _ _ _ _ Nqzz eqzz haqzz; (try dsimp only [Mine.dled] at Nqzz); (try (revert Nqzz eqzz haqzz; intro _ _ _)); (try k_sweep))
  k_with "call ref" => (k_here; (with_reducible show wpAny _ _ (PySem.call (Value.ref 198) _) _ _ _); k_dflt (refine' Mine.d_hook (dep := 3) ?Cz47 ?hprez47 ?hkz47 ?APz47 ?Bz47 ?Fz47 ?Xz47 ?Nz47 ?Tz47 ?hmz47 ?hfz47 ?hkez47 ?hdz47 ?huz47 ?_; (case APz47 => assumption); (case Bz47 => k_asm); (case Fz47 => k_asm); (case Xz47 => k_asm); (case Nz47 => k_asm); (case Tz47 => k_asm); (case hmz47 => first | exact fun _ h => h | exact fun _ h => .tail _ h | exact fun _ h => .tail _ (.tail _ h)); (case Cz47 => exact Mine.cursor_fs _ (by assumption) _ _ _ (by assumption)); (case hprez47 => assumption); (case hkz47 => first | exact fun _ _ e => e | exact Fr.keep (by assumption) | exact Below.stays (by assumption)); (case hfz47 => exact rfl); (case hkez47 => exact rfl); (case hdz47 => ((try dsimp only [depth_deeper, Mine.top]); (first | exact Mine.rm2 (by assumption) rfl | exact Mine.rm_tree (by assumption) | exact Mine.rm_ord (by assumption) (Nat.succ_le_succ (Nat.le_add_right _ _)) | exact Mine.rm_ord (by assumption) (Nat.succ_le_succ (Nat.le_add_left _ _)) | exact Mine.rm_ord (by assumption) (Nat.le_refl _) | omega))); (case huz47 => ((try dsimp only [units_deeper, units_in1, Mine.top]); (first | exact Mine.rm2 (by assumption) rfl | exact Mine.rm_treeu (by assumption) | exact Mine.rm_ordu (by assumption) (Nat.succ_le_succ (Nat.le_add_right _ _)) | exact Mine.rm_ordu (by assumption) (Nat.succ_le_succ (Nat.le_add_left _ _)) | exact Mine.rm_ordu (by assumption) (Nat.le_refl _) | omega)))); intro _ _ _ _ _ _ Nqzz eqzz haqzz; (try dsimp only [Mine.dled] at Nqzz); (try (revert Nqzz eqzz haqzz; intro _ _ _)); (try k_sweep))
  k_with "call ref" => (k_here; (with_reducible show wpAny _ _ (PySem.call (Value.ref 275) _) _ _ _); k_dflt (refine' Mine.d_do (dep := 4) ?Cz48 ?hroz48 ?hprez48 ?hkz48 ?Bz48 ?Fz48 ?Xz48 ?Nz48 ?Tz48 ?hmz48 ?hfz48 ?hkez48 ?hdz48 ?huz48 ?_; (case Bz48 => k_asm); (case Fz48 => k_asm); (case Xz48 => k_asm); (case Nz48 => k_asm); (case Tz48 => k_asm); (case hmz48 => exact fun _ h => h); (case Cz48 => refine Mine.part_fs _ _ (by assumption) _ (by assumption) _ _ _ _ _ _ _ _ _ (by assumption) (by assumption) (by assumption) (by assumption) (by assumption) (by assumption) (by assumption) ?_; (first | exact .inl rfl | exact .inr rfl)); (case hroz48 => assumption); (case hprez48 => assumption); (case hkz48 => first | exact fun _ _ e => e | exact Fr.keep (by assumption) | exact Below.stays (by assumption)); (case hfz48 => exact rfl); (case hkez48 => exact rfl); (case hdz48 => ((try dsimp only [depth_deeper, Mine.top]); (first | exact Mine.rm2 (by assumption) rfl | exact Mine.rm_tree (by assumption) | exact Mine.rm_ord (by assumption) (Nat.succ_le_succ (Nat.le_add_right _ _)) | exact Mine.rm_ord (by assumption) (Nat.succ_le_succ (Nat.le_add_left _ _)) | exact Mine.rm_ord (by assumption) (Nat.le_refl _) | omega))); (case huz48 => ((try dsimp only [units_deeper, units_in1, Mine.top]); (first | exact Mine.rm2 (by assumption) rfl | exact Mine.rm_treeu (by assumption) | exact Mine.rm_ordu (by assumption) (Nat.succ_le_succ (Nat.le_add_right _ _)) | exact Mine.rm_ordu (by assumption) (Nat.succ_le_succ (Nat.le_add_left _ _)) | exact Mine.rm_ordu (by assumption) (Nat.le_refl _) | omega)))); intro _ _ _ _ _ _ _; (try k_sweep))
  k_with "call ref" => (k_here; (with_reducible show wpAny _ _ (PySem.call (Value.ref 289) _) _ _ _); k_dflt (refine' Mine.d_do (dep := 4) ?Cz49 ?hroz49 ?hprez49 ?hkz49 ?Bz49 ?Fz49 ?Xz49 ?Nz49 ?Tz49 ?hmz49 ?hfz49 ?hkez49 ?hdz49 ?huz49 ?_; (case Bz49 => k_asm); (case Fz49 => k_asm); (case Xz49 => k_asm); (case Nz49 => k_asm); (case Tz49 => k_asm); (case hmz49 => exact fun _ h => h); (case Cz49 => refine Mine.other_fs _ _ (by assumption) _ (by assumption) _ _ _ _ _ _ _ _ _ (by assumption) (by assumption) (by assumption) (by assumption) (by assumption) (by assumption) (by assumption) ?_; (first | exact .inl rfl | exact .inr (.inl rfl) | exact .inr (.inr rfl))); (case hroz49 => assumption); (case hprez49 => assumption); (case hkz49 => first | exact fun _ _ e => e | exact Fr.keep (by assumption) | exact Below.stays (by assumption)); (case hfz49 => exact rfl); (case hkez49 => exact rfl); (case hdz49 => ((try dsimp only [depth_deeper, Mine.top]); (first | exact Mine.rm2 (by assumption) rfl | exact Mine.rm_tree (by assumption) | exact Mine.rm_ord (by assumption) (Nat.succ_le_succ (Nat.le_add_right _ _)) | exact Mine.rm_ord (by assumption) (Nat.succ_le_succ (Nat.le_add_left _ _)) | exact Mine.rm_ord (by assumption) (Nat.le_refl _) | omega))); (case huz49 => ((try dsimp only [units_deeper, units_in1, Mine.top]); (first | exact Mine.rm2 (by assumption) rfl | exact Mine.rm_treeu (by assumption) | exact Mine.rm_ordu (by assumption) (Nat.succ_le_succ (Nat.le_add_right _ _)) | exact Mine.rm_ordu (by assumption) (Nat.succ_le_succ (Nat.le_add_left _ _)) | exact Mine.rm_ordu (by assumption) (Nat.le_refl _) | omega)))); intro _ _ _ _ _ _ _; (try k_sweep))
  refine' Mine.fs_plain (binds := [(Str.ofString "work", .ref V.W), (Str.ofString "order", v), (Str.ofString "hooks", .ref K.H)]) ?ho ?hcd ?hb ?hl ?h ?c2 ?c3 ?c4 ?c5
  case ho => (intro P; k_dflt k_is)
  case hcd => (intro P; k_dflt k_is)
  case hb => (intro s; exact BindsTo.of_eq rfl)
  case hl => exact locs rfl
  case c5 => decide
  case c2 => exact rfl
  case c3 => exact rfl
  case c4 => exact rfl
  case h =>
  intro dp un gd outer base g s p loose mean mg mb L' h' tk B' X' T' F' N' pre hd hu
  obtain ⟨hro, hpre⟩ := pre
  simp only [dled] at N'
  try dsimp only
  have hro' := hro
  have hnd' := hnd
  cases hro
  case guard => cases hc
  case given => (have ht := isTup_of (by assumption)); (with_reducible show wpAny _ _ _ _ _ _); k_fold; k_steps; (show Done _ _ _ _ _); exact ⟨_, _, _, (by k_asm), (by k_asm), (by assumption), rfl⟩
  case cursor => (have ht := isTup_of (by assumption)); (with_reducible show wpAny _ _ _ _ _ _); k_fold; k_steps; (show Done _ _ _ _ _); exact ⟨_, _, _, (by k_asm), (by k_asm), (by assumption), rfl⟩
  case unguard => (have ht := isTup_of (by assumption)); (with_reducible show wpAny _ _ _ _ _ _); k_fold; k_steps; (show Done _ _ _ _ _); exact ⟨_, _, _, (by k_asm), (by k_asm), (by assumption), rfl⟩
  case drop => (have ht := isTup_of (by assumption)); (with_reducible show wpAny _ _ _ _ _ _); k_fold; k_steps; (show Done _ _ _ _ _); exact ⟨_, _, _, (by k_asm), (by k_asm), (by assumption), rfl⟩
  case fail => (have ht := isTup_of (by assumption)); (with_reducible show wpAny _ _ _ _ _ _); k_fold; k_steps; (show Done _ _ _ _ _); exact ⟨_, _, _, (by k_asm), (by k_asm), (by assumption), rfl⟩
  case push =>
    simp only [need] at hnd
    (have ht := isTup_of (by assumption)); (with_reducible show wpAny _ _ _ _ _ _); k_fold; k_steps
    (show Done _ _ _ _ _); exact ⟨_, _, _, (by k_asm), (by k_asm), push_end hst hn (by assumption) (by assumption) AP, rfl⟩
  all_goals
    (simp only [need] at hnd
     (have ht := isTup_of (by assumption)); (with_reducible show wpAny _ _ _ _ _ _); k_fold; k_steps
     ((show Done _ _ _ _ _); exact ⟨_, _, _, (by k_asm), (by k_asm), ask_end (by assumption) (by first | assumption | exact Taken.refl | exact Taken.trans' (by assumption) (by assumption)) rfl (by assumption) (by assumption) rfl (by assumption) (by assumption) (by assumption), rfl⟩))
namespace Mine
section
variable {w : World} {A : Around} {base h₀ : Heap} {outer : List Env} {L : Addr} {m : Str → Option Value} {env : Env} {news P R : List (Addr × Obj)} {hp : Heap} {gs : Array GenState} {dr : Drawn} {tk : Nat} {os : OsState} {p : Program} {loose : List Str} {mean : ExcName → Option Value} {mg mb : Str → Option Value}
  {f : Addr} {dep : Nat} {args : List Value} {Pre : Heap → Prop} {Post : Value → List (Addr × Obj) → Prop} {A₀ : Around} {dp un : Nat} {gd : Option (List Code)} {Z : Result → Shared → Prop}
/-- a def's run by a contract -/
theorem code_fs (hA : A = top dp un gd (env :: outer)) (S : FS w f dep args Pre P Post) (B : Below A₀ base outer h₀) (F : Fr h₀ L hp m) (X : (Mine.hd.heap_39 w.params).In h₀) (N : News h₀ L hp news) (T : Top p loose mean mg mb h₀)
    (hf : env.frame = some L) (hke : env.scope.kind = .function)
    (hP : ∀ q ∈ P, q ∈ news) (hR : ∀ q ∈ R, q ∈ news ∧ ∀ r ∈ P, q.1 ≠ r.1)
    (hd : dp + dep < 900) (hu : un + 5 * dep < 3000)
    (hpre : ∀ g, (∀ q ∈ R, g.get? q.1 = some q.2) → (∀ b o, h₀.get? b = some o → g.get? b = some o) → Pre g)
    (ret : ∀ r h' tk' P', Fr h₀ L h' m → News h₀ L h' (P' ++ R) → (∀ q ∈ P', ∀ r ∈ R, q.1 ≠ r.1) → Post r P' → Z (.ok (.ret r)) ⟨h', gs, dr, tk', os⟩) :
    codeAny (model pw w) A (.call (.ref f) ⟨args, []⟩) Z ⟨hp, gs, dr, tk, os⟩ := by
  subst hA
  have NP : News h₀ L hp P := fun q hq => N q (hP q hq)
  obtain ⟨FG, BG, st, _⟩ := groundX (s := ⟨hp, gs, dr, tk, os⟩) (R := fun _ _ => True) (A := top dp un gd (env :: outer)) B F NP rfl hf hke
  have XG : (Mine.hd.heap_39 w.params).In (hideAll hp (P.map (·.1))) := X.keeps st
  have keepR : ∀ q ∈ R, (hideAll hp (P.map (·.1))).get? q.1 = some q.2 := fun q hq => hideAll_get _ (N q (hR q hq).1).1 fun z => by
    obtain ⟨r, hr, e⟩ := List.mem_map.mp z
    exact (hR q hq).2 r hr e.symm
  refine S dp un gd (env :: outer) base (hideAll hp (P.map (·.1))) ⟨hp, gs, dr, tk, os⟩ _ ⟨BG, XG, ⟨_, _, _, _, _, T.keeps (fun b o e => st b o e)⟩, fun b o e => of_hideAll _ e, Nat.le_of_eq (hideAll_size _ _), fun q hq => ⟨(NP q hq).1, hideAll_none _ (List.mem_map_of_mem hq)⟩⟩
    (hpre _ keepR (fun b o e => st b o e)) hd hu ?_
  intro r h' tk' P' hk hl hp
  obtain ⟨oL, es, ep, hL, hLd, hLk, hLf⟩ := FG.ns
  have ap : ∀ q ∈ P', ∀ r ∈ R, q.1 ≠ r.1 := fun q hq r hr e => by
    have := (hl q hq).2
    rw [e, keepR r hr] at this; cases this
  refine ret r h' tk' P' ⟨⟨oL, es, ep, hk L oL hL, hLd, hLk, hLf⟩, fun b o e => hk b o (st b o e), F.above⟩ (fun q hq => ?_) ap hp
  rcases List.mem_append.mp hq with hq | hq
  · refine ⟨(hl q hq).1, fun e => ?_, ?_⟩
    · have := (hl q hq).2; rw [e, hL] at this; cases this
    · cases z : h₀.get? q.1 with
      | none => rfl
      | some o => have := (hl q hq).2; rw [st _ _ z] at this; cases this
  · exact ⟨hk _ _ (keepR q hq), (N q (hR q hq).1).2⟩
end
theorem news_rot4 {h₀ h : Heap} {L : Addr} {a b c d : Addr × Obj} (N : News h₀ L h [a, b, c, d]) : News h₀ L h [c, d, b, a] := fun q hq => N q (by
  simp only [List.mem_cons, List.not_mem_nil, or_false] at hq ⊢
  rcases hq with h | h | h | h <;> simp only [h, true_or, or_true])
theorem news_rot3 {h₀ h : Heap} {L : Addr} {a b c : Addr × Obj} (N : News h₀ L h [a, b, c]) : News h₀ L h [b, c, a] := fun q hq => N q (by
  simp only [List.mem_cons, List.not_mem_nil, or_false] at hq ⊢
  rcases hq with h | h | h <;> simp only [h, true_or, or_true])
noncomputable def WinitPost (w : World) (x d : Addr) (r : Value) (P' : List (Addr × Obj)) : Prop :=
  r = .none ∧ ∃ (V : Wk) (S : Addr), V.W = x ∧ V.D = d ∧ P' = V.led w S #[] #[] 0 0 ∧ NeA V.W S ∧ NeA V.D S ∧ NeA V.G V.W ∧ NeA V.G V.D ∧ NeA V.G S
noncomputable def HinitPost (w : World) (x d f : Addr) (lab : Value) (r : Value) (P' : List (Addr × Obj)) : Prop :=
  r = .none ∧ ∃ nt nts q1 q2 q3, P' = [(x, instObj 250 d), (d, hdict w f lab nts q1 q2 q3), nt]
end Mine
set_option maxHeartbeats 40000000 in
theorem Mine.winit_fs {w : World} (x d : Addr) (hne : NeA x d) : FS w 79 1 [.ref x] (fun _ => True) [(x, instObj 103 d), (d, dictOf [] 0)] (WinitPost w x d) := by
  w_top off
  k_with_none
  k_with "callWith ref" => (k_here; k_dflt (first | (refine' callWith_K ?k1z1 ?k2z1 ?_; (case k1z1 => k_asm); (case k2z1 => k_is); k_whole) | (refine' callWith_K0 ?k1z1 ?k2z1 ?_; (case k1z1 => k_in); (case k2z1 => k_is); k_whole)))
  k_with "binaryOp Add ref ref" => (k_here; with_reducible refine' Mine.add_mem ?Fz2 ?Nz2 ?az2 ?bz2 ?zz2 ?_; (case Fz2 => k_asm); (case Nz2 => k_asm); (case az2 => k_dflt k_mem); (case bz2 => k_dflt k_mem); (case zz2 => ((try dsimp only [Mine.T.size] at *); (try simp only [Array.size_append, List.size_toArray, List.length_cons, List.length_nil]); omega)); intro _ _ _ _ l1zz; (try k_lt l1zz); (try (revert l1zz; intro _)); (try k_sweep))
  k_with "call builtin:len" => (k_here; with_reducible refine' Mine.len_mem ?Nz3 ?mz3 ?ez3 ?zz3 ?_; (case Nz3 => k_asm); (case mz3 => k_dflt k_mem); (case ez3 => first | with_reducible assumption | exact rfl); (case zz3 => ((try dsimp only [Mine.T.size] at *); (try simp only [Array.size_push]); omega)); intro _ _)
  k_with "call builtin:len" => (k_here; with_reducible refine' Mine.len_tupN ?Tz4 ?ez4 ?zz4 ?_; (case Tz4 => k_dflt is_tup); (case ez4 => first | with_reducible assumption | exact rfl); (case zz4 => first | (k_dflt decide) | ((try dsimp only [Mine.T.size] at *); omega)); intro _ _)
  k_with "call builtin:list.extend" => (k_here; with_reducible refine' Mine.ext_mem ?Fz5 ?Nz5 ?bz5 ?Uz5 ?zz5 ?_; (case Fz5 => k_asm); (case Nz5 => k_asm); (case bz5 => k_dflt k_mem); (case Uz5 => k_dflt k_updF); (case zz5 => ((try dsimp only [Mine.T.size] at *); (try simp only [Array.size_append, List.size_toArray, List.length_cons, List.length_nil]); omega)); intro _ _ _ Nqzz; (try dsimp only at Nqzz); (try (revert Nqzz; intro _)); (try k_sweep))
  k_with "call ref" => (k_here; (with_reducible show wpAny _ _ (PySem.call (Value.ref 296) _) _ _ _); k_dflt (refine' Mine.ord_call ?Iz6 ?Bz6 ?Fz6 ?Xz6 ?Nz6 ?Tz6 ?rz6 ?kz6 ?fz6 ?ez6 ?sz6 ?wz6 ?dz6 ?uz6 ?_; (case Iz6 => assumption); (case Bz6 => k_asm); (case Fz6 => k_asm); (case Xz6 => k_asm); (case Nz6 => k_asm); (case Tz6 => k_asm); (case rz6 => assumption); (case kz6 => first | exact fun _ _ e => e | exact Fr.keep (by assumption) | exact fun _ _ e => Fr.keep (by assumption) _ _ (Fr.keep (by assumption) _ _ e)); (case fz6 => exact rfl); (case ez6 => exact rfl); (case sz6 => ((try dsimp only [Mine.T.size] at *); omega)); (case wz6 => first | assumption | exact And.left (by assumption) | exact And.right (by assumption)); (case dz6 => ((try dsimp only [Mine.T.size] at *); (try dsimp only [depth_deeper, Mine.top]); (first | exact Mine.rm2 (by assumption) rfl | exact Mine.rm_tree (by assumption) | exact Mine.rm_ord (by assumption) (Nat.succ_le_succ (Nat.le_add_right _ _)) | exact Mine.rm_ord (by assumption) (Nat.succ_le_succ (Nat.le_add_left _ _)) | exact Mine.rm_ord (by assumption) (Nat.le_refl _) | omega))); (case uz6 => ((try dsimp only [Mine.T.size] at *); (try dsimp only [units_deeper, units_in1, Mine.top]); (first | exact Mine.rm2 (by assumption) rfl | exact Mine.rm_treeu (by assumption) | exact Mine.rm_ordu (by assumption) (Nat.succ_le_succ (Nat.le_add_right _ _)) | exact Mine.rm_ordu (by assumption) (Nat.succ_le_succ (Nat.le_add_left _ _)) | exact Mine.rm_ordu (by assumption) (Nat.le_refl _) | omega)))); intro _ _ _ _ _ _ _ _ _ _ _ _ _; (try k_sweep))
  k_with "call ref" => (k_here; (with_reducible show wpAny _ _ (PySem.call (Value.ref 303) _) _ _ _); k_dflt (refine' Mine.fs_call0 (mo := 2) ?Iz7 ?Bz7 ?Fz7 ?Xz7 ?Nz7 ?Tz7 ?rz7 ?kz7 ?fz7 ?ez7 ?dz7 ?uz7 ?_; (case Iz7 => assumption); (case Bz7 => k_asm); (case Fz7 => k_asm); (case Xz7 => k_asm); (case Nz7 => k_asm); (case Tz7 => k_asm); (case rz7 => assumption); (case kz7 => first | exact fun _ _ e => e | exact Fr.keep (by assumption) | exact fun _ _ e => Fr.keep (by assumption) _ _ (Fr.keep (by assumption) _ _ e)); (case fz7 => exact rfl); (case ez7 => exact rfl); (case dz7 => ((try dsimp only [Mine.T.size] at *); (try dsimp only [depth_deeper, Mine.top]); (first | exact Mine.rm2 (by assumption) rfl | exact Mine.rm_tree (by assumption) | exact Mine.rm_ord (by assumption) (Nat.succ_le_succ (Nat.le_add_right _ _)) | exact Mine.rm_ord (by assumption) (Nat.succ_le_succ (Nat.le_add_left _ _)) | exact Mine.rm_ord (by assumption) (Nat.le_refl _) | omega))); (case uz7 => ((try dsimp only [Mine.T.size] at *); (try dsimp only [units_deeper, units_in1, Mine.top]); (first | exact Mine.rm2 (by assumption) rfl | exact Mine.rm_treeu (by assumption) | exact Mine.rm_ordu (by assumption) (Nat.succ_le_succ (Nat.le_add_right _ _)) | exact Mine.rm_ordu (by assumption) (Nat.succ_le_succ (Nat.le_add_left _ _)) | exact Mine.rm_ordu (by assumption) (Nat.le_refl _) | omega)))); intro _ _ _ _ _ _ _ _ _ _ _ _ _; (try k_sweep))
  k_with "call ref" => (k_here; (with_reducible show wpAny _ _ (PySem.call (Value.ref 338) _) _ _ _); k_dflt (refine' Mine.fs_pure ?Iz8 ?Bz8 ?Fz8 ?Xz8 ?Nz8 ?Tz8 ?rz8 ?fz8 ?ez8 ?dz8 ?uz8 ?_; (case Iz8 => assumption); (case Bz8 => k_asm); (case Fz8 => k_asm); (case Xz8 => k_asm); (case Nz8 => k_asm); (case Tz8 => k_asm); (case rz8 => exact fun g' hk _ => Mine.RO.mono (by assumption) hk); (case fz8 => exact rfl); (case ez8 => exact rfl); (case dz8 => ((try dsimp only [depth_deeper, Mine.top]); (first | exact Mine.rm2 (by assumption) rfl | exact Mine.rm_tree (by assumption) | exact Mine.rm_ord (by assumption) (Nat.succ_le_succ (Nat.le_add_right _ _)) | exact Mine.rm_ord (by assumption) (Nat.succ_le_succ (Nat.le_add_left _ _)) | exact Mine.rm_ord (by assumption) (Nat.le_refl _) | omega))); (case uz8 => ((try dsimp only [units_deeper, units_in1, Mine.top]); (first | exact Mine.rm2 (by assumption) rfl | exact Mine.rm_treeu (by assumption) | exact Mine.rm_ordu (by assumption) (Nat.succ_le_succ (Nat.le_add_right _ _)) | exact Mine.rm_ordu (by assumption) (Nat.succ_le_succ (Nat.le_add_left _ _)) | exact Mine.rm_ordu (by assumption) (Nat.le_refl _) | omega)))); intro _ _ _ _ _ eqzz; (obtain ⟨tqzz, eqzz⟩ := eqzz; subst eqzz); (try (revert tqzz; intro _)); (try k_sweep))
  k_with "call builtin:isinstance" => (k_here; with_reducible refine' Mine.isi_tup ?Tz9 ?_; (case Tz9 => k_dflt is_tup); intro _)
  k_with "execs cons" => (k_here; first | (with_reducible refine' Mine.skip_if0 ?Fz10 ?vz10 ?bz10 ?_ ?x1z10 ?x2z10 ?x3z10; (case Fz10 => k_asm); (case vz10 => k_dflt exact rfl); (case bz10 => k_dflt decide); (case x1z10 => k_dflt exact rfl); (case x2z10 => k_dflt exact rfl); (case x3z10 => k_dflt decide); intro _) | (with_reducible refine' Mine.skip_or0 ?Fz10 ?vz10 ?bz10 ?b2z10 ?_ ?x1z10 ?x2z10 ?x3z10; (case Fz10 => k_asm); (case vz10 => k_dflt exact rfl); (case bz10 => k_dflt decide); (case b2z10 => k_dflt decide); (case x1z10 => k_dflt exact rfl); (case x2z10 => k_dflt exact rfl); (case x3z10 => k_dflt decide); intro _) | (with_reducible refine' Mine.take_if0 ?Fz10 ?vz10 ?bz10 ?_ ?x1z10 ?x2z10 ?x3z10; (case Fz10 => k_asm); (case vz10 => k_dflt exact rfl); (case bz10 => k_dflt decide); (case x1z10 => k_dflt exact rfl); (case x2z10 => k_dflt exact rfl); (case x3z10 => k_dflt decide); intro _))
  k_with "execs cons" => (k_here; first | (with_reducible refine' Mine.skip_in0 ?Fz11 ?Nz11 ?vz11 ?sz11 ?nz11 ?bz11 ?mz11 ?_ ?x1z11 ?x2z11 ?x3z11; (case Fz11 => k_asm); (case Nz11 => k_asm); (case vz11 => k_dflt exact rfl); (case sz11 => k_dflt exact rfl); (case nz11 => k_dflt decide); (case bz11 => k_dflt decide); (case mz11 => k_dflt exact rfl); (case x1z11 => k_dflt exact rfl); (case x2z11 => k_dflt exact rfl); (case x3z11 => k_dflt decide); intro _ _ _ _; (try k_sweep)) | (with_reducible refine' Mine.take_in0 ?Fz11 ?Nz11 ?vz11 ?sz11 ?nz11 ?bz11 ?mz11 ?_ ?x1z11 ?x2z11 ?x3z11; (case Fz11 => k_asm); (case Nz11 => k_asm); (case vz11 => k_dflt exact rfl); (case sz11 => k_dflt exact rfl); (case nz11 => k_dflt decide); (case bz11 => k_dflt decide); (case mz11 => k_dflt exact rfl); (case x1z11 => k_dflt exact rfl); (case x2z11 => k_dflt exact rfl); (case x3z11 => k_dflt decide); intro _ _ _ _; (try k_sweep)))
  k_with "eval Subscript Name Constant" => (k_here; with_reducible refine' Mine.item_tup0 ?Fz12 ?vz12 ?tz12 ?loz12 ?hiz12 ?jz12 ?uz12 ?_ ?x1z12 ?x2z12 ?x3z12; (case Fz12 => k_asm); (case vz12 => k_dflt exact rfl); (case tz12 => k_dflt is_tup); (case loz12 => k_dflt decide); (case hiz12 => k_dflt decide); (case jz12 => k_dflt exact rfl); (case uz12 => k_dflt exact rfl); (case x1z12 => k_dflt exact rfl); (case x2z12 => k_dflt exact rfl); (case x3z12 => k_dflt decide); intro _)
  refine' Mine.fs_plain (binds := [(Str.ofString "self", .ref x)]) ?ho ?hcd ?hb ?hl ?h ?c2 ?c3 ?c4 ?c5
  case ho => (intro P; k_dflt k_is)
  case hcd => (intro P; k_dflt k_is)
  case hb => (intro s; exact BindsTo.of_eq rfl)
  case hl => exact locs rfl
  case c5 => decide
  case c2 => exact rfl
  case c3 => exact rfl
  case c4 => exact rfl
  case h =>
  intro dp un gd outer base g s p loose mean mg mb L' h' tk B' X' T' F' N' pre hd hu
  try dsimp only
  (with_reducible show wpAny _ _ _ _ _ _); k_fold; k_steps
  rename_i S1 _ ls _ _ G1 _ lg _ _ _ F9 N9
  (show Done _ _ _ _ _)
  exact ⟨_, _, _, F9, news_rot4 N9, ⟨rfl, ⟨x, d, G1, _, _, _, _⟩, S1, rfl, rfl, rfl, NeA.lt ls.1, NeA.lt ls.2, NeA.gt lg.2.1, NeA.gt lg.2.2, NeA.gt lg.1⟩, rfl⟩
set_option maxHeartbeats 40000000 in
theorem Mine.hinit_fs {w : World} (x d f : Addr) (lab : Value) (hne : NeA x d) : FS w 121 1 [.ref x, .ref f, lab] (fun _ => True) [(x, instObj 250 d), (d, dictOf [] 0)] (HinitPost w x d f lab) := by
  w_top off
  k_with_none
  k_with "callWith ref" => (k_here; k_dflt (first | (refine' callWith_K ?k1z1 ?k2z1 ?_; (case k1z1 => k_asm); (case k2z1 => k_is); k_whole) | (refine' callWith_K0 ?k1z1 ?k2z1 ?_; (case k1z1 => k_in); (case k2z1 => k_is); k_whole)))
  k_with "binaryOp Add ref ref" => (k_here; with_reducible refine' Mine.add_mem ?Fz2 ?Nz2 ?az2 ?bz2 ?zz2 ?_; (case Fz2 => k_asm); (case Nz2 => k_asm); (case az2 => k_dflt k_mem); (case bz2 => k_dflt k_mem); (case zz2 => ((try dsimp only [Mine.T.size] at *); (try simp only [Array.size_append, List.size_toArray, List.length_cons, List.length_nil]); omega)); intro _ _ _ _ l1zz; (try k_lt l1zz); (try (revert l1zz; intro _)); (try k_sweep))
  k_with "call builtin:len" => (k_here; with_reducible refine' Mine.len_mem ?Nz3 ?mz3 ?ez3 ?zz3 ?_; (case Nz3 => k_asm); (case mz3 => k_dflt k_mem); (case ez3 => first | with_reducible assumption | exact rfl); (case zz3 => ((try dsimp only [Mine.T.size] at *); (try simp only [Array.size_push]); omega)); intro _ _)
  k_with "call builtin:len" => (k_here; with_reducible refine' Mine.len_tupN ?Tz4 ?ez4 ?zz4 ?_; (case Tz4 => k_dflt is_tup); (case ez4 => first | with_reducible assumption | exact rfl); (case zz4 => first | (k_dflt decide) | ((try dsimp only [Mine.T.size] at *); omega)); intro _ _)
  k_with "call builtin:list.extend" => (k_here; with_reducible refine' Mine.ext_mem ?Fz5 ?Nz5 ?bz5 ?Uz5 ?zz5 ?_; (case Fz5 => k_asm); (case Nz5 => k_asm); (case bz5 => k_dflt k_mem); (case Uz5 => k_dflt k_updF); (case zz5 => ((try dsimp only [Mine.T.size] at *); (try simp only [Array.size_append, List.size_toArray, List.length_cons, List.length_nil]); omega)); intro _ _ _ Nqzz; (try dsimp only at Nqzz); (try (revert Nqzz; intro _)); (try k_sweep))
  k_with "call ref" => (k_here; (with_reducible show wpAny _ _ (PySem.call (Value.ref 296) _) _ _ _); k_dflt (refine' Mine.ord_call ?Iz6 ?Bz6 ?Fz6 ?Xz6 ?Nz6 ?Tz6 ?rz6 ?kz6 ?fz6 ?ez6 ?sz6 ?wz6 ?dz6 ?uz6 ?_; (case Iz6 => assumption); (case Bz6 => k_asm); (case Fz6 => k_asm); (case Xz6 => k_asm); (case Nz6 => k_asm); (case Tz6 => k_asm); (case rz6 => assumption); (case kz6 => first | exact fun _ _ e => e | exact Fr.keep (by assumption) | exact fun _ _ e => Fr.keep (by assumption) _ _ (Fr.keep (by assumption) _ _ e)); (case fz6 => exact rfl); (case ez6 => exact rfl); (case sz6 => ((try dsimp only [Mine.T.size] at *); omega)); (case wz6 => first | assumption | exact And.left (by assumption) | exact And.right (by assumption)); (case dz6 => ((try dsimp only [Mine.T.size] at *); (try dsimp only [depth_deeper, Mine.top]); (first | exact Mine.rm2 (by assumption) rfl | exact Mine.rm_tree (by assumption) | exact Mine.rm_ord (by assumption) (Nat.succ_le_succ (Nat.le_add_right _ _)) | exact Mine.rm_ord (by assumption) (Nat.succ_le_succ (Nat.le_add_left _ _)) | exact Mine.rm_ord (by assumption) (Nat.le_refl _) | omega))); (case uz6 => ((try dsimp only [Mine.T.size] at *); (try dsimp only [units_deeper, units_in1, Mine.top]); (first | exact Mine.rm2 (by assumption) rfl | exact Mine.rm_treeu (by assumption) | exact Mine.rm_ordu (by assumption) (Nat.succ_le_succ (Nat.le_add_right _ _)) | exact Mine.rm_ordu (by assumption) (Nat.succ_le_succ (Nat.le_add_left _ _)) | exact Mine.rm_ordu (by assumption) (Nat.le_refl _) | omega)))); intro _ _ _ _ _ _ _ _ _ _ _ _ _; (try k_sweep))
  k_with "call ref" => (k_here; (with_reducible show wpAny _ _ (PySem.call (Value.ref 303) _) _ _ _); k_dflt (refine' Mine.fs_call0 (mo := 2) ?Iz7 ?Bz7 ?Fz7 ?Xz7 ?Nz7 ?Tz7 ?rz7 ?kz7 ?fz7 ?ez7 ?dz7 ?uz7 ?_; (case Iz7 => assumption); (case Bz7 => k_asm); (case Fz7 => k_asm); (case Xz7 => k_asm); (case Nz7 => k_asm); (case Tz7 => k_asm); (case rz7 => assumption); (case kz7 => first | exact fun _ _ e => e | exact Fr.keep (by assumption) | exact fun _ _ e => Fr.keep (by assumption) _ _ (Fr.keep (by assumption) _ _ e)); (case fz7 => exact rfl); (case ez7 => exact rfl); (case dz7 => ((try dsimp only [Mine.T.size] at *); (try dsimp only [depth_deeper, Mine.top]); (first | exact Mine.rm2 (by assumption) rfl | exact Mine.rm_tree (by assumption) | exact Mine.rm_ord (by assumption) (Nat.succ_le_succ (Nat.le_add_right _ _)) | exact Mine.rm_ord (by assumption) (Nat.succ_le_succ (Nat.le_add_left _ _)) | exact Mine.rm_ord (by assumption) (Nat.le_refl _) | omega))); (case uz7 => ((try dsimp only [Mine.T.size] at *); (try dsimp only [units_deeper, units_in1, Mine.top]); (first | exact Mine.rm2 (by assumption) rfl | exact Mine.rm_treeu (by assumption) | exact Mine.rm_ordu (by assumption) (Nat.succ_le_succ (Nat.le_add_right _ _)) | exact Mine.rm_ordu (by assumption) (Nat.succ_le_succ (Nat.le_add_left _ _)) | exact Mine.rm_ordu (by assumption) (Nat.le_refl _) | omega)))); intro _ _ _ _ _ _ _ _ _ _ _ _ _; (try k_sweep))
  k_with "call ref" => (k_here; (with_reducible show wpAny _ _ (PySem.call (Value.ref 338) _) _ _ _); k_dflt (refine' Mine.fs_pure ?Iz8 ?Bz8 ?Fz8 ?Xz8 ?Nz8 ?Tz8 ?rz8 ?fz8 ?ez8 ?dz8 ?uz8 ?_; (case Iz8 => assumption); (case Bz8 => k_asm); (case Fz8 => k_asm); (case Xz8 => k_asm); (case Nz8 => k_asm); (case Tz8 => k_asm); (case rz8 => exact fun g' hk _ => Mine.RO.mono (by assumption) hk); (case fz8 => exact rfl); (case ez8 => exact rfl); (case dz8 => ((try dsimp only [depth_deeper, Mine.top]); (first | exact Mine.rm2 (by assumption) rfl | exact Mine.rm_tree (by assumption) | exact Mine.rm_ord (by assumption) (Nat.succ_le_succ (Nat.le_add_right _ _)) | exact Mine.rm_ord (by assumption) (Nat.succ_le_succ (Nat.le_add_left _ _)) | exact Mine.rm_ord (by assumption) (Nat.le_refl _) | omega))); (case uz8 => ((try dsimp only [units_deeper, units_in1, Mine.top]); (first | exact Mine.rm2 (by assumption) rfl | exact Mine.rm_treeu (by assumption) | exact Mine.rm_ordu (by assumption) (Nat.succ_le_succ (Nat.le_add_right _ _)) | exact Mine.rm_ordu (by assumption) (Nat.succ_le_succ (Nat.le_add_left _ _)) | exact Mine.rm_ordu (by assumption) (Nat.le_refl _) | omega)))); intro _ _ _ _ _ eqzz; (obtain ⟨tqzz, eqzz⟩ := eqzz; subst eqzz); (try (revert tqzz; intro _)); (try k_sweep))
  k_with "call builtin:isinstance" => (k_here; with_reducible refine' Mine.isi_tup ?Tz9 ?_; (case Tz9 => k_dflt is_tup); intro _)
  k_with "execs cons" => (k_here; first | (with_reducible refine' Mine.skip_if0 ?Fz10 ?vz10 ?bz10 ?_ ?x1z10 ?x2z10 ?x3z10; (case Fz10 => k_asm); (case vz10 => k_dflt exact rfl); (case bz10 => k_dflt decide); (case x1z10 => k_dflt exact rfl); (case x2z10 => k_dflt exact rfl); (case x3z10 => k_dflt decide); intro _) | (with_reducible refine' Mine.skip_or0 ?Fz10 ?vz10 ?bz10 ?b2z10 ?_ ?x1z10 ?x2z10 ?x3z10; (case Fz10 => k_asm); (case vz10 => k_dflt exact rfl); (case bz10 => k_dflt decide); (case b2z10 => k_dflt decide); (case x1z10 => k_dflt exact rfl); (case x2z10 => k_dflt exact rfl); (case x3z10 => k_dflt decide); intro _) | (with_reducible refine' Mine.take_if0 ?Fz10 ?vz10 ?bz10 ?_ ?x1z10 ?x2z10 ?x3z10; (case Fz10 => k_asm); (case vz10 => k_dflt exact rfl); (case bz10 => k_dflt decide); (case x1z10 => k_dflt exact rfl); (case x2z10 => k_dflt exact rfl); (case x3z10 => k_dflt decide); intro _))
  k_with "execs cons" => (k_here; first | (with_reducible refine' Mine.skip_in0 ?Fz11 ?Nz11 ?vz11 ?sz11 ?nz11 ?bz11 ?mz11 ?_ ?x1z11 ?x2z11 ?x3z11; (case Fz11 => k_asm); (case Nz11 => k_asm); (case vz11 => k_dflt exact rfl); (case sz11 => k_dflt exact rfl); (case nz11 => k_dflt decide); (case bz11 => k_dflt decide); (case mz11 => k_dflt exact rfl); (case x1z11 => k_dflt exact rfl); (case x2z11 => k_dflt exact rfl); (case x3z11 => k_dflt decide); intro _ _ _ _; (try k_sweep)) | (with_reducible refine' Mine.take_in0 ?Fz11 ?Nz11 ?vz11 ?sz11 ?nz11 ?bz11 ?mz11 ?_ ?x1z11 ?x2z11 ?x3z11; (case Fz11 => k_asm); (case Nz11 => k_asm); (case vz11 => k_dflt exact rfl); (case sz11 => k_dflt exact rfl); (case nz11 => k_dflt decide); (case bz11 => k_dflt decide); (case mz11 => k_dflt exact rfl); (case x1z11 => k_dflt exact rfl); (case x2z11 => k_dflt exact rfl); (case x3z11 => k_dflt decide); intro _ _ _ _; (try k_sweep)))
  k_with "eval Subscript Name Constant" => (k_here; with_reducible refine' Mine.item_tup0 ?Fz12 ?vz12 ?tz12 ?loz12 ?hiz12 ?jz12 ?uz12 ?_ ?x1z12 ?x2z12 ?x3z12; (case Fz12 => k_asm); (case vz12 => k_dflt exact rfl); (case tz12 => k_dflt is_tup); (case loz12 => k_dflt decide); (case hiz12 => k_dflt decide); (case jz12 => k_dflt exact rfl); (case uz12 => k_dflt exact rfl); (case x1z12 => k_dflt exact rfl); (case x2z12 => k_dflt exact rfl); (case x3z12 => k_dflt decide); intro _)
  refine' Mine.fs_plain (binds := [(Str.ofString "self", .ref x), (Str.ofString "replies", .ref f), (Str.ofString "labels", lab)]) ?ho ?hcd ?hb ?hl ?h ?c2 ?c3 ?c4 ?c5
  case ho => (intro P; k_dflt k_is)
  case hcd => (intro P; k_dflt k_is)
  case hb => (intro s; exact BindsTo.of_eq rfl)
  case hl => exact locs rfl
  case c5 => decide
  case c2 => exact rfl
  case c3 => exact rfl
  case c4 => exact rfl
  case h =>
  intro dp un gd outer base g s p loose mean mg mb L' h' tk B' X' T' F' N' pre hd hu
  try dsimp only
  (with_reducible show wpAny _ _ _ _ _ _); k_fold; k_steps
  rename_i F9 N9
  (show Done _ _ _ _ _)
  exact ⟨_, _, _, F9, news_rot3 N9, ⟨rfl, _, _, _, _, _, rfl⟩, rfl⟩
section
variable {w : World} {A : Around} {base h₀ : Heap} {outer : List Env} {L : Addr} {m : Str → Option Value} {env : Env} {news : List (Addr × Obj)} {hp : Heap} {gens : Array GenState} {dr : Drawn} {tk : Nat} {os : OsState} {p : Program} {loose : List Str} {mean : ExcName → Option Value} {mg mb : Str → Option Value}
  {A₀ : Around} {dp un : Nat} {gd : Option (List Code)} {Q E : Value → Shared → Prop}
theorem Mine.new_work (B : Below A₀ base outer h₀) (F : Fr h₀ L hp m) (X : (Mine.hd.heap_39 w.params).In h₀) (N : News h₀ L hp news) (T : Top p loose mean mg mb h₀)
    (hf : env.frame = some L) (hke : env.scope.kind = .function) (hd : dp + 5 < 900) (hu : un + 20 < 3000)
    (ret : ∀ (V : Wk) S h' tk', Fr h₀ L h' m → News h₀ L h' (V.led w S #[] #[] 0 0 ++ news) → NeA V.W V.D → NeA V.W S → NeA V.D S → NeA V.G V.W → NeA V.G V.D → NeA V.G S → (∀ q ∈ news, NeA q.1 V.W ∧ NeA q.1 V.D ∧ NeA q.1 S ∧ NeA q.1 V.G) → Q (.ref V.W) ⟨h', gens, dr, tk', os⟩) :
    wpAny (model pw w) (top dp un gd (env :: outer)) (call (.ref 103) []) Q E ⟨hp, gens, dr, tk, os⟩ := by
  refine call_cls (s := ⟨hp, gens, dr, tk, os⟩) F X N (by k_is) (by k_is) (by k_is) (fun x dx h' F' N' l1 l2 => ?_)
  refine code_fs (R := news) rfl (winit_fs x dx (NeA.gt l2)) B F' X N' T hf hke (fun q hq => ?_) (fun q hq => ⟨.tail _ (.tail _ hq), fun r hr => ?_⟩) ?_ ?_ (fun _ _ _ => trivial) ?_
  · rcases List.mem_cons.mp hq with h | hq
    · rw [h]; exact .head _
    · rw [List.mem_singleton.mp hq]; exact .tail _ (.head _)
  · have := l1 q hq
    rcases List.mem_cons.mp hr with h | hr
    · rw [h]; exact Nat.ne_of_lt (Nat.lt_trans this l2)
    · rw [List.mem_singleton.mp hr]; exact Nat.ne_of_lt this
  · show dp + 1 + 1 < 900; omega
  · show un + 1 + 5 * 1 < 3000; omega
  · intro r h'' tk' P' F'' N'' ap hp
    obtain ⟨rfl, V, S, rfl, rfl, rfl, a, b, c, d, e⟩ := hp
    refine ⟨rfl, ret V S h'' tk' F'' N'' (NeA.gt l2) a b c d e fun q hq => ⟨?_, ?_, ?_, ?_⟩⟩
    · exact (ap _ (.head _) q hq).symm
    · exact (ap _ (.tail _ (.head _)) q hq).symm
    · exact (ap _ (.tail _ (.tail _ (.head _))) q hq).symm
    · exact (ap _ (.tail _ (.tail _ (.tail _ (.head _)))) q hq).symm
theorem Mine.new_hooks {f : Addr} {lab : Value} (B : Below A₀ base outer h₀) (F : Fr h₀ L hp m) (X : (Mine.hd.heap_39 w.params).In h₀) (N : News h₀ L hp news) (T : Top p loose mean mg mb h₀)
    (hf : env.frame = some L) (hke : env.scope.kind = .function) (hd : dp + 5 < 900) (hu : un + 20 < 3000)
    (ret : ∀ x d nts q1 q2 q3 h' tk', Fr h₀ L h' m → News h₀ L h' ((x, instObj 250 d) :: (d, hdict w f lab nts q1 q2 q3) :: news) → NeA x d → (∀ q ∈ news, NeA q.1 x ∧ NeA q.1 d) → Q (.ref x) ⟨h', gens, dr, tk', os⟩) :
    wpAny (model pw w) (top dp un gd (env :: outer)) (call (.ref 250) [.ref f, lab]) Q E ⟨hp, gens, dr, tk, os⟩ := by
  refine call_cls (s := ⟨hp, gens, dr, tk, os⟩) F X N (by k_is) (by k_is) (by k_is) (fun x dx h' F' N' l1 l2 => ?_)
  refine code_fs (R := news) rfl (hinit_fs x dx f lab (NeA.gt l2)) B F' X N' T hf hke (fun q hq => ?_) (fun q hq => ⟨.tail _ (.tail _ hq), fun r hr => ?_⟩) ?_ ?_ (fun _ _ _ => trivial) ?_
  · rcases List.mem_cons.mp hq with h | hq
    · rw [h]; exact .head _
    · rw [List.mem_singleton.mp hq]; exact .tail _ (.head _)
  · have := l1 q hq
    rcases List.mem_cons.mp hr with h | hr
    · rw [h]; exact Nat.ne_of_lt (Nat.lt_trans this l2)
    · rw [List.mem_singleton.mp hr]; exact Nat.ne_of_lt this
  · show dp + 1 + 1 < 900; omega
  · show un + 1 + 5 * 1 < 3000; omega
  · intro r h'' tk' P' F'' N'' ap hp
    obtain ⟨rfl, nt, nts, q1, q2, q3, rfl⟩ := hp
    refine ⟨rfl, ret x dx nts q1 q2 q3 h'' tk' F'' (fun q hq => N'' q ?_) (NeA.gt l2) fun q hq => ⟨?_, ?_⟩⟩
    · simp only [List.mem_cons, List.cons_append, List.nil_append] at hq ⊢
      rcases hq with h | h | h <;> simp only [h, true_or, or_true]
    · exact (ap _ (.head _) q hq).symm
    · exact (ap _ (.tail _ (.head _)) q hq).symm
end
namespace Mine
/-- a value, the negations in it, a bound of its size -/
inductive NV (G : Addr → Obj → Prop) : Value → Nat → Nat → Prop
  | tree {v t k} : RT G v t → t.size ≤ k → NV G v t.negs k
  | str {x t k} : NV G (.str x t) 0 k
  | int {x t k} : NV G (.int x t) 0 k
theorem NV.mono {G G' : Addr → Obj → Prop} {v : Value} {n k : Nat} (h : NV G v n k) (x : ∀ a o, G a o → G' a o) : NV G' v n k := by
  cases h with
  | tree h hs => exact .tree (h.mono x) hs
  | str => exact .str
  | int => exact .int
theorem NV.le {G : Addr → Obj → Prop} {v : Value} {n k k' : Nat} (h : NV G v n k) (x : k ≤ k') : NV G v n k' := by
  cases h with
  | tree h hs => exact .tree h (Nat.le_trans hs x)
  | str => exact .str
  | int => exact .int
theorem T.size_pos (t : T) : 0 < t.size := by cases t <;> simp [T.size]
noncomputable def NegIH (w : World) (n : Nat) : Prop := ∀ k v c, k < n → FS w 362 (1 + k) [v] (fun g => NV (inH g) v c k) [] (fun r _ => ∃ t, r = .int (c : Nat) t)
noncomputable def T.parts : T → List Nat
  | .name _ => [0, 0] | .text => [0, 0] | .whole => [0, 0] | .join a b => [0, a.negs, b.negs] | .plus a b => [0, 0, a.negs, b.negs] | .bar a b => [0, 0, a.negs, b.negs] | .dot a b => [0, 0, a.negs, b.negs]
  | .neg a => [0, 0, a.negs] | .ques a => [0, 0, a.negs] | .minus a => [0, 0, a.negs] | .doll a => [0, 0, a.negs] | .at a => [0, 0, a.negs] | .item a r => [0, a.negs, r.negs] | .call r => [0, 0, r.negs]
  | .r0 => [] | .r1 a => [a.negs] | .r2 a b => [a.negs, b.negs]
noncomputable def T.own : T → Nat | .neg _ => 1 | _ => 0
theorem negs_int (t : T) (o : Int) (h : o = (t.own : Int)) : o + (t.parts.map Int.ofNat).sum = (t.negs : Int) := by subst h; cases t <;> simp [T.negs, T.own, T.parts] <;> omega
theorem negs_parts (t : T) : t.negs = t.own + t.parts.sum := by cases t <;> simp [T.negs, T.own, T.parts]
section
variable {w : World} {base h₀ : Heap} {outer : List Env} {L : Addr} {m : Str → Option Value} {env : Env} {gs : Array GenState} {dr : Drawn} {os : OsState} {p : Program} {loose : List Str} {mean : ExcName → Option Value} {mg mb : Str → Option Value}
  {A₀ : Around} {dp un n : Nat} {gd : Option (List Code)} {scope : Scope} {cl : List (Str × Addr)} {p1 p2 p3 : Pos}
theorem intsAre_snoc {vs : List Value} {ns : List Int} {c : Int} {t : Tok} (h : IntsAre vs ns) : IntsAre (vs ++ [.int c t]) (ns ++ [c]) := by
  induction h with
  | nil => exact .cons c t .nil
  | cons n u _ i => exact .cons n u i
theorem neg_rest {parts : List Nat} {xs : Array Value} {k₀ : Nat} {Fin : List Value → List (Addr × Obj) → Prop} (B : Below A₀ base outer h₀) (X : (Mine.hd.heap_39 w.params).In h₀) (T : Top p loose mean mg mb h₀) (hf : env.frame = some L) (hke : env.scope.kind = .function) (hg : env.globals = mainGlobals)
    (hlen : xs.size = parts.length) (hit : ∀ (i : Nat) u, xs[i]? = some u → ∃ c, parts[i]? = some c ∧ NV (inH h₀) u c k₀) (I : ∀ v c, FS w 362 (1 + k₀) [v] (fun g => NV (inH g) v c k₀) [] (fun r _ => ∃ t, r = .int (c : Nat) t))
    (hfn : nsIn (Mine.hd.heap_39 w.params) mainGlobals (Str.ofString "_law_negations") = some (some (.ref 362))) (hkeep : keepIn (Mine.hd.heap_39 w.params) (.ref 362) = true)
    (hk : scope.kind = .function) (hx : ∀ C, (compEnvC scope cl C env).kindOf (Str.ofString "part") = some .local) (hy : ∀ C, (compEnvC scope cl C env).kindOf (Str.ofString "_law_negations") = some .globalImplicit)
    (hd : dp + (1 + k₀) < 900) (hu : un + 5 * (1 + k₀) < 3000) (hFin : ∀ ys nw, IntsAre ys (parts.map Int.ofNat) → Fin ys nw) {s : Shared} (es : s = ⟨s.heap, gs, dr, s.toks, os⟩) :
    ∀ (k i : Nat) ys nw, i + k = xs.size → IntsAre ys ((parts.take i).map Int.ofNat) →
      LCg.CompRest pw w (top dp un gd (env :: outer)) h₀ L m env (.Call (.Name (Str.ofString "_law_negations") p1) [.Name (Str.ofString "part") p2] [] p3) (Str.ofString "part") scope cl s (fun _ => True) (fun i v => xs[i]? = some v) Fin k i ys nw := by
  intro k
  induction k with
  | zero =>
    intro i ys nw hi hys
    have : parts.take i = parts := List.take_of_length_le (by omega)
    rw [this] at hys
    exact hFin ys nw hys
  | succ k ih =>
    intro i ys nw hi hys v Ia oI C oC D m₂ h tk E' hP ho hv F N off ne
    obtain ⟨c, hc, hnv⟩ := hit i v hP
    have e1 : ({ s with heap := h, toks := tk } : Shared) = ⟨h, gs, dr, tk, os⟩ := by rw [es]
    rw [e1]
    refine call_named F X T hfn hkeep hg hk (hy C) (by decide) rfl rfl (spliced_more (nameB N (.tail _ (.head _)) ho hv (spliced_none ⟨X.keeps F.keep, ?_⟩) hk (hx C) (by decide)))
    refine fs_pure (I v c) B F X N T (fun g' hk' _ => hnv.mono fun a o e => hk' a o e) hf hke hd hu ?_
    rintro r h' tk' F' N' ⟨t, rfl⟩
    refine ⟨h', tk', nw, rfl, F', N', off, trivial, ih (i + 1) _ nw (by omega) ?_⟩
    rw [List.take_add_one, hc, List.map_append]
    exact intsAre_snoc hys
theorem neg_comp {parts : List Nat} {xs : Array Value} {k₀ : Nat} {ax : Addr} {hp : Heap} {tk : Nat} {news : List (Addr × Obj)} {px p4 pos : Pos} {Q E : Value → Shared → Prop} (B : Below A₀ base outer h₀) (X : (Mine.hd.heap_39 w.params).In h₀) (T : Top p loose mean mg mb h₀) (F : Fr h₀ L hp m) (N : News h₀ L hp news)
    (hx' : h₀.IsTuple ax xs) (hlen : xs.size = parts.length) (hsz : parts.length ≤ 4) (hit : ∀ (i : Nat) u, xs[i]? = some u → ∃ c, parts[i]? = some c ∧ NV (inH h₀) u c k₀) (I : NegIH w (k₀ + 1)) (hv : m (Str.ofString "tree") = some (.ref ax))
    (hf : env.frame = some L) (hke : env.scope.kind = .function) (hg : env.globals = mainGlobals)
    (hfn : nsIn (Mine.hd.heap_39 w.params) mainGlobals (Str.ofString "_law_negations") = some (some (.ref 362))) (hkeep : keepIn (Mine.hd.heap_39 w.params) (.ref 362) = true)
    (hclos : closureFor scope env = pure cl) (hcell : ∀ y ∈ scope.names, y.2 ≠ .cell) (hk : scope.kind = .function)
    (hnames : ∀ y ∈ scope.names, y.2 = .local → scope.names.lookup y.1 = some .local) (hx1 : scope.names.lookup (Str.ofString "part") = some .local)
    (hx : ∀ C, (compEnvC scope cl C env).kindOf (Str.ofString "part") = some .local) (hy : ∀ C, (compEnvC scope cl C env).kindOf (Str.ofString "_law_negations") = some .globalImplicit)
    (hkt : env.kindOf (Str.ofString "tree") = some .local) (hsf : ∀ x, foldedSetIterable (.Name (Str.ofString "tree") p4) env x = pure x) (hel : env.locals = L)
    (hd : dp + (1 + k₀) < 900) (hu : un + 5 * (1 + k₀) < 3000)
    (ret : ∀ ys nw D h tk, IntsAre ys (parts.map Int.ofNat) → Fr h₀ L h m → News h₀ L h ((D, LCg.lst ys) :: nw) → LCg.Off1 D nw → Q (.ref D) ⟨h, gs, dr, tk, os⟩) :
    wpAny (model pw w) (top dp un gd (env :: outer)) (eval (.ListComp (.Call (.Name (Str.ofString "_law_negations") p1) [.Name (Str.ofString "part") p2] [] p3) [⟨.Name (Str.ofString "part") px, .Name (Str.ofString "tree") p4, [], 0⟩] scope pos) env) Q E ⟨hp, gs, dr, tk, os⟩ := by
  refine listcomp_tup hx' (by rw [sizeLine_eq]; omega) rfl F N (fun Q' q => ?_) hclos hcell hk hnames hx1 (fun h₁ tk₁ => ?_) hsf
  · exact wpAny_Name (wpAny_loadName_local (s := ⟨hp, gs, dr, tk, os⟩) hke hkt (hel ▸ F.ns) hv (q _)) (by decide)
  · exact neg_rest B X T hf hke hg hlen hit (fun v c => I k₀ v c (Nat.lt_succ_self _)) hfn hkeep hk hx hy hd hu (fun ys nw hi D h tk F' N' o => ret ys nw D h tk hi F' N' o) rfl xs.size 0 [] news (by omega) .nil
end
theorem eq_tup_str {prog : Program} {w : World} {A : Around} {E : Value → Shared → Prop} {hp : Heap} {gs : Array GenState} {dr : Drawn} {tk : Nat} {os : OsState} {a : Addr} {xs : Array Value} {b : Str} {u : Tok} {Q : Value → Shared → Prop} (T : IsTup hp a xs) (hu : A.units < 9900) (h : Q (.bool false) ⟨hp, gs, dr, tk, os⟩) :
    wpAny (model prog w) A (compareOp .Eq (.ref a) (.str b u)) Q E ⟨hp, gs, dr, tk, os⟩ := PySem.SeqAt.RcAt.tuple_str (s := ⟨hp, gs, dr, tk, os⟩) b u T hu prog w E Q h
theorem len_of {g : Heap} {a : Addr} {l : List Value} (_ : IsTup g a l.toArray) : l.toArray.size = l.length := by simp
/-- how a tuple of a tree begins, and whether it is a negation -/
inductive Sh (G : Addr → Obj → Prop) : List Value → Nat → Prop
  | nil : Sh G [] 0
  | one {u} : Sh G [u] 0
  | two {b l u} : G b (tup l) → Sh G [.ref b, u] 0
  | word {z t v l} : (z == Str.ofString "unary") = false → l.length ≤ 2 → Sh G (.str z t :: v :: l) 0
  | tilde {t t2 u} : Sh G [str "unary" t, str "~" t2, u] 1
  | un {t op t2 u} : (op == Str.ofString "~") = false → Sh G [str "unary" t, .str op t2, u] 0
theorem rt_tup {G : Addr → Obj → Prop} {v : Value} {t : T} (h : RT G v t) : ∃ a l, v = .ref a ∧ G a (tup l) := by
  cases h <;> exact ⟨_, _, rfl, by assumption⟩
theorem tup_of {G : Addr → Obj → Prop} {v : Value} {t : T} (h : RT G v t) : ∃ a l ow, v = .ref a ∧ G a (tup l) ∧ l.length = t.parts.length ∧ l.length ≤ 4 ∧ (∀ (i : Nat) u, l[i]? = some u → ∃ c, t.parts[i]? = some c ∧ NV G u c (t.size - 1)) ∧ Sh G l ow ∧ ow = t.own := by
  cases h
  all_goals (refine ⟨_, _, _, rfl, by assumption, rfl, by simp only [List.length_cons, List.length_nil]; omega, ?_, (by first | exact .nil | exact .one | exact .tilde | exact .un (by decide) | exact .word (by decide) (by simp) | (rename_i h1 h2; obtain ⟨b, l, rfl, hb⟩ := rt_tup h1; exact .two hb)), rfl⟩; intro i u e)
  all_goals (rcases i with _ | _ | _ | _ | i <;> simp only [List.getElem?_cons_zero, List.getElem?_cons_succ, List.getElem?_nil, reduceCtorEq, Option.some.injEq] at e)
  all_goals (subst e; refine ⟨_, rfl, ?_⟩; first | exact .str | exact .int | exact .tree (by assumption) (by simp only [T.size]; omega))
section
variable {prog : Program} {w : World} {A : Around} {E : Value → Shared → Prop} {hp : Heap} {gs : Array GenState} {dr : Drawn} {tk : Nat} {os : OsState} {h₀ : Heap} {L a D : Addr} {m : Str → Option Value} {cn : Str} {cs : Scope} {ccd : Value} {x c v : Str} {t : Tok} {p1 p2 p3 p4 p5 : Pos} {kk k2 : Nat}
theorem sub_ne0 {ad : Addr} {l : List Value} {whole : Sem Value} {Q : Bool → Shared → Prop} (F : Fr h₀ L hp m) (hv : m x = some (.ref ad)) (ht : IsTup hp ad (.str v t :: l).toArray) (hb : (v == c) = false) (h : ∀ tk', Q false ⟨hp, gs, dr, tk', os⟩)
    (hk : cs.kind = .function := by rfl) (hx : (envOf cn cs L a ccd).kindOf x = some .local := by rfl) (hd : (x == ("__debug__" : Str)) = false := by decide) :
    wpAny (model prog w) A (isTrue (.Compare (.Subscript (.Name x p1) (.Constant (.int 0) kk p2) p3) [.Eq] [.Constant (.str c) k2 p4] p5) (envOf cn cs L a ccd) whole) Q E ⟨hp, gs, dr, tk, os⟩ := by
  refine wpAny_isTrue_Compare1 (item_tup0 (j := 0) F hv ht (by decide) (by decide) ?_ rfl (fun tk' => Calls.Constant_str (eq_str (wpAny_truthy_bool ?_))) hk hx hd)
  · unfold seqIndex?; simp
  · rw [hb]; exact h _
end
end Mine
set_option maxHeartbeats 40000000 in
theorem Mine.neg_step {w : World} (k : Nat) (v : Value) (c : Nat) (I : NegIH w k) : FS w 362 (1 + k) [v] (fun g => NV (inH g) v c k) [] (fun r _ => ∃ t, r = .int (c : Nat) t) := by
  w_top off
  k_with_none
  k_with "callWith ref" => (k_here; k_dflt (first | (refine' callWith_K ?k1z1 ?k2z1 ?_; (case k1z1 => k_asm); (case k2z1 => k_is); k_whole) | (refine' callWith_K0 ?k1z1 ?k2z1 ?_; (case k1z1 => k_in); (case k2z1 => k_is); k_whole)))
  k_with "binaryOp Add ref ref" => (k_here; with_reducible refine' Mine.add_mem ?Fz2 ?Nz2 ?az2 ?bz2 ?zz2 ?_; (case Fz2 => k_asm); (case Nz2 => k_asm); (case az2 => k_dflt k_mem); (case bz2 => k_dflt k_mem); (case zz2 => ((try dsimp only [Mine.T.size] at *); (try simp only [Array.size_append, List.size_toArray, List.length_cons, List.length_nil]); omega)); intro _ _ _ _ l1zz; (try k_lt l1zz); (try (revert l1zz; intro _)); (try k_sweep))
  k_with "call builtin:len" => (k_here; with_reducible refine' Mine.len_mem ?Nz3 ?mz3 ?ez3 ?zz3 ?_; (case Nz3 => k_asm); (case mz3 => k_dflt k_mem); (case ez3 => first | with_reducible assumption | exact rfl); (case zz3 => ((try dsimp only [Mine.T.size] at *); (try simp only [Array.size_push]); omega)); intro _ _)
  k_with "call builtin:len" => (k_here; with_reducible refine' Mine.len_tupN ?Tz4 ?ez4 ?zz4 ?_; (case Tz4 => k_dflt is_tup); (case ez4 => first | with_reducible assumption | exact rfl); (case zz4 => first | (k_dflt decide) | ((try dsimp only [Mine.T.size] at *); omega)); intro _ _)
  k_with "call builtin:list.extend" => (k_here; with_reducible refine' Mine.ext_mem ?Fz5 ?Nz5 ?bz5 ?Uz5 ?zz5 ?_; (case Fz5 => k_asm); (case Nz5 => k_asm); (case bz5 => k_dflt k_mem); (case Uz5 => k_dflt k_updF); (case zz5 => ((try dsimp only [Mine.T.size] at *); (try simp only [Array.size_append, List.size_toArray, List.length_cons, List.length_nil]); omega)); intro _ _ _ Nqzz; (try dsimp only at Nqzz); (try (revert Nqzz; intro _)); (try k_sweep))
  k_with "call ref" => (k_here; (with_reducible show wpAny _ _ (PySem.call (Value.ref 296) _) _ _ _); k_dflt (refine' Mine.ord_call ?Iz6 ?Bz6 ?Fz6 ?Xz6 ?Nz6 ?Tz6 ?rz6 ?kz6 ?fz6 ?ez6 ?sz6 ?wz6 ?dz6 ?uz6 ?_; (case Iz6 => assumption); (case Bz6 => k_asm); (case Fz6 => k_asm); (case Xz6 => k_asm); (case Nz6 => k_asm); (case Tz6 => k_asm); (case rz6 => assumption); (case kz6 => first | exact fun _ _ e => e | exact Fr.keep (by assumption) | exact fun _ _ e => Fr.keep (by assumption) _ _ (Fr.keep (by assumption) _ _ e)); (case fz6 => exact rfl); (case ez6 => exact rfl); (case sz6 => ((try dsimp only [Mine.T.size] at *); omega)); (case wz6 => first | assumption | exact And.left (by assumption) | exact And.right (by assumption)); (case dz6 => ((try dsimp only [Mine.T.size] at *); (try dsimp only [depth_deeper, Mine.top]); (first | exact Mine.rm2 (by assumption) rfl | exact Mine.rm_tree (by assumption) | exact Mine.rm_ord (by assumption) (Nat.succ_le_succ (Nat.le_add_right _ _)) | exact Mine.rm_ord (by assumption) (Nat.succ_le_succ (Nat.le_add_left _ _)) | exact Mine.rm_ord (by assumption) (Nat.le_refl _) | omega))); (case uz6 => ((try dsimp only [Mine.T.size] at *); (try dsimp only [units_deeper, units_in1, Mine.top]); (first | exact Mine.rm2 (by assumption) rfl | exact Mine.rm_treeu (by assumption) | exact Mine.rm_ordu (by assumption) (Nat.succ_le_succ (Nat.le_add_right _ _)) | exact Mine.rm_ordu (by assumption) (Nat.succ_le_succ (Nat.le_add_left _ _)) | exact Mine.rm_ordu (by assumption) (Nat.le_refl _) | omega)))); intro _ _ _ _ _ _ _ _ _ _ _ _ _; (try k_sweep))
  k_with "call ref" => (k_here; (with_reducible show wpAny _ _ (PySem.call (Value.ref 303) _) _ _ _); k_dflt (refine' Mine.fs_call0 (mo := 2) ?Iz7 ?Bz7 ?Fz7 ?Xz7 ?Nz7 ?Tz7 ?rz7 ?kz7 ?fz7 ?ez7 ?dz7 ?uz7 ?_; (case Iz7 => assumption); (case Bz7 => k_asm); (case Fz7 => k_asm); (case Xz7 => k_asm); (case Nz7 => k_asm); (case Tz7 => k_asm); (case rz7 => assumption); (case kz7 => first | exact fun _ _ e => e | exact Fr.keep (by assumption) | exact fun _ _ e => Fr.keep (by assumption) _ _ (Fr.keep (by assumption) _ _ e)); (case fz7 => exact rfl); (case ez7 => exact rfl); (case dz7 => ((try dsimp only [Mine.T.size] at *); (try dsimp only [depth_deeper, Mine.top]); (first | exact Mine.rm2 (by assumption) rfl | exact Mine.rm_tree (by assumption) | exact Mine.rm_ord (by assumption) (Nat.succ_le_succ (Nat.le_add_right _ _)) | exact Mine.rm_ord (by assumption) (Nat.succ_le_succ (Nat.le_add_left _ _)) | exact Mine.rm_ord (by assumption) (Nat.le_refl _) | omega))); (case uz7 => ((try dsimp only [Mine.T.size] at *); (try dsimp only [units_deeper, units_in1, Mine.top]); (first | exact Mine.rm2 (by assumption) rfl | exact Mine.rm_treeu (by assumption) | exact Mine.rm_ordu (by assumption) (Nat.succ_le_succ (Nat.le_add_right _ _)) | exact Mine.rm_ordu (by assumption) (Nat.succ_le_succ (Nat.le_add_left _ _)) | exact Mine.rm_ordu (by assumption) (Nat.le_refl _) | omega)))); intro _ _ _ _ _ _ _ _ _ _ _ _ _; (try k_sweep))
  k_with "call ref" => (k_here; (with_reducible show wpAny _ _ (PySem.call (Value.ref 338) _) _ _ _); k_dflt (refine' Mine.fs_pure ?Iz8 ?Bz8 ?Fz8 ?Xz8 ?Nz8 ?Tz8 ?rz8 ?fz8 ?ez8 ?dz8 ?uz8 ?_; (case Iz8 => assumption); (case Bz8 => k_asm); (case Fz8 => k_asm); (case Xz8 => k_asm); (case Nz8 => k_asm); (case Tz8 => k_asm); (case rz8 => exact fun g' hk _ => Mine.RO.mono (by assumption) hk); (case fz8 => exact rfl); (case ez8 => exact rfl); (case dz8 => ((try dsimp only [depth_deeper, Mine.top]); (first | exact Mine.rm2 (by assumption) rfl | exact Mine.rm_tree (by assumption) | exact Mine.rm_ord (by assumption) (Nat.succ_le_succ (Nat.le_add_right _ _)) | exact Mine.rm_ord (by assumption) (Nat.succ_le_succ (Nat.le_add_left _ _)) | exact Mine.rm_ord (by assumption) (Nat.le_refl _) | omega))); (case uz8 => ((try dsimp only [units_deeper, units_in1, Mine.top]); (first | exact Mine.rm2 (by assumption) rfl | exact Mine.rm_treeu (by assumption) | exact Mine.rm_ordu (by assumption) (Nat.succ_le_succ (Nat.le_add_right _ _)) | exact Mine.rm_ordu (by assumption) (Nat.succ_le_succ (Nat.le_add_left _ _)) | exact Mine.rm_ordu (by assumption) (Nat.le_refl _) | omega)))); intro _ _ _ _ _ eqzz; (obtain ⟨tqzz, eqzz⟩ := eqzz; subst eqzz); (try (revert tqzz; intro _)); (try k_sweep))
  k_with "call builtin:isinstance" => (k_here; with_reducible refine' Mine.isi_tup ?Tz9 ?_; (case Tz9 => k_dflt is_tup); intro _)
  k_with "execs cons" => (k_here; first | (with_reducible refine' Mine.skip_if0 ?Fz10 ?vz10 ?bz10 ?_ ?x1z10 ?x2z10 ?x3z10; (case Fz10 => k_asm); (case vz10 => k_dflt exact rfl); (case bz10 => k_dflt decide); (case x1z10 => k_dflt exact rfl); (case x2z10 => k_dflt exact rfl); (case x3z10 => k_dflt decide); intro _) | (with_reducible refine' Mine.skip_or0 ?Fz10 ?vz10 ?bz10 ?b2z10 ?_ ?x1z10 ?x2z10 ?x3z10; (case Fz10 => k_asm); (case vz10 => k_dflt exact rfl); (case bz10 => k_dflt decide); (case b2z10 => k_dflt decide); (case x1z10 => k_dflt exact rfl); (case x2z10 => k_dflt exact rfl); (case x3z10 => k_dflt decide); intro _) | (with_reducible refine' Mine.take_if0 ?Fz10 ?vz10 ?bz10 ?_ ?x1z10 ?x2z10 ?x3z10; (case Fz10 => k_asm); (case vz10 => k_dflt exact rfl); (case bz10 => k_dflt decide); (case x1z10 => k_dflt exact rfl); (case x2z10 => k_dflt exact rfl); (case x3z10 => k_dflt decide); intro _))
  k_with "execs cons" => (k_here; first | (with_reducible refine' Mine.skip_in0 ?Fz11 ?Nz11 ?vz11 ?sz11 ?nz11 ?bz11 ?mz11 ?_ ?x1z11 ?x2z11 ?x3z11; (case Fz11 => k_asm); (case Nz11 => k_asm); (case vz11 => k_dflt exact rfl); (case sz11 => k_dflt exact rfl); (case nz11 => k_dflt decide); (case bz11 => k_dflt decide); (case mz11 => k_dflt exact rfl); (case x1z11 => k_dflt exact rfl); (case x2z11 => k_dflt exact rfl); (case x3z11 => k_dflt decide); intro _ _ _ _; (try k_sweep)) | (with_reducible refine' Mine.take_in0 ?Fz11 ?Nz11 ?vz11 ?sz11 ?nz11 ?bz11 ?mz11 ?_ ?x1z11 ?x2z11 ?x3z11; (case Fz11 => k_asm); (case Nz11 => k_asm); (case vz11 => k_dflt exact rfl); (case sz11 => k_dflt exact rfl); (case nz11 => k_dflt decide); (case bz11 => k_dflt decide); (case mz11 => k_dflt exact rfl); (case x1z11 => k_dflt exact rfl); (case x2z11 => k_dflt exact rfl); (case x3z11 => k_dflt decide); intro _ _ _ _; (try k_sweep)))
  k_with "eval Subscript Name Constant" => (k_here; with_reducible refine' Mine.item_tup0 ?Fz12 ?vz12 ?tz12 ?loz12 ?hiz12 ?jz12 ?uz12 ?_ ?x1z12 ?x2z12 ?x3z12; (case Fz12 => k_asm); (case vz12 => k_dflt exact rfl); (case tz12 => k_dflt is_tup); (case loz12 => k_dflt decide); (case hiz12 => k_dflt decide); (case jz12 => k_dflt exact rfl); (case uz12 => k_dflt exact rfl); (case x1z12 => k_dflt exact rfl); (case x2z12 => k_dflt exact rfl); (case x3z12 => k_dflt decide); intro _)
  k_with "compareOp Eq ref str" => (k_here; with_reducible refine' Mine.eq_tup_str ?Tz50 ?uz50 ?_; (case Tz50 => k_dflt is_tup); (case uz50 => ((try dsimp only [units_deeper, units_in1, Mine.top]); (first | exact Mine.rm2 (by assumption) rfl | exact Mine.rm_treeu (by assumption) | exact Mine.rm_ordu (by assumption) (Nat.succ_le_succ (Nat.le_add_right _ _)) | exact Mine.rm_ordu (by assumption) (Nat.succ_le_succ (Nat.le_add_left _ _)) | exact Mine.rm_ordu (by assumption) (Nat.le_refl _) | omega))))
  k_with "eval ListComp" => (k_here; k_dflt (refine' Mine.neg_comp ?Bz51 ?Xz51 ?Tz51 ?Fz51 ?Nz51 ?hxqqz51 ?hlenz51 ?hszz51 ?hitz51 ?Iz51 ?hvz51 ?hfz51 ?hkez51 ?hgz51 ?hfnz51 ?hkeepz51 ?hclosz51 ?hcellz51 ?hkz51 ?hnamesz51 ?hx1z51 ?hxz51 ?hyz51 ?hktz51 ?hsfz51 ?helz51 ?hdz51 ?huz51 ?_; (case Bz51 => k_asm); (case Xz51 => k_asm); (case Tz51 => k_asm); (case Fz51 => k_asm); (case Nz51 => k_asm); (case hitz51 => assumption); (case hxqqz51 => assumption); (case hlenz51 => assumption); (case hszz51 => assumption); (case Iz51 => assumption); (case hvz51 => exact rfl); (case hfz51 => exact rfl); (case hkez51 => exact rfl); (case hgz51 => exact rfl); (case hfnz51 => k_is); (case hkeepz51 => k_is); (case hclosz51 => exact rfl); (case hcellz51 => decide); (case hkz51 => exact rfl); (case hnamesz51 => decide); (case hx1z51 => exact rfl); (case hxz51 => exact fun _ => rfl); (case hyz51 => exact fun _ => rfl); (case hktz51 => exact rfl); (case hsfz51 => exact fun _ => rfl); (case helz51 => exact rfl); (case hdz51 => ((try dsimp only [depth_deeper, Mine.top]); (first | exact Mine.rm2 (by assumption) rfl | exact Mine.rm_tree (by assumption) | exact Mine.rm_ord (by assumption) (Nat.succ_le_succ (Nat.le_add_right _ _)) | exact Mine.rm_ord (by assumption) (Nat.succ_le_succ (Nat.le_add_left _ _)) | exact Mine.rm_ord (by assumption) (Nat.le_refl _) | omega))); (case huz51 => ((try dsimp only [units_deeper, units_in1, Mine.top]); (first | exact Mine.rm2 (by assumption) rfl | exact Mine.rm_treeu (by assumption) | exact Mine.rm_ordu (by assumption) (Nat.succ_le_succ (Nat.le_add_right _ _)) | exact Mine.rm_ordu (by assumption) (Nat.succ_le_succ (Nat.le_add_left _ _)) | exact Mine.rm_ordu (by assumption) (Nat.le_refl _) | omega)))); intro _ _ _ _ _ _ _ _ _)
  k_with "isTrue Compare" => (k_here; k_dflt (refine' Mine.sub_ne0 ?Fz52 ?vz52 ?tz52 ?bz52 ?_ ?x1z52 ?x2z52 ?x3z52; (case Fz52 => k_asm); (case vz52 => exact rfl); (case tz52 => is_tup); (case bz52 => assumption); (case x1z52 => exact rfl); (case x2z52 => exact rfl); (case x3z52 => decide)); intro _)
  refine' Mine.fs_plain (binds := [(Str.ofString "tree", v)]) ?ho ?hcd ?hb ?hl ?h ?c2 ?c3 ?c4 ?c5
  case ho => (intro P; k_dflt k_is)
  case hcd => (intro P; k_dflt k_is)
  case hb => (intro s; exact BindsTo.of_eq rfl)
  case hl => exact locs rfl
  case c5 => decide
  case c2 => exact rfl
  case c3 => exact rfl
  case c4 => exact rfl
  case h =>
  intro dp un gd outer base g s p loose mean mg mb L' h' tk B' X' T' F' N' pre hd hu
  try dsimp only
  cases pre
  case str => (with_reducible show wpAny _ _ _ _ _ _); k_fold; k_steps; (show Done _ _ _ _ _); exact ⟨_, _, _, (by k_asm), (by k_asm), ⟨_, rfl⟩, rfl⟩
  case int => (with_reducible show wpAny _ _ _ _ _ _); k_fold; k_steps; (show Done _ _ _ _ _); exact ⟨_, _, _, (by k_asm), (by k_asm), ⟨_, rfl⟩, rfl⟩
  case tree t hr hs =>
    obtain ⟨k₀, rfl⟩ : ∃ k₀, k = k₀ + 1 := ⟨k - 1, by have := t.size_pos; omega⟩
    obtain ⟨ax, l, ow, rfl, hax, hlen', h4', hit', hsh, how⟩ := tup_of hr
    have hit : ∀ (i : Nat) u, l.toArray[i]? = some u → ∃ c, t.parts[i]? = some c ∧ NV (inH g) u c k₀ := fun i u e => by
      obtain ⟨c, h1, h2⟩ := hit' i u (by simpa using e)
      exact ⟨c, h1, h2.le (by omega)⟩
    have hsz : t.parts.length ≤ 4 := hlen' ▸ h4'
    have hlen : l.toArray.size = t.parts.length := by simpa using hlen'
    have hx' : g.IsTuple ax l.toArray := ⟨_, hax, rfl, _, rfl⟩
    have ht := isTup_of hax
    have h3 := len_of ht
    clear hlen' h4' hit' hax hr
    cases hsh
    case two b l2 u hb =>
      have ht2 := isTup_of hb
      simp only [List.length_cons, List.length_nil, Nat.zero_add, Nat.reduceAdd] at h3
      (with_reducible show wpAny _ _ _ _ _ _); k_fold; k_steps
      (show Done _ _ _ _ _); exact ⟨_, _, _, (by k_asm), (by k_asm), ⟨_, congrArg (Value.int · _) (negs_int t 0 (by rw [← how]; rfl))⟩, rfl⟩
    case word z tz v2 l2 hz hl2 =>
      simp only [List.length_cons] at h3
      (with_reducible show wpAny _ _ _ _ _ _); k_fold; k_steps
      all_goals first
        | (exfalso; omega)
        | ((show Done _ _ _ _ _); exact ⟨_, _, _, (by k_asm), (by k_asm), ⟨_, congrArg (Value.int · _) (negs_int t 0 (by rw [← how]; rfl))⟩, rfl⟩)
    case tilde =>
      simp only [List.length_cons, List.length_nil, Nat.zero_add, Nat.reduceAdd] at h3
      (with_reducible show wpAny _ _ _ _ _ _); k_fold; k_steps
      (show Done _ _ _ _ _); exact ⟨_, _, _, (by k_asm), (by k_asm), ⟨_, congrArg (Value.int · _) (negs_int t 1 (by rw [← how]; rfl))⟩, rfl⟩
    case un tu op t2 u hop =>
      simp only [List.length_cons, List.length_nil, Nat.zero_add, Nat.reduceAdd] at h3
      (with_reducible show wpAny _ _ _ _ _ _); k_fold; k_steps
      all_goals first
        | (exfalso; simp_all; done)
        | ((show Done _ _ _ _ _); exact ⟨_, _, _, (by k_asm), (by k_asm), ⟨_, congrArg (Value.int · _) (negs_int t 0 (by rw [← how]; rfl))⟩, rfl⟩)
    all_goals
      (simp only [List.length_cons, List.length_nil, Nat.zero_add, Nat.reduceAdd] at h3
       (with_reducible show wpAny _ _ _ _ _ _); k_fold; k_steps
       (show Done _ _ _ _ _); exact ⟨_, _, _, (by k_asm), (by k_asm), ⟨_, congrArg (Value.int · _) (negs_int t 0 (by rw [← how]; rfl))⟩, rfl⟩)
theorem Mine.neg_ih {w : World} : ∀ n, NegIH w n := by
  intro n
  induction n with
  | zero => intro k v c h; exact absurd h (Nat.not_lt_zero _)
  | succ n ih => intro k v c h; exact neg_step k v c fun k' v' c' h' => ih k' v' c' (by omega)
theorem Mine.neg_fs {w : World} (t : T) (v : Value) : FS w 362 (1 + t.size) [v] (fun g => RT (inH g) v t) [] (fun r _ => ∃ u, r = .int (t.negs : Nat) u) := by
  have h := neg_ih (w := w) (t.size + 1) t.size v t.negs (Nat.lt_succ_self _)
  intro dp un gd outer base g s R rd pre hd hu back
  exact h dp un gd outer base g s R rd (.tree pre (Nat.le_refl _)) hd hu back
namespace Mine
/-- the guards: pairs of a place and a height -/
inductive RGs (G : Addr → Obj → Prop) : List Value → List (Nat × Nat) → Prop
  | nil : RGs G [] []
  | cons {a p h t t' vs gs} : G a (tup [.int (p : Nat) t, .int (h : Nat) t']) → RGs G vs gs → RGs G (.ref a :: vs) ((p, h) :: gs)
theorem RGs.length {G : Addr → Obj → Prop} {vs : List Value} {gs : List (Nat × Nat)} (h : RGs G vs gs) : vs.length = gs.length := by induction h with | nil => rfl | cons _ _ i => simp [i]
theorem RGs.mono {G G' : Addr → Obj → Prop} {vs : List Value} {gs : List (Nat × Nat)} (h : RGs G vs gs) (k : ∀ a o, G a o → G' a o) : RGs G' vs gs := by
  induction h with
  | nil => exact .nil
  | cons h _ i => exact .cons (k _ _ h) i
theorem RGs.snoc {G : Addr → Obj → Prop} {vs : List Value} {gs : List (Nat × Nat)} {a : Addr} {p q : Nat} {t t' : Tok} (h : RGs G vs gs) (k : G a (tup [.int (p : Nat) t, .int (q : Nat) t'])) : RGs G (vs ++ [.ref a]) (gs ++ [(p, q)]) := by
  induction h with
  | nil => exact .cons k .nil
  | cons h _ i => exact .cons h i
theorem RGs.dropLast {G : Addr → Obj → Prop} {vs : List Value} {gs : List (Nat × Nat)} (h : RGs G vs gs) : RGs G vs.dropLast gs.dropLast := by
  induction h with
  | nil => exact .nil
  | @cons a p q t t' vs gs h r i =>
    cases r with
    | nil => exact .nil
    | cons h' r' => exact .cons h i
theorem RGs.last {G : Addr → Obj → Prop} {vs : List Value} {gs : List (Nat × Nat)} {p q : Nat} (h : RGs G vs (gs ++ [(p, q)])) : ∃ a t t', vs.getLast? = some (.ref a) ∧ G a (tup [.int (p : Nat) t, .int (q : Nat) t']) ∧ RGs G vs.dropLast gs := by
  have hd := h.dropLast
  rw [List.dropLast_concat] at hd
  generalize e : gs ++ [(p, q)] = l at h
  induction h generalizing gs with
  | nil => exact absurd e (by simp)
  | @cons a p' q' t t' vs l' h r i =>
    cases gs with
    | nil =>
      simp only [List.nil_append, List.cons.injEq] at e
      obtain ⟨e1, e2⟩ := e
      cases e1; subst e2
      cases r
      exact ⟨a, t, t', rfl, h, hd⟩
    | cons g gs' =>
      simp only [List.cons_append, List.cons.injEq] at e
      have hd' := r.dropLast
      rw [← e.2, List.dropLast_concat] at hd'
      obtain ⟨b, u, u', h1, h2, _⟩ := i hd' e.2
      refine ⟨b, u, u', ?_, h2, hd⟩
      cases vs with
      | nil => simp at h1
      | cons y ys => rw [List.getLast?_cons_cons]; exact h1
theorem allLt_mem {d : Addr} : ∀ {l : List (Addr × Obj)}, AllLt d l → ∀ q ∈ l, @LT.lt Nat _ q.1 d
  | [], _, _, h => nomatch h
  | p :: r, ⟨h1, h2⟩, q, h => by
    rcases List.mem_cons.mp h with rfl | h
    · exact h1
    · exact allLt_mem h2 q h
noncomputable def OffX (V : Wk) (K : Hk) (S : Addr) (X : List (Addr × Obj)) : Prop := ∀ q ∈ X, NeA q.1 V.W ∧ NeA q.1 V.D ∧ NeA q.1 S ∧ NeA q.1 V.G ∧ NeA q.1 K.H ∧ NeA q.1 K.HD ∧ NeA q.1 K.al
theorem gset_rg {G : Addr → Obj → Prop} {gs : Array Value} {o : O} {bad : List Int} {σ : M} (h : RGs G gs.toList σ.gs) : RGs G (gset o gs).toList (doO bad o σ).2.gs := by
  have ask : ∀ k, (askM bad σ k).2.gs = σ.gs := fun k => by unfold askM; split <;> rfl
  cases o <;> first | exact h | (show RGs G gs.toList (askM bad σ _).2.gs; rw [ask]; exact h) | skip
  show RGs G gs.pop.toList σ.gs.dropLast
  rw [Array.toList_pop]; exact h.dropLast
theorem gset_size {o : O} {gs : Array Value} : (gset o gs).size ≤ gs.size := by
  cases o <;> first | exact Nat.le_refl _ | (show gs.pop.size ≤ gs.size; rw [Array.size_pop]; exact Nat.sub_le _ _)
theorem doO_len {bad : List Int} {o : O} {σ : M} : (doO bad o σ).2.st.length ≤ σ.st.length + 1 := by
  have ask : ∀ k, (askM bad σ k).2.st.length ≤ σ.st.length + 1 := fun k => by
    unfold askM; split
    · exact Nat.le_trans (List.length_take_le _ _) (by omega)
    · show (List.take _ _ ++ [_]).length ≤ _
      rw [List.length_append, List.length_take, List.length_singleton]; omega
  cases o <;> first | exact ask _ | skip
  · show (σ.st ++ [_]).length ≤ _; simp
  · exact Nat.le_succ _
  · exact Nat.le_succ _
  · exact Nat.le_succ _
  · show (List.take _ _).length ≤ _; rw [List.length_take]; omega
theorem doO_n {bad : List Int} {o : O} {σ : M} : (doO bad o σ).2.n ≤ σ.n + 1 := by
  have ask : ∀ k, (askM bad σ k).2.n ≤ σ.n + 1 := fun k => by unfold askM; split <;> exact Nat.le_refl _
  cases o <;> first | exact ask _ | exact Nat.le_succ _
section
variable {w : World} {A : Around} {base h₀ g₀ : Heap} {outer : List Env} {L : Addr} {m : Str → Option Value} {env : Env} {news X₁ : List (Addr × Obj)} {hp : Heap} {gens : Array GenState} {dr : Drawn} {tk : Nat} {os : OsState} {p : Program} {loose : List Str} {mean : ExcName → Option Value} {mg mb : Str → Option Value}
  {A₀ : Around} {dp un dep : Nat} {gd : Option (List Code)} {Q E : Value → Shared → Prop} {K : Hk} {V : Wk} {S : Addr} {st gs as : Array Value} {ks kg ka : Nat} {o : O} {v : Value} {σ : M}
/-- an order's call in a frame that keeps X besides -/
theorem d_orderX (OK : K.Ok w) (AP : Apart V K S) (hst : RSs st.toList σ.st) (hn : as.size = σ.n) (hnd : need o ≤ st.size) (hsz : st.size < 90000) (hsa : as.size < 90000) (hsg : gs.size < 90000) (hun : o = .unguard → 0 < gs.size) (hc : o.isGuard = false)
    {b : Bool} (hb : (doO K.bad o σ).1 = b) (hX : OffX V K S X₁) (hro : RO (inH h₀) v o) (hpre : ∀ g, (∀ q ∈ X₁, g.get? q.1 = some q.2) → (∀ b o, h₀.get? b = some o → g.get? b = some o) → K.pre g)
    (B : Below A₀ base outer h₀) (F : Fr h₀ L hp m) (X : (Mine.hd.heap_39 w.params).In h₀) (N : News h₀ L hp news) (T : Top p loose mean mg mb h₀) (hm : ∀ q ∈ dled w V K S st gs as ks kg ka ++ X₁, q ∈ news)
    (hf : env.frame = some L) (hke : env.scope.kind = .function) (hd : dp + 5 < 900) (hu : un + 5 * 5 < 3000)
    (ret : ∀ S' st' as' ks' kg' ka' h' tk', Fr h₀ L h' m → News h₀ L h' (dled w V K S' st' (gset o gs) as' ks' kg' ka' ++ X₁) → Apart V K S' → RSs st'.toList (doO K.bad o σ).2.st → as'.size = (doO K.bad o σ).2.n → OffX V K S' X₁ → st'.size ≤ st.size + 1 → as'.size ≤ as.size + 1 → NeA V.W S' → NeA V.D S' → NeA V.G S' → Q (.bool b) ⟨h', gens, dr, tk', os⟩) :
    wpAny (model pw w) (top dp un gd (env :: outer)) (call (.ref 268) [.ref V.W, v, .ref K.H]) Q E ⟨hp, gens, dr, tk, os⟩ := by
  refine call_fs (R := X₁) (order_fs V K OK S AP o v σ st gs as ks kg ka hst hn hnd hsz hsa hsg hun hc) B F X N T hf hke (fun q hq => hm q (List.mem_append_left _ hq)) (fun q hq => ⟨hm q (List.mem_append_right _ hq), fun r hr => ?_⟩) hd hu (fun g' hR' hk' => ⟨hro.mono fun a o e => hk' _ _ e, hpre g' hR' hk'⟩) ?_
  · obtain ⟨h1, h2, h3, h4, h5, h6, h7⟩ := hX q hq
    simp only [dled, List.mem_cons, List.not_mem_nil, or_false] at hr
    rcases hr with rfl | rfl | rfl | rfl | rfl | rfl | rfl
    · exact h1.out
    · exact h2.out
    · exact h3.out
    · exact h4.out
    · exact h5.out
    · exact h6.out
    · exact h7.out
  intro r h' tk' P' F' N' ap _ hp
  obtain ⟨S', st', gs', as', ks', kg', ka', rfl, rfl, AP', h1, h2, rfl⟩ := hp
  rw [hb]
  refine ret S' st' as' ks' kg' ka' h' tk' F' N' AP' h1 h2 (fun q hq => ?_) ?_ ?_ AP'.ws AP'.ds AP'.gs
  rotate_left
  · rw [rss_size h1, rss_size hst]; exact doO_len
  · rw [h2, hn]; exact doO_n
  exact ⟨(ap _ (.head _) q hq).symm, (ap _ (.tail _ (.head _)) q hq).symm, (ap _ (.tail _ (.tail _ (.head _))) q hq).symm, (ap _ (.tail _ (.tail _ (.tail _ (.head _)))) q hq).symm, (ap _ (.tail _ (.tail _ (.tail _ (.tail _ (.head _))))) q hq).symm, (ap _ (.tail _ (.tail _ (.tail _ (.tail _ (.tail _ (.head _)))))) q hq).symm, (ap _ (.tail _ (.tail _ (.tail _ (.tail _ (.tail _ (.tail _ (.head _))))))) q hq).symm⟩
/-- an order's call in a frame that keeps X besides -/
theorem d_order (OK : K.Ok w) (AP : Apart V K S) (hst : RSs st.toList σ.st) (hn : as.size = σ.n) (hnd : need o ≤ st.size) (hsz : st.size < 90000) (hsa : as.size < 90000) (hsg : gs.size < 90000) (hun : o = .unguard → 0 < gs.size) (hc : o.isGuard = false)
    {b : Bool} (hb : (doO K.bad o σ).1 = b) (hX : OffX V K S X₁) (hro : RO (inH h₀) v o) (hpre : K.pre h₀)
    (B : Below A₀ base outer h₀) (F : Fr h₀ L hp m) (X : (Mine.hd.heap_39 w.params).In h₀) (N : News h₀ L hp news) (T : Top p loose mean mg mb h₀) (hm : ∀ q ∈ dled w V K S st gs as ks kg ka ++ X₁, q ∈ news)
    (hf : env.frame = some L) (hke : env.scope.kind = .function) (hd : dp + 5 < 900) (hu : un + 5 * 5 < 3000)
    (ret : ∀ S' st' as' ks' kg' ka' h' tk', Fr h₀ L h' m → News h₀ L h' (dled w V K S' st' (gset o gs) as' ks' kg' ka' ++ X₁) → Apart V K S' → RSs st'.toList (doO K.bad o σ).2.st → as'.size = (doO K.bad o σ).2.n → OffX V K S' X₁ → st'.size ≤ st.size + 1 → as'.size ≤ as.size + 1 → NeA V.W S' → NeA V.D S' → NeA V.G S' → Q (.bool b) ⟨h', gens, dr, tk', os⟩) :
    wpAny (model pw w) (top dp un gd (env :: outer)) (call (.ref 268) [.ref V.W, v, .ref K.H]) Q E ⟨hp, gens, dr, tk, os⟩ :=
  d_orderX OK AP hst hn hnd hsz hsa hsg hun hc hb hX hro (fun g' _ hk' => ⟨fun q hq => hk' _ _ (hpre.1 q hq), hk' _ _ hpre.2⟩) B F X N T hm hf hke hd hu ret
end
/-- the loop's frame -/
abbrev rm (V : Wk) (K : Hk) (ax : Addr) (i : Int) (t : Tok) (o hg : Option Value) : Str → Option Value :=
  fun s => if s = Str.ofString "at" then some (.int i t) else if s = Str.ofString "order" then o else if s = Str.ofString "height" then hg else if s = Str.ofString "work" then some (.ref V.W) else if s = Str.ofString "hooks" then some (.ref K.H) else if s = Str.ofString "orders" then some (.ref ax) else none
theorem rm_intro {V : Wk} {K : Hk} {ax : Addr} {i : Int} {t : Tok} :
    (fun y => if y = Str.ofString "work" then some (Value.ref V.W) else if y = Str.ofString "at" then some (Value.int i t) else List.lookup y [(Str.ofString "orders", Value.ref ax), (Str.ofString "hooks", Value.ref K.H)].reverse) = rm V K ax i t none none := by
  funext y
  by_cases h4 : y = Str.ofString "work"
  · subst h4; rfl
  by_cases h1 : y = Str.ofString "at"
  · subst h1; rfl
  by_cases h2 : y = Str.ofString "order"
  · subst h2; rfl
  by_cases h3 : y = Str.ofString "height"
  · subst h3; rfl
  by_cases h5 : y = Str.ofString "hooks"
  · subst h5; rfl
  by_cases h6 : y = Str.ofString "orders"
  · subst h6; rfl
  simp only [rm, h1, h2, h3, h4, h5, h6, if_false, List.reverse_cons, List.reverse_nil, List.nil_append, List.cons_append, List.lookup_cons, List.lookup_nil, beq_eq_false_iff_ne.mpr h5, beq_eq_false_iff_ne.mpr h6]
theorem apart_of {w : World} {K : Hk} {V : Wk} {S : Addr} {as : Array Value} {ka : Nat} (a1 : NeA V.W V.D) (a2 : NeA V.W S) (a3 : NeA V.D S) (a4 : NeA V.G V.W) (a5 : NeA V.G V.D) (a6 : NeA V.G S)
    (ap : ∀ q ∈ K.led w as ka, NeA q.1 V.W ∧ NeA q.1 V.D ∧ NeA q.1 S ∧ NeA q.1 V.G) : Apart V K S :=
  ⟨a1, a2, a3, a4, a5, a6, (ap _ (.head _)).1, (ap _ (.head _)).2.1, (ap _ (.head _)).2.2.1, (ap _ (.head _)).2.2.2, (ap _ (.tail _ (.head _))).1, (ap _ (.tail _ (.head _))).2.1, (ap _ (.tail _ (.head _))).2.2.1, (ap _ (.tail _ (.head _))).2.2.2,
    (ap _ (.tail _ (.tail _ (.head _)))).1, (ap _ (.tail _ (.tail _ (.head _)))).2.1, (ap _ (.tail _ (.tail _ (.head _)))).2.2.1, (ap _ (.tail _ (.tail _ (.head _)))).2.2.2⟩
theorem rm_at {V : Wk} {K : Hk} {ax : Addr} {i i' : Int} {t t' : Tok} {o o' hg : Option Value} :
    (fun y => if y = Str.ofString "at" then some (Value.int i' t') else if y = Str.ofString "order" then o' else rm V K ax i t o hg y) = rm V K ax i' t' o' hg := by
  funext y
  by_cases h1 : y = Str.ofString "at" <;> by_cases h2 : y = Str.ofString "order" <;> simp only [rm, h1, h2, if_true, if_false] <;> rfl
theorem rm_back {V : Wk} {K : Hk} {ax : Addr} {i i' : Int} {t t' : Tok} {o o' hg hg' : Option Value} :
    (fun y => if y = Str.ofString "height" then hg' else if y = Str.ofString "at" then some (Value.int i' t') else if y = Str.ofString "order" then o' else rm V K ax i t o hg y) = rm V K ax i' t' o' hg' := by
  funext y
  by_cases h1 : y = Str.ofString "at" <;> by_cases h2 : y = Str.ofString "order" <;> by_cases h3 : y = Str.ofString "height" <;> simp only [rm, h1, h2, h3, if_true, if_false] <;> rfl
section
variable {prog : Program} {w : World} {A : Around} {E : Value → Shared → Prop} {hp : Heap} {gs : Array GenState} {dr : Drawn} {tk : Nat} {os : OsState} {h₀ : Heap} {L l : Addr} {m : Str → Option Value} {value slice : PySem.Expr}
theorem item_gnd {xs : Array Value} {i : Nat} {u : Tok} {v : Value} {Q : Value → Shared → Prop} (F : Fr h₀ L hp m) (hl : h₀.IsList l xs) (hv : xs[i]? = some v) (hi : i < 90000) (h : Q v ⟨hp, gs, dr, tk, os⟩)
    (hs : subscripted slice false (.ref l) (.int (i : Nat) u) = operate [.ref l, .int (i : Nat) u] (getItem (.ref l) (.int (i : Nat) u)) := by with_unfolding_all rfl) :
    wpAny (model prog w) A (subscriptTail value slice (.ref l) (.int (i : Nat) u)) Q E ⟨hp, gs, dr, tk, os⟩ :=
  tail_any (s := ⟨hp, gs, dr, tk, os⟩) (F.lst hl).typeIs slot_list_getitem.lookup (wpAny_getItem_list (s := ⟨hp, gs, dr, tk, os⟩) (F.lst hl) (Int.natCast_nonneg i) (by omega) (by simpa using hv) h) hs
end
section
variable {prog : Program} {w : World} {A : Around} {E : Value → Shared → Prop} {hp : Heap} {gs : Array GenState} {dr : Drawn} {tk : Nat} {os : OsState} {h₀ : Heap} {L a D : Addr} {m : Str → Option Value} {cn : Str} {cs : Scope} {ccd : Value} {x c v : Str} {t : Tok} {p1 p2 p3 p4 p5 : Pos} {kk k2 : Nat} {news : List (Addr × Obj)}
theorem sub_ne {ad : Addr} {l : List Value} {whole : Sem Value} {Q : Bool → Shared → Prop} (F : Fr h₀ L hp m) (hv : m x = some (.ref ad)) (ht : IsTup hp ad (.str v t :: l).toArray) (hb : (v == c) = false) (h : ∀ tk', Q false ⟨hp, gs, dr, tk', os⟩)
    (hk : cs.kind = .function := by rfl) (hx : (envOf cn cs L a ccd).kindOf x = some .local := by rfl) (hd : (x == ("__debug__" : Str)) = false := by decide) :
    wpAny (model prog w) A (isTrue (.Compare (.Subscript (.Name x p1) (.Constant (.int 0) kk p2) p3) [.Eq] [.Constant (.str c) k2 p4] p5) (envOf cn cs L a ccd) whole) Q E ⟨hp, gs, dr, tk, os⟩ := by
  refine wpAny_isTrue_Compare1 (item_tup0 (j := 0) F hv ht (by decide) (by decide) ?_ rfl (fun tk' => Calls.Constant_str (eq_str (wpAny_truthy_bool ?_))) hk hx hd)
  · unfold seqIndex?; simp
  · rw [hb]; exact h _
theorem pop_known {its : Array Value} {n : Nat} {y : Value} {f : Obj → List (Addr × Obj)} {Q : Value → Shared → Prop} (hl : its.toList.getLast? = some y) (F : Fr h₀ L hp m) (N : News h₀ L hp news) (U : UpdF D (W.listOf its n) news f) (hz : its.size ≤ 100000)
    (h : ∀ h', Fr h₀ L h' m → News h₀ L h' (f (W.listOf its.pop (n + 1))) → Q y ⟨h', gs, dr, tk, os⟩) : wpAny (model prog w) A (call (.builtin "list.pop") [.ref D]) Q E ⟨hp, gs, dr, tk, os⟩ := by
  have hp : 0 < its.size := by
    rw [← Array.length_toList]
    cases e : its.toList with
    | nil => rw [e] at hl; cases hl
    | cons => simp
  refine pop_any F N U hp hz fun h' y' F' N' e => ?_
  rw [hl] at e; cases e
  exact h h' F' N'
end
theorem ro_word {G : Addr → Obj → Prop} {v : Value} {o : O} (h : RO G v o) (hg : o.isGuard = false) : ∃ a s t l, v = .ref a ∧ G a (tup (.str s t :: l)) ∧ (s == Str.ofString "GUARD") = false := by
  cases h <;> first | exact ⟨_, _, _, _, rfl, by assumption, by decide⟩ | cases hg
/-- between the turns -/
structure RInv (w : World) (V : Wk) (K : Hk) (g : Heap) (L ax : Addr) (k i : Nat) (σ : M) (S : Addr) (st gs as : Array Value) (ks kg ka : Nat) (X : List (Addr × Obj)) (h : Heap) (t : Tok) (o hg : Option Value) : Prop where
  ap : Apart V K S
  fr : Fr g L h (rm V K ax i t o hg)
  ne : News g L h (dled w V K S st gs as ks kg ka ++ X)
  rs : RSs st.toList σ.st
  rg : RGs (inL X) gs.toList σ.gs
  sn : as.size = σ.n
  off : OffX V K S X
  b1 : st.size + k < 90000
  b2 : as.size + k < 90000
  b3 : gs.size + k < 90000
noncomputable def RunPost (w : World) (K : Hk) (r : Option M × Nat) (v : Value) (P' : List (Addr × Obj)) : Prop :=
  match r with
  | (none, n) => v = .none ∧ ∃ as' k', P' = K.led w as' k' ∧ as'.size = n
  | (some σ, n) => ∃ V S st gs as ks kg ka, v = .ref V.W ∧ P' = dled w V K S st gs as ks kg ka ∧ Apart V K S ∧ RSs st.toList σ.st ∧ gs.size = σ.gs.length ∧ as.size = n
section
variable {w : World} {V : Wk} {K : Hk} {g h : Heap} {L ax : Addr} {k i : Nat} {σ : M} {S : Addr} {st gs as : Array Value} {ks kg ka : Nat} {X : List (Addr × Obj)} {h9 : Heap} {t t1 t2 t3 : Tok} {o hg o' hg' : Option Value}
theorem inv_guard {n kg' : Nat} {D : Addr} (inv : RInv w V K g L ax (k + 1) i σ S st gs as ks kg ka X h9 t o hg)
    (F : Fr g L h (fun y => if y = Str.ofString "at" then some (.int (↑i + 1) t1) else if y = Str.ofString "order" then o' else rm V K ax i t o hg y))
    (N : News g L h ((D, tup [.int (↑i + ↑n) t2, .int ↑st.size t3]) :: (V.W, instObj 103 V.D) :: (V.D, wdict w S V.G V.k1 V.k2 V.k3 V.k4) :: (S, W.listOf st ks) :: (V.G, W.listOf (gs.push (.ref D)) kg') :: (K.H, instObj 250 K.HD) :: (K.HD, hdict w K.f K.lab K.nts K.q1 K.q2 K.q3) :: (K.al, W.listOf as ka) :: X))
    (l : V.W < D ∧ V.D < D ∧ S < D ∧ V.G < D ∧ K.H < D ∧ K.HD < D ∧ K.al < D ∧ AllLt D X) :
    RInv w V K g L ax k (i + 1) ⟨σ.st, σ.gs ++ [(i + n, σ.st.length)], σ.n⟩ S st (gs.push (.ref D)) as ks kg' ka ((D, tup [.int (↑i + ↑n) t2, .int ↑st.size t3]) :: X) h t1 o' hg where
  ap := inv.ap
  fr := by rw [rm_at] at F; exact F
  ne := news_sub N fun q hq => by
    simp only [dled, List.mem_cons, List.mem_append, List.cons_append, List.nil_append] at hq ⊢
    rcases hq with h | h | h | h | h | h | h | h | h <;> simp only [h, true_or, or_true]
  rs := inv.rs
  rg := by
    rw [Array.toList_push]
    refine (inv.rg.mono fun a o h => List.mem_cons_of_mem _ h).snoc (t := t2) (t' := t3) ?_
    rw [← rss_size inv.rs]
    exact List.mem_cons_self
  sn := inv.sn
  off := fun q hq => by
    rcases List.mem_cons.mp hq with rfl | hq
    · exact ⟨NeA.gt l.1, NeA.gt l.2.1, NeA.gt l.2.2.1, NeA.gt l.2.2.2.1, NeA.gt l.2.2.2.2.1, NeA.gt l.2.2.2.2.2.1, NeA.gt l.2.2.2.2.2.2.1⟩
    · exact inv.off q hq
  b1 := by have := inv.b1; omega
  b2 := by have := inv.b2; omega
  b3 := by have := inv.b3; rw [Array.size_push]; omega
theorem inv_ok {os : List O} {S' : Addr} {o1 : O} {st' as' : Array Value} {ks' kg' ka' : Nat} (inv : RInv w V K g L ax (k + 1) i σ S st gs as ks kg ka X h9 t o hg)
    (F : Fr g L h (fun y => if y = Str.ofString "at" then some (.int (↑i + 1) t1) else if y = Str.ofString "order" then o' else rm V K ax i t o hg y))
    (N : News g L h (dled w V K S' st' (gset o1 gs) as' ks' kg' ka' ++ X)) (A : Apart V K S') (rs : RSs st'.toList (doO K.bad o1 σ).2.st) (sn : as'.size = (doO K.bad o1 σ).2.n) (off : OffX V K S' X) (z1 : st'.size ≤ st.size + 1) (z2 : as'.size ≤ as.size + 1) :
    RInv w V K g L ax k (i + 1) (doO K.bad o1 σ).2 S' st' (gset o1 gs) as' ks' kg' ka' X h t1 o' hg where
  ap := A
  fr := by rw [rm_at] at F; exact F
  ne := N
  rs := rs
  rg := gset_rg inv.rg
  sn := sn
  off := off
  b1 := by have := inv.b1; omega
  b2 := by have := inv.b2; omega
  b3 := by have := inv.b3; have := gset_size (o := o1) (gs := gs); omega
theorem inv_back {S' D : Addr} {o1 : O} {st' as' : Array Value} {ks' kg' ka' p q : Nat} {g1 : List (Nat × Nat)} (inv : RInv w V K g L ax (k + 1) i σ S st gs as ks kg ka X h9 t o hg)
    (hgs : (doO K.bad o1 σ).2.gs = g1 ++ [(p, q)])
    (F : Fr g L h (fun y => if y = Str.ofString "height" then hg' else if y = Str.ofString "at" then some (.int (p : Nat) t1) else if y = Str.ofString "order" then o' else rm V K ax i t o hg y))
    (N : News g L h ((D, W.listOf (st'.toList.take q).toArray 0) :: (V.W, instObj 103 V.D) :: (V.D, wdict w D V.G V.k1 V.k2 V.k3 V.k4) :: (S', W.listOf st' ks') :: (V.G, W.listOf (gset o1 gs).pop kg') :: (K.H, instObj 250 K.HD) :: (K.HD, hdict w K.f K.lab K.nts K.q1 K.q2 K.q3) :: (K.al, W.listOf as' ka') :: X))
    (l : V.W < D ∧ V.D < D ∧ S' < D ∧ V.G < D ∧ K.H < D ∧ K.HD < D ∧ K.al < D ∧ AllLt D X)
    (A : Apart V K S') (rs : RSs st'.toList (doO K.bad o1 σ).2.st) (sn : as'.size = (doO K.bad o1 σ).2.n) (off : OffX V K S' X) (z1 : st'.size ≤ st.size + 1) (z2 : as'.size ≤ as.size + 1) :
    RInv w V K g L ax k p ⟨(doO K.bad o1 σ).2.st.take q, g1, (doO K.bad o1 σ).2.n⟩ D (st'.toList.take q).toArray (gset o1 gs).pop as' 0 kg' ka' X h t1 o' hg' where
  ap := A.move (NeA.lt l.1) (NeA.lt l.2.1) (NeA.lt l.2.2.2.1) (NeA.lt l.2.2.2.2.1) (NeA.lt l.2.2.2.2.2.1) (NeA.lt l.2.2.2.2.2.2.1)
  fr := by rw [rm_back] at F; exact F
  ne := news_sub N fun q hq => by
    simp only [dled, List.mem_cons, List.cons_append, List.nil_append] at hq ⊢
    rcases hq with h | h | h | h | h | h | h | h <;> simp only [h, true_or, or_true]
  rs := rs.take _
  rg := by
    have := (gset_rg (bad := K.bad) (o := o1) inv.rg).dropLast
    rw [hgs, List.dropLast_concat] at this
    rw [Array.toList_pop]; exact this
  sn := sn
  off := fun q hq => by
    have h := off q hq
    exact ⟨h.1, h.2.1, NeA.lt (allLt_mem l.2.2.2.2.2.2.2 q hq), h.2.2.2⟩
  b1 := by have := inv.b1; simp only [List.size_toArray, List.length_take, Array.length_toList]; omega
  b2 := by have := inv.b2; omega
  b3 := by have := inv.b3; have := gset_size (o := o1) (gs := gs); rw [Array.size_pop]; omega
end
/-- the machine without a failing answer -/
noncomputable def runP (os : List O) : M := os.foldl (fun σ o => (doO [] o σ).2) ⟨[], [], 0⟩
noncomputable def Plain (os : List O) : Prop := ∀ i o, os[i]? = some o → o.isGuard = false ∧ o ≠ .unguard ∧ o ≠ .fail ∧ need o ≤ (runP (os.take i)).st.length
theorem runP_succ {os : List O} {i : Nat} {o : O} (h : os[i]? = some o) : runP (os.take (i + 1)) = (doO [] o (runP (os.take i))).2 := by
  rw [List.take_add_one, h]; unfold runP; simp
theorem depthP_succ {os : List O} {i : Nat} {o : O} (h : os[i]? = some o) : depthP (os.take (i + 1)) = stepD (depthP (os.take i)) o := by
  rw [List.take_add_one, h]; unfold depthP; simp
theorem chg_len {o : O} {σ : M} {bad : List Int} (hbad : bad = []) (hg : o.isGuard = false) (hu : o ≠ .unguard) (hf : o ≠ .fail) (hn : need o ≤ σ.st.length) : (doO bad o σ).1 = true ∧ ((doO bad o σ).2.st.length : Int) = σ.st.length + chg o := by
  subst hbad
  have ask : ∀ k, k ≤ σ.st.length → (askM [] σ k).1 = true ∧ ((askM [] σ k).2.st.length : Int) = σ.st.length + (1 - (k : Int)) := fun k hk => by
    unfold askM
    rw [if_neg (by simp)]
    refine ⟨rfl, ?_⟩
    simp only [List.length_append, List.length_take, List.length_singleton]; omega
  cases o <;> simp only [need] at hn
  case push => exact ⟨rfl, by simp [doO, chg]⟩
  case guard => cases hg
  case unguard => exact absurd rfl hu
  case fail => exact absurd rfl hf
  case drop => exact ⟨rfl, by simp only [doO, chg, List.length_take]; omega⟩
  all_goals (refine ⟨(ask _ hn).1, (ask _ hn).2.trans ?_⟩; simp only [chg] <;> omega)
theorem plain_lock {os : List O} (h : Plain os) : ∀ i, i ≤ os.length → ((runP (os.take i)).st.length : Int) = (depthP (os.take i)).1 := by
  intro i
  induction i with
  | zero => intro _; simp [runP, depthP]
  | succ i ih =>
    intro hi
    obtain ⟨o, ho⟩ : ∃ o, os[i]? = some o := ⟨_, List.getElem?_eq_getElem (by omega)⟩
    obtain ⟨h1, h2, h3, h4⟩ := h i o ho
    rw [runP_succ ho, depthP_succ ho, (chg_len rfl h1 h2 h3 h4).2, ih (by omega)]; rfl
abbrev hgm (V : Wk) (K : Hk) (ax : Addr) (mo : Int) (t : Tok) (o : Option Value) : Str → Option Value :=
  fun s => if s = Str.ofString "most" then some (.int mo t) else if s = Str.ofString "order" then o else if s = Str.ofString "work" then some (.ref V.W) else if s = Str.ofString "hooks" then some (.ref K.H) else if s = Str.ofString "orders" then some (.ref ax) else none
theorem hgm_set {V : Wk} {K : Hk} {ax : Addr} {mo mo' : Int} {t t' : Tok} {o o' : Option Value} :
    (fun y => if y = Str.ofString "most" then some (Value.int mo' t') else if y = Str.ofString "order" then o' else hgm V K ax mo t o y) = hgm V K ax mo' t' o' := by
  funext y
  by_cases h1 : y = Str.ofString "most" <;> by_cases h2 : y = Str.ofString "order" <;> simp only [hgm, h1, h2, if_true, if_false] <;> rfl
noncomputable def HgtJ (w : World) (V : Wk) (K : Hk) (os : List O) (ax : Addr) (X : List (Addr × Obj)) (i : Nat) (m : Str → Option Value) (news : List (Addr × Obj)) : Prop :=
  ∃ S st as ks kg ka t o, m = hgm V K ax (depthP (os.take i)).2 t o ∧ news = dled w V K S st #[] as ks kg ka ++ X ∧ Apart V K S ∧ RSs st.toList (runP (os.take i)).st ∧ as.size = (runP (os.take i)).n ∧ OffX V K S X ∧ st.size ≤ i ∧ as.size ≤ i
section
variable {w : World} {A : Around} {base h₀ : Heap} {outer : List Env} {L : Addr} {m : Str → Option Value} {env : Env} {news R Pt : List (Addr × Obj)} {hp : Heap} {gens : Array GenState} {dr : Drawn} {tk : Nat} {os : OsState} {p : Program} {loose : List Str} {mean : ExcName → Option Value} {mg mb : Str → Option Value}
  {A₀ : Around} {dp un : Nat} {gd : Option (List Code)} {Q E : Value → Shared → Prop} {al bl : Addr}
theorem rep_call (hPt : TabP Pt) (hcd : CodeHd h₀ 368 364) (B : Below A₀ base outer h₀) (F : Fr h₀ L hp m) (X : (Mine.hd.heap_39 w.params).In h₀) (N : News h₀ L hp news) (T : Top p loose mean mg mb h₀)
    (hf : env.frame = some L) (hke : env.scope.kind = .function) (hP : ∀ q ∈ Pt, q ∈ news) (hR : ∀ q ∈ R, q ∈ news ∧ ∀ r ∈ Pt, NeA q.1 r.1) (hd : dp + 2 < 900) (hu : un + 5 * 2 < 3000)
    (ret : ∀ f fo cc oc c1 o1 c2 o2 h' tk', Fr h₀ L h' m → News h₀ L h' ((f, fo) :: (cc, oc) :: (c1, o1) :: (c2, o2) :: (364, tabOne cc) :: R) → TabP [(364, tabOne cc), (cc, oc)] → Rep w f al bl [(f, fo), (cc, oc), (c1, o1), (c2, o2)] →
      (∀ q ∈ [(f, fo), (cc, oc), (c1, o1), (c2, o2), ((364 : Addr), tabOne cc)], ∀ r ∈ R, NeA q.1 r.1) → Q (.ref f) ⟨h', gens, dr, tk', os⟩) :
    wpAny (model pw w) (top dp un gd (env :: outer)) (call (.ref 369) [.ref al, .ref bl]) Q E ⟨hp, gens, dr, tk, os⟩ := by
  refine call_fs (R := R) (replies_fs al bl Pt hPt) B F X N T hf hke hP (fun q hq => ⟨(hR q hq).1, fun r hr => ((hR q hq).2 r hr).out⟩) hd hu (fun g' _ hk' => hcd.keeps hk') ?_
  intro r h' tk' P' F' N' ap _ hp
  obtain ⟨f, fo, c1, o1, c2, o2, cc, oc, vs, t, rfl, rfl, d1, d2, rep⟩ := hp
  exact ret f fo cc oc c1 o1 c2 o2 h' tk' F' N' (.inr ⟨cc, oc, vs, t, rfl, d1, d2⟩) rep ap
end
theorem gset_nil {o : O} : gset o #[] = #[] := by cases o <;> rfl
theorem NeA.symm {a b : Addr} (h : NeA a b) : NeA b a := h.out'
theorem hgm_intro {V : Wk} {K : Hk} {ax : Addr} {mo : Int} {t : Tok} :
    (fun y => if y = Str.ofString "work" then some (Value.ref V.W) else if y = Str.ofString "most" then some (Value.int mo t) else if y = Str.ofString "hooks" then some (Value.ref K.H) else List.lookup y [(Str.ofString "orders", Value.ref ax)].reverse) = hgm V K ax mo t none := by
  funext y
  by_cases h4 : y = Str.ofString "work"
  · subst h4; rfl
  by_cases h1 : y = Str.ofString "most"
  · subst h1; rfl
  by_cases h2 : y = Str.ofString "order"
  · subst h2; rfl
  by_cases h5 : y = Str.ofString "hooks"
  · subst h5; rfl
  by_cases h6 : y = Str.ofString "orders"
  · subst h6; rfl
  simp only [hgm, h1, h2, h4, h5, h6, if_false, List.reverse_cons, List.reverse_nil, List.nil_append, List.lookup_cons, List.lookup_nil, beq_eq_false_iff_ne.mpr h6]
theorem hgm_intro' {V : Wk} {K : Hk} {ax x : Addr} {mo : Int} {t : Tok} (hx : K.H = x) :
    (fun y => if y = Str.ofString "work" then some (Value.ref V.W) else if y = Str.ofString "most" then some (Value.int mo t) else if y = Str.ofString "hooks" then some (Value.ref x) else List.lookup y [(Str.ofString "orders", Value.ref ax)].reverse) = hgm V K ax mo t none := by subst hx; exact hgm_intro
theorem offX_cons {w : World} {V : Wk} {K : Hk} {S I : Addr} {o : Obj} {st gs as : Array Value} {ks kg ka : Nat} {X : List (Addr × Obj)} (h : OffX V K S X) (hap : ∀ q ∈ dled w V K S st gs as ks kg ka ++ X, q.1 ≠ I) : OffX V K S ((I, o) :: X) := by
  intro q hq
  rcases List.mem_cons.mp hq with rfl | hq
  · have a : ∀ {b o}, (b, o) ∈ dled w V K S st gs as ks kg ka → NeA I b := fun h => (hap _ (List.mem_append_left _ h)).symm
    exact ⟨a (.head _), a (.tail _ (.head _)), a (.tail _ (.tail _ (.head _))), a (.tail _ (.tail _ (.tail _ (.head _)))), a (.tail _ (.tail _ (.tail _ (.tail _ (.head _))))), a (.tail _ (.tail _ (.tail _ (.tail _ (.tail _ (.head _)))))), a (.tail _ (.tail _ (.tail _ (.tail _ (.tail _ (.tail _ (.head _)))))))⟩
  · exact h q hq
theorem hgtJ_succ {w : World} {V : Wk} {K : Hk} {os : List O} {ax S : Addr} {X : List (Addr × Obj)} {i : Nat} {st as : Array Value} {ks kg ka : Nat} {mo mo' : Int} {t t' : Tok} {o : Option Value} {v : Value} (e : mo' = (depthP (os.take (i + 1))).2) (A : Apart V K S) (rs : RSs st.toList (runP (os.take (i + 1))).st) (sn : as.size = (runP (os.take (i + 1))).n) (off : OffX V K S X) (z1 : st.size ≤ i + 1) (z2 : as.size ≤ i + 1) :
    HgtJ w V K os ax X (i + 1) (fun y => if y = Str.ofString "most" then some (Value.int mo' t') else if y = Str.ofString "order" then some v else hgm V K ax mo t o y) (dled w V K S st #[] as ks kg ka ++ X) :=
  ⟨S, st, as, ks, kg, ka, t', some v, by rw [← e]; exact hgm_set, rfl, A, rs, sn, off, z1, z2⟩
theorem sub_dled {w : World} {V : Wk} {K : Hk} {S I : Addr} {st gs as : Array Value} {ks kg ka : Nat} {o : Obj} {X : List (Addr × Obj)} : ∀ q ∈ (I, o) :: (dled w V K S st gs as ks kg ka ++ X), q ∈ dled w V K S st gs as ks kg ka ++ (I, o) :: X := fun q hq => by
  rcases List.mem_cons.mp hq with h | hq
  · rw [h]; exact List.mem_append_right _ (.head _)
  · rcases List.mem_append.mp hq with h | h
    · exact List.mem_append_left _ h
    · exact List.mem_append_right _ (.tail _ h)
theorem dled_sub {w : World} {V : Wk} {K : Hk} {S I : Addr} {st gs as : Array Value} {ks kg ka : Nat} {o : Obj} {X : List (Addr × Obj)} : ∀ q ∈ dled w V K S st gs as ks kg ka ++ (I, o) :: X, q ∈ (I, o) :: (dled w V K S st gs as ks kg ka ++ X) := fun q hq => by
  rcases List.mem_append.mp hq with h | hq
  · exact .tail _ (List.mem_append_left _ h)
  · rcases List.mem_cons.mp hq with h | h
    · rw [h]; exact .head _
    · exact .tail _ (List.mem_append_right _ h)
theorem off_head {w : World} {V : Wk} {K : Hk} {S I : Addr} {st gs as : Array Value} {ks kg ka : Nat} {o : Obj} {X : List (Addr × Obj)} (off : OffX V K S ((I, o) :: X)) (hX : ∀ q ∈ X, q.1 ≠ I) : ∀ q ∈ dled w V K S st gs as ks kg ka ++ X, q.1 ≠ I := fun q hq => by
  rcases List.mem_append.mp hq with h | h
  · obtain ⟨w1, w2, w3, w4, w5, w6, w7⟩ := off _ (.head _)
    simp only [dled, List.mem_cons, List.not_mem_nil, or_false] at h
    rcases h with rfl | rfl | rfl | rfl | rfl | rfl | rfl
    · exact w1.out'
    · exact w2.out'
    · exact w3.out'
    · exact w4.out'
    · exact w5.out'
    · exact w6.out'
    · exact w7.out'
  · exact hX q h
end Mine
local macro_rules | `(tactic| k_all) => `(tactic| assumption)
set_option maxHeartbeats 40000000 in
theorem Mine.run_fs {w : World} (K : Hk) (OK : K.Ok w) (os : List O) (v : Value) (as : Array Value) (ka : Nat) (r : Option M × Nat) (hrun : Run K.bad os os.length 0 ⟨[], [], as.size⟩ r) (hsa : as.size + os.length < 90000) :
    FS w 261 7 [v, .ref K.H] (fun g => ListAt g v os ∧ K.pre g) (K.led w as ka) (RunPost w K r) := by
  w_top off
  k_with_none
  k_with "callWith ref" => (k_here; k_dflt (first | (refine' callWith_K ?k1z1 ?k2z1 ?_; (case k1z1 => k_asm); (case k2z1 => k_is); k_whole) | (refine' callWith_K0 ?k1z1 ?k2z1 ?_; (case k1z1 => k_in); (case k2z1 => k_is); k_whole)))
  k_with "binaryOp Add ref ref" => (k_here; with_reducible refine' Mine.add_mem ?Fz2 ?Nz2 ?az2 ?bz2 ?zz2 ?_; (case Fz2 => k_asm); (case Nz2 => k_asm); (case az2 => k_dflt k_mem); (case bz2 => k_dflt k_mem); (case zz2 => ((try dsimp only [Mine.T.size] at *); (try simp only [Array.size_append, List.size_toArray, List.length_cons, List.length_nil]); omega)); intro _ _ _ _ l1zz; (try k_lt l1zz); (try (revert l1zz; intro _)); (try k_sweep))
  k_with "call builtin:len" => (k_here; with_reducible refine' Mine.len_mem ?Nz3 ?mz3 ?ez3 ?zz3 ?_; (case Nz3 => k_asm); (case mz3 => k_dflt k_mem); (case ez3 => first | with_reducible assumption | exact rfl); (case zz3 => ((try dsimp only [Mine.T.size] at *); (try simp only [Array.size_push]); omega)); intro _ _)
  k_with "call builtin:len" => (k_here; with_reducible refine' Mine.len_tupN ?Tz4 ?ez4 ?zz4 ?_; (case Tz4 => k_dflt is_tup); (case ez4 => first | with_reducible assumption | exact rfl); (case zz4 => first | (k_dflt decide) | ((try dsimp only [Mine.T.size] at *); omega)); intro _ _)
  k_with "call builtin:list.extend" => (k_here; with_reducible refine' Mine.ext_mem ?Fz5 ?Nz5 ?bz5 ?Uz5 ?zz5 ?_; (case Fz5 => k_asm); (case Nz5 => k_asm); (case bz5 => k_dflt k_mem); (case Uz5 => k_dflt k_updF); (case zz5 => ((try dsimp only [Mine.T.size] at *); (try simp only [Array.size_append, List.size_toArray, List.length_cons, List.length_nil]); omega)); intro _ _ _ Nqzz; (try dsimp only at Nqzz); (try (revert Nqzz; intro _)); (try k_sweep))
  k_with "call ref" => (k_here; (with_reducible show wpAny _ _ (PySem.call (Value.ref 296) _) _ _ _); k_dflt (refine' Mine.ord_call ?Iz6 ?Bz6 ?Fz6 ?Xz6 ?Nz6 ?Tz6 ?rz6 ?kz6 ?fz6 ?ez6 ?sz6 ?wz6 ?dz6 ?uz6 ?_; (case Iz6 => assumption); (case Bz6 => k_asm); (case Fz6 => k_asm); (case Xz6 => k_asm); (case Nz6 => k_asm); (case Tz6 => k_asm); (case rz6 => assumption); (case kz6 => first | exact fun _ _ e => e | exact Fr.keep (by assumption) | exact fun _ _ e => Fr.keep (by assumption) _ _ (Fr.keep (by assumption) _ _ e)); (case fz6 => exact rfl); (case ez6 => exact rfl); (case sz6 => ((try dsimp only [Mine.T.size] at *); omega)); (case wz6 => first | assumption | exact And.left (by assumption) | exact And.right (by assumption)); (case dz6 => ((try dsimp only [Mine.T.size] at *); (try dsimp only [depth_deeper, Mine.top]); (first | exact Mine.rm2 (by assumption) rfl | exact Mine.rm_tree (by assumption) | exact Mine.rm_ord (by assumption) (Nat.succ_le_succ (Nat.le_add_right _ _)) | exact Mine.rm_ord (by assumption) (Nat.succ_le_succ (Nat.le_add_left _ _)) | exact Mine.rm_ord (by assumption) (Nat.le_refl _) | omega))); (case uz6 => ((try dsimp only [Mine.T.size] at *); (try dsimp only [units_deeper, units_in1, Mine.top]); (first | exact Mine.rm2 (by assumption) rfl | exact Mine.rm_treeu (by assumption) | exact Mine.rm_ordu (by assumption) (Nat.succ_le_succ (Nat.le_add_right _ _)) | exact Mine.rm_ordu (by assumption) (Nat.succ_le_succ (Nat.le_add_left _ _)) | exact Mine.rm_ordu (by assumption) (Nat.le_refl _) | omega)))); intro _ _ _ _ _ _ _ _ _ _ _ _ _; (try k_sweep))
  k_with "call ref" => (k_here; (with_reducible show wpAny _ _ (PySem.call (Value.ref 303) _) _ _ _); k_dflt (refine' Mine.fs_call0 (mo := 2) ?Iz7 ?Bz7 ?Fz7 ?Xz7 ?Nz7 ?Tz7 ?rz7 ?kz7 ?fz7 ?ez7 ?dz7 ?uz7 ?_; (case Iz7 => assumption); (case Bz7 => k_asm); (case Fz7 => k_asm); (case Xz7 => k_asm); (case Nz7 => k_asm); (case Tz7 => k_asm); (case rz7 => assumption); (case kz7 => first | exact fun _ _ e => e | exact Fr.keep (by assumption) | exact fun _ _ e => Fr.keep (by assumption) _ _ (Fr.keep (by assumption) _ _ e)); (case fz7 => exact rfl); (case ez7 => exact rfl); (case dz7 => ((try dsimp only [Mine.T.size] at *); (try dsimp only [depth_deeper, Mine.top]); (first | exact Mine.rm2 (by assumption) rfl | exact Mine.rm_tree (by assumption) | exact Mine.rm_ord (by assumption) (Nat.succ_le_succ (Nat.le_add_right _ _)) | exact Mine.rm_ord (by assumption) (Nat.succ_le_succ (Nat.le_add_left _ _)) | exact Mine.rm_ord (by assumption) (Nat.le_refl _) | omega))); (case uz7 => ((try dsimp only [Mine.T.size] at *); (try dsimp only [units_deeper, units_in1, Mine.top]); (first | exact Mine.rm2 (by assumption) rfl | exact Mine.rm_treeu (by assumption) | exact Mine.rm_ordu (by assumption) (Nat.succ_le_succ (Nat.le_add_right _ _)) | exact Mine.rm_ordu (by assumption) (Nat.succ_le_succ (Nat.le_add_left _ _)) | exact Mine.rm_ordu (by assumption) (Nat.le_refl _) | omega)))); intro _ _ _ _ _ _ _ _ _ _ _ _ _; (try k_sweep))
  k_with "call ref" => (k_here; (with_reducible show wpAny _ _ (PySem.call (Value.ref 338) _) _ _ _); k_dflt (refine' Mine.fs_pure ?Iz8 ?Bz8 ?Fz8 ?Xz8 ?Nz8 ?Tz8 ?rz8 ?fz8 ?ez8 ?dz8 ?uz8 ?_; (case Iz8 => assumption); (case Bz8 => k_asm); (case Fz8 => k_asm); (case Xz8 => k_asm); (case Nz8 => k_asm); (case Tz8 => k_asm); (case rz8 => exact fun g' hk _ => Mine.RO.mono (by assumption) hk); (case fz8 => exact rfl); (case ez8 => exact rfl); (case dz8 => ((try dsimp only [depth_deeper, Mine.top]); (first | exact Mine.rm2 (by assumption) rfl | exact Mine.rm_tree (by assumption) | exact Mine.rm_ord (by assumption) (Nat.succ_le_succ (Nat.le_add_right _ _)) | exact Mine.rm_ord (by assumption) (Nat.succ_le_succ (Nat.le_add_left _ _)) | exact Mine.rm_ord (by assumption) (Nat.le_refl _) | omega))); (case uz8 => ((try dsimp only [units_deeper, units_in1, Mine.top]); (first | exact Mine.rm2 (by assumption) rfl | exact Mine.rm_treeu (by assumption) | exact Mine.rm_ordu (by assumption) (Nat.succ_le_succ (Nat.le_add_right _ _)) | exact Mine.rm_ordu (by assumption) (Nat.succ_le_succ (Nat.le_add_left _ _)) | exact Mine.rm_ordu (by assumption) (Nat.le_refl _) | omega)))); intro _ _ _ _ _ eqzz; (obtain ⟨tqzz, eqzz⟩ := eqzz; subst eqzz); (try (revert tqzz; intro _)); (try k_sweep))
  k_with "call builtin:isinstance" => (k_here; with_reducible refine' Mine.isi_tup ?Tz9 ?_; (case Tz9 => k_dflt is_tup); intro _)
  k_with "execs cons" => (k_here; first | (with_reducible refine' Mine.skip_if0 ?Fz10 ?vz10 ?bz10 ?_ ?x1z10 ?x2z10 ?x3z10; (case Fz10 => k_asm); (case vz10 => k_dflt exact rfl); (case bz10 => k_dflt decide); (case x1z10 => k_dflt exact rfl); (case x2z10 => k_dflt exact rfl); (case x3z10 => k_dflt decide); intro _) | (with_reducible refine' Mine.skip_or0 ?Fz10 ?vz10 ?bz10 ?b2z10 ?_ ?x1z10 ?x2z10 ?x3z10; (case Fz10 => k_asm); (case vz10 => k_dflt exact rfl); (case bz10 => k_dflt decide); (case b2z10 => k_dflt decide); (case x1z10 => k_dflt exact rfl); (case x2z10 => k_dflt exact rfl); (case x3z10 => k_dflt decide); intro _) | (with_reducible refine' Mine.take_if0 ?Fz10 ?vz10 ?bz10 ?_ ?x1z10 ?x2z10 ?x3z10; (case Fz10 => k_asm); (case vz10 => k_dflt exact rfl); (case bz10 => k_dflt decide); (case x1z10 => k_dflt exact rfl); (case x2z10 => k_dflt exact rfl); (case x3z10 => k_dflt decide); intro _))
  k_with "execs cons" => (k_here; first | (with_reducible refine' Mine.skip_in0 ?Fz11 ?Nz11 ?vz11 ?sz11 ?nz11 ?bz11 ?mz11 ?_ ?x1z11 ?x2z11 ?x3z11; (case Fz11 => k_asm); (case Nz11 => k_asm); (case vz11 => k_dflt exact rfl); (case sz11 => k_dflt exact rfl); (case nz11 => k_dflt decide); (case bz11 => k_dflt decide); (case mz11 => k_dflt exact rfl); (case x1z11 => k_dflt exact rfl); (case x2z11 => k_dflt exact rfl); (case x3z11 => k_dflt decide); intro _ _ _ _; (try k_sweep)) | (with_reducible refine' Mine.take_in0 ?Fz11 ?Nz11 ?vz11 ?sz11 ?nz11 ?bz11 ?mz11 ?_ ?x1z11 ?x2z11 ?x3z11; (case Fz11 => k_asm); (case Nz11 => k_asm); (case vz11 => k_dflt exact rfl); (case sz11 => k_dflt exact rfl); (case nz11 => k_dflt decide); (case bz11 => k_dflt decide); (case mz11 => k_dflt exact rfl); (case x1z11 => k_dflt exact rfl); (case x2z11 => k_dflt exact rfl); (case x3z11 => k_dflt decide); intro _ _ _ _; (try k_sweep)))
  k_with "eval Subscript Name Constant" => (k_here; with_reducible refine' Mine.item_tup0 ?Fz12 ?vz12 ?tz12 ?loz12 ?hiz12 ?jz12 ?uz12 ?_ ?x1z12 ?x2z12 ?x3z12; (case Fz12 => k_asm); (case vz12 => k_dflt exact rfl); (case tz12 => k_dflt is_tup); (case loz12 => k_dflt decide); (case hiz12 => k_dflt decide); (case jz12 => k_dflt exact rfl); (case uz12 => k_dflt exact rfl); (case x1z12 => k_dflt exact rfl); (case x2z12 => k_dflt exact rfl); (case x3z12 => k_dflt decide); intro _)
  k_with "call ref" => (k_here; (with_reducible show wpAny _ _ (PySem.call (Value.ref 103) _) _ _ _); k_dflt (refine' Mine.new_work ?Bz53 ?Fz53 ?Xz53 ?Nz53 ?Tz53 ?hfz53 ?hkez53 ?hdz53 ?huz53 ?_; (case Bz53 => k_asm); (case Fz53 => k_asm); (case Xz53 => k_asm); (case Nz53 => k_asm); (case Tz53 => k_asm); (case hfz53 => exact rfl); (case hkez53 => exact rfl); (case hdz53 => ((try dsimp only [depth_deeper, Mine.top]); (first | exact Mine.rm2 (by assumption) rfl | exact Mine.rm_tree (by assumption) | exact Mine.rm_ord (by assumption) (Nat.succ_le_succ (Nat.le_add_right _ _)) | exact Mine.rm_ord (by assumption) (Nat.succ_le_succ (Nat.le_add_left _ _)) | exact Mine.rm_ord (by assumption) (Nat.le_refl _) | omega))); (case huz53 => ((try dsimp only [units_deeper, units_in1, Mine.top]); (first | exact Mine.rm2 (by assumption) rfl | exact Mine.rm_treeu (by assumption) | exact Mine.rm_ordu (by assumption) (Nat.succ_le_succ (Nat.le_add_right _ _)) | exact Mine.rm_ordu (by assumption) (Nat.succ_le_succ (Nat.le_add_left _ _)) | exact Mine.rm_ordu (by assumption) (Nat.le_refl _) | omega)))); intro _ _ _ _ _ Nqzz a1qzz a2qzz a3qzz a4qzz a5qzz a6qzz apqzz; (try dsimp only [Mine.Wk.led, List.cons_append, List.nil_append] at Nqzz); (try (revert Nqzz a1qzz a2qzz a3qzz a4qzz a5qzz a6qzz apqzz; intro _ _ _ _ _ _ _ _)); (try k_sweep))
  k_with "subscriptTail Name Name ref int" => (k_here; k_dflt (refine' Mine.item_gnd ?Fz54 ?lz54 ?vz54 ?iz54 ?_ ?sz54; (case Fz54 => k_asm); (case lz54 => assumption); (case vz54 => assumption); (case iz54 => omega); (case sz54 => with_unfolding_all rfl)))
  k_with "ktr_room" => repeat' ((fail_if_success (with_reducible show WhlRest _ _ _ _ _ _ _ _ _ _ _)); first | (k_unfold; (try dsimp only)) | (k_end; wrow_close) | walk1 | (dsimp only; walk1) | (leave1; walk_say "STEP leave1"; try dsimp only) | fail "no step")
  k_with "isTrue Compare" => (k_here; k_dflt (refine' Mine.sub_ne ?Fz56 ?vz56 ?tz56 ?bz56 ?_ ?x1z56 ?x2z56 ?x3z56; (case Fz56 => k_asm); (case vz56 => exact rfl); (case tz56 => is_tup); (case bz56 => assumption); (case x1z56 => exact rfl); (case x2z56 => exact rfl); (case x3z56 => decide)); intro _)
  k_with "call ref" => (k_here; (with_reducible show wpAny _ _ (PySem.call (Value.ref 268) _) _ _ _); k_dflt (refine' Mine.d_order ?OKz57 ?APz57 ?stz57 ?nz57 ?ndz57 ?szz57 ?saz57 ?sgz57 ?unz57 ?cz57 ?hbz57 ?Xz57 ?roz57 ?prez57 ?Bz57 ?Fz57 ?XXz57 ?Nz57 ?Tz57 ?hmz57 ?hfz57 ?hkez57 ?hdz57 ?huz57 ?_; (case OKz57 => assumption); (case APz57 => assumption); (case Xz57 => assumption); (case stz57 => assumption); (case nz57 => assumption); (case ndz57 => assumption); (case szz57 => assumption); (case saz57 => assumption); (case sgz57 => assumption); (case unz57 => assumption); (case cz57 => assumption); (case hbz57 => assumption); (case roz57 => assumption); (case prez57 => assumption); (case Bz57 => k_asm); (case Fz57 => k_asm); (case XXz57 => k_asm); (case Nz57 => k_asm); (case Tz57 => k_asm); (case hmz57 => exact fun _ h => h); (case hfz57 => exact rfl); (case hkez57 => exact rfl); (case hdz57 => ((try dsimp only [Mine.top]); (first | exact Mine.rm2 (by assumption) rfl | exact Mine.rm_tree (by assumption) | exact Mine.rm_ord (by assumption) (Nat.succ_le_succ (Nat.le_add_right _ _)) | exact Mine.rm_ord (by assumption) (Nat.succ_le_succ (Nat.le_add_left _ _)) | exact Mine.rm_ord (by assumption) (Nat.le_refl _) | omega))); (case huz57 => ((try dsimp only [Mine.top]); (first | exact Mine.rm2 (by assumption) rfl | exact Mine.rm_treeu (by assumption) | exact Mine.rm_ordu (by assumption) (Nat.succ_le_succ (Nat.le_add_right _ _)) | exact Mine.rm_ordu (by assumption) (Nat.succ_le_succ (Nat.le_add_left _ _)) | exact Mine.rm_ordu (by assumption) (Nat.le_refl _) | omega)))); intro _ _ _ _ _ _ _ _ _ Nqzz Aqzz rsqzz snqzz offqzz z1qzz z2qzz y1qzz y2qzz y3qzz; (try dsimp only [Mine.dled, List.cons_append, List.nil_append] at Nqzz); (try (revert Nqzz Aqzz rsqzz snqzz offqzz z1qzz z2qzz y1qzz y2qzz y3qzz; intro _ _ _ _ _ _ _ _ _ _)); (try k_sweep))
  k_with "call builtin:list.pop" => (k_here; (try dsimp only); k_dflt (refine' Mine.pop_known ?lz58 ?Fz58 ?Nz58 ?Uz58 ?zz58 ?_; (case lz58 => assumption); (case Fz58 => k_asm); (case Nz58 => k_asm); (case Uz58 => k_dflt k_updF); (case zz58 => omega)); intro _ _ Nqzz; (try dsimp only at Nqzz); (try (revert Nqzz; intro _)); (try k_sweep))
  k_with "subscriptTail Name Slice ref ref" => (k_here; k_dflt (refine' Mine.slice_mem ?Fz59 ?Nz59 ?mz59 ?pz59 ?qz59 ?ez59 ?zz59 ?_ ?sz59 ?tz59; (case Fz59 => k_asm); (case Nz59 => k_asm); (case mz59 => k_mem); (case pz59 => kmk_part); (case qz59 => kmk_part); (case ez59 => exact slicePick_upto' _ _); (case sz59 => with_unfolding_all rfl); (case tz59 => kmk_pure); (case zz59 => omega)); intro _ _ _ _ l1zz; (try k_lt l1zz); (try (revert l1zz; intro _)); (try k_sweep))
  refine' Mine.fs_plain (binds := [(Str.ofString "orders", v), (Str.ofString "hooks", .ref K.H)]) ?ho ?hcd ?hb ?hl ?h ?c2 ?c3 ?c4 ?c5
  case ho => (intro P; k_dflt k_is)
  case hcd => (intro P; k_dflt k_is)
  case hb => (intro s; exact BindsTo.of_eq rfl)
  case hl => exact locs rfl
  case c5 => decide
  case c2 => exact rfl
  case c3 => exact rfl
  case c4 => exact rfl
  case h =>
  intro dp un gd outer base g s p loose mean mg mb L' h' tk B' X' T' F' N' pre hd hu
  obtain ⟨⟨ax, xs, rfl, hx, hro⟩, hpre⟩ := pre
  have n1 := OK.ne1; have n2 := OK.ne2; have n3 := OK.ne3
  have hxs : xs.size = os.length := by rw [← Array.length_toList]; exact hro.length
  simp only [Hk.led] at N'
  try dsimp only
  with_reducible show wpAny _ _ _ _ _ _
  k_fold
  repeat' ((fail_if_success (with_reducible show wpAny _ _ (PySem.exec (PySem.Stmt.While _ _ _ _) _) _ _ _)); first | (k_unfold; (try dsimp only)) | (k_end; wrow_close) | walk1 | (dsimp only; walk1) | (leave1; walk_say "STEP leave1"; try dsimp only) | fail "no step")
  rename_i V S _ _ a1 a2 a3 a4 a5 a6 ap D _ ld _ _ h9 F9 N9
  have AP : Apart V K S := apart_of a1 a2 a3 a4 a5 a6 ap
  obtain ⟨i0, hi0⟩ : ∃ i : Nat, i = 0 := ⟨_, rfl⟩
  obtain ⟨σ0, hσ0⟩ : ∃ σ : M, σ = ⟨[], [], as.size⟩ := ⟨_, rfl⟩
  obtain ⟨k0, hk0⟩ : ∃ k : Nat, k = os.length := ⟨_, rfl⟩
  have hrun' : Run K.bad os k0 i0 σ0 r := by rw [hi0, hσ0, hk0]; exact hrun
  have key : ∃ S st gs as' ks kg ka X t o hg, RInv w V K g L' ax k0 i0 σ0 S st gs as' ks kg ka X h9 t o hg := by
    rw [hi0, hσ0, hk0]
    exact ⟨S, #[], #[], as, 0, 0, ka, [], _, none, none, AP, rm_intro ▸ F9, news_sub N9 fun q hq => .tail _ (by rwa [List.append_nil] at hq), .nil, .nil, rfl, (fun _ h => nomatch h), by show 0 + _ < _; omega, hsa, by show 0 + _ < _; omega⟩
  clear F9 N9 AP a1 a2 a3 a4 a5 a6 ap ld hi0 hσ0 hk0 hrun
  refine whl_start 0 ?_
  have hq : ∀ v s', Done g s (RunPost w K r) v s' → qk (.ret v) s' := fun _ _ h => h
  clear_value qk
  have hle : os.length ≤ 90000 := by omega
  clear hsa as ka
  induction hrun' generalizing h9 tk
  case done k i σ hi =>
    obtain ⟨S, st, gs, as, ks, kg, ka, X, t, o, hg, inv⟩ := key
    have F9 := inv.fr; have N9 := inv.ne
    simp only [dled, List.cons_append, List.nil_append] at N9
    refine whl_turn (k := 0) (by passes_own) ?_
    k_steps
    refine WhlIf.no (decide_eq_false (by omega)) ?_
    k_steps
    show qk (.ret (.ref V.W)) _
    exact hq _ _ ⟨_, _, _, F9, news_sub inv.ne fun q hq => List.mem_append_left _ hq, ⟨V, S, st, gs, as, ks, kg, ka, rfl, rfl, inv.ap, inv.rs, by rw [← Array.length_toList]; exact inv.rg.length, inv.sn⟩, rfl⟩
  case guard k i σ n r hi hr ih =>
    obtain ⟨S, st, gs, as, ks, kg, ka, X, t, o, hg, inv⟩ := key
    have hil := (List.getElem?_eq_some_iff.mp hi).1
    obtain ⟨v, hv⟩ : ∃ v, xs[i]? = some v := ⟨_, Array.getElem?_eq_getElem (by omega)⟩
    obtain ⟨od, ho, hrod⟩ := hro.get i v (by rw [Array.getElem?_toList]; exact hv)
    rw [hi] at ho; cases ho; cases hrod
    have ht := isTup_of (by assumption)
    have a1 := inv.ap.gw; have a2 := inv.ap.gd; have a3 := inv.ap.gs; have a4 := inv.ap.hg; have a5 := inv.ap.ig; have a6 := inv.ap.ag
    have b1 := inv.b1; have b2 := inv.b2; have b3 := inv.b3
    have a7 : ∀ q ∈ X, q.1 ≠ V.G := fun q h => (inv.off q h).2.2.2.1.out
    have F9 := inv.fr; have N9 := inv.ne
    simp only [dled, List.cons_append, List.nil_append] at N9
    refine whl_turn (k := 0) (by passes_own) ?_
    k_steps
    refine WhlIf.yes (decide_eq_true (by omega)) ?_
    k_extra "ktr_room"
    rename_i D _ ld _ _ F9 N9
    exact ih _ _ ⟨_, _, _, _, _, _, _, _, _, _, _, inv_guard inv F9 N9 ld⟩ hq
  case ok k i σ o1 r hi hng hnd hun hb hr ih =>
    obtain ⟨S, st, gs, as, ks, kg, ka, X, t, o, hg, inv⟩ := key
    have hil := (List.getElem?_eq_some_iff.mp hi).1
    obtain ⟨v, hv⟩ : ∃ v, xs[i]? = some v := ⟨_, Array.getElem?_eq_getElem (by omega)⟩
    obtain ⟨od, ho, hrod⟩ := hro.get i v (by rw [Array.getElem?_toList]; exact hv)
    rw [hi] at ho; cases ho
    obtain ⟨ad, sw, tw, lw, rfl, hw1, hw2⟩ := ro_word hrod hng
    have ht := isTup_of hw1
    have AP := inv.ap; have hst := inv.rs; have hsn := inv.sn; have hoff := inv.off
    have b1 := inv.b1; have b2 := inv.b2; have b3 := inv.b3
    have c1 : st.size < 90000 := by omega
    have c2 : as.size < 90000 := by omega
    have c3 : gs.size < 90000 := by omega
    have hnd' : need o1 ≤ st.size := by rw [rss_size hst]; exact hnd
    have hgl : gs.size = σ.gs.length := by rw [← Array.length_toList]; exact inv.rg.length
    have hun' : o1 = .unguard → 0 < gs.size := fun e => by rw [hgl]; exact List.length_pos_iff.mpr (hun e)
    have hrg := gset_rg (bad := K.bad) (o := o1) inv.rg
    have hz1 := gset_size (o := o1) (gs := gs)
    have F9 := inv.fr; have N9 := inv.ne
    simp only [dled, List.cons_append, List.nil_append] at N9
    refine whl_turn (k := 0) (by passes_own) ?_
    k_steps
    refine WhlIf.yes (decide_eq_true (by omega)) ?_
    k_extra "ktr_room"
    rename_i A1 rs1 sn1 off1 z1 z2 _ _ _ _ F9 N9
    exact ih _ _ ⟨_, _, _, _, _, _, _, _, _, _, _, inv_ok (os := os) inv F9 N9 A1 rs1 sn1 off1 z1 z2⟩ hq
  case back k i σ o1 g1 p1 q1 r hi hng hnd hun hb hgs hr ih =>
    obtain ⟨S, st, gs, as, ks, kg, ka, X, t, o, hg, inv⟩ := key
    have hil := (List.getElem?_eq_some_iff.mp hi).1
    obtain ⟨v, hv⟩ : ∃ v, xs[i]? = some v := ⟨_, Array.getElem?_eq_getElem (by omega)⟩
    obtain ⟨od, ho, hrod⟩ := hro.get i v (by rw [Array.getElem?_toList]; exact hv)
    rw [hi] at ho; cases ho
    obtain ⟨ad, sw, tw, lw, rfl, hw1, hw2⟩ := ro_word hrod hng
    have ht := isTup_of hw1
    have AP := inv.ap; have hst := inv.rs; have hsn := inv.sn; have hoff := inv.off
    have b1 := inv.b1; have b2 := inv.b2; have b3 := inv.b3
    have c1 : st.size < 90000 := by omega
    have c2 : as.size < 90000 := by omega
    have c3 : gs.size < 90000 := by omega
    have hnd' : need o1 ≤ st.size := by rw [rss_size hst]; exact hnd
    have hgl : gs.size = σ.gs.length := by rw [← Array.length_toList]; exact inv.rg.length
    have hun' : o1 = .unguard → 0 < gs.size := fun e => by rw [hgl]; exact List.length_pos_iff.mpr (hun e)
    have hrg := gset_rg (bad := K.bad) (o := o1) inv.rg
    have hz1 := gset_size (o := o1) (gs := gs)
    have F9 := inv.fr; have N9 := inv.ne
    simp only [dled, List.cons_append, List.nil_append] at N9
    refine whl_turn (k := 0) (by passes_own) ?_
    k_steps
    refine WhlIf.yes (decide_eq_true (by omega)) ?_
    rw [hgs] at hrg
    obtain ⟨al2, t2, t3, hl1, hl2, _⟩ := hrg.last
    have hz2 : 0 < (gset o1 gs).size := by rw [← Array.length_toList, hrg.length, List.length_append]; exact Nat.succ_pos _
    have d1 := AP.wd; have d2 := AP.ws; have d3 := AP.ds
    have a1 := AP.gw; have a2 := AP.gd; have a3 := AP.gs; have a4 := AP.hg; have a5 := AP.ig; have a6 := AP.ag
    have e1 := AP.hd; have e2 := AP.id; have e3 := AP.ad
    have a7 : ∀ q ∈ X, q.1 ≠ V.G := fun q h => (inv.off q h).2.2.2.1.out
    have a8 : ∀ q ∈ X, q.1 ≠ V.D := fun q h => (inv.off q h).2.1.out
    k_extra "ktr_room"
    rename_i A1 rs1 sn1 off1 z1 z2 _ _ _ _ _ _ _ _ _ _ D1 _ l1 _ F9 N9
    exact ih _ _ ⟨_, _, _, _, _, _, _, _, _, _, _, inv_back inv hgs F9 N9 l1 A1 rs1 sn1 off1 z1 z2⟩ hq
  case fall k i σ o1 hi hng hnd hun hb hgs =>
    obtain ⟨S, st, gs, as, ks, kg, ka, X, t, o, hg, inv⟩ := key
    have hil := (List.getElem?_eq_some_iff.mp hi).1
    obtain ⟨v, hv⟩ : ∃ v, xs[i]? = some v := ⟨_, Array.getElem?_eq_getElem (by omega)⟩
    obtain ⟨od, ho, hrod⟩ := hro.get i v (by rw [Array.getElem?_toList]; exact hv)
    rw [hi] at ho; cases ho
    obtain ⟨ad, sw, tw, lw, rfl, hw1, hw2⟩ := ro_word hrod hng
    have ht := isTup_of hw1
    have AP := inv.ap; have hst := inv.rs; have hsn := inv.sn; have hoff := inv.off
    have b1 := inv.b1; have b2 := inv.b2; have b3 := inv.b3
    have c1 : st.size < 90000 := by omega
    have c2 : as.size < 90000 := by omega
    have c3 : gs.size < 90000 := by omega
    have hnd' : need o1 ≤ st.size := by rw [rss_size hst]; exact hnd
    have hgl : gs.size = σ.gs.length := by rw [← Array.length_toList]; exact inv.rg.length
    have hun' : o1 = .unguard → 0 < gs.size := fun e => by rw [hgl]; exact List.length_pos_iff.mpr (hun e)
    have hrg := gset_rg (bad := K.bad) (o := o1) inv.rg
    have hz1 := gset_size (o := o1) (gs := gs)
    have F9 := inv.fr; have N9 := inv.ne
    simp only [dled, List.cons_append, List.nil_append] at N9
    refine whl_turn (k := 0) (by passes_own) ?_
    k_steps
    refine WhlIf.yes (decide_eq_true (by omega)) ?_
    rw [hgs] at hrg
    have hz2 : (gset o1 gs).size = 0 := by rw [← Array.length_toList, hrg.length]; rfl
    k_extra "ktr_room"
    rename_i as1 _ _ ka1 _ _ F9 N9 A1 rs1 sn1 _ _ _ _ _ _ _ _
    refine hq _ _ ⟨_, _, _, F9, news_sub (l' := K.led w as1 ka1) N9 fun q hq => ?_, ⟨rfl, _, _, rfl, sn1⟩, rfl⟩
    simp only [Hk.led, List.mem_cons, List.not_mem_nil, or_false] at hq ⊢
    rcases hq with h | h | h <;> simp only [h, true_or, or_true]
set_option maxHeartbeats 40000000 in
theorem Mine.heights_fs {w : World} (os : List O) (hpl : Plain os) (hlen : os.length < 80000) (v : Value) (Pt : List (Addr × Obj)) (hPt : TabP Pt) :
    FS w 376 20 [v] (fun g => ListAt g v os ∧ CodeHd g 368 364) Pt (fun r P' => TabP P' ∧ ∃ t, r = .int (depthP os).2 t) := by
  w_top off
  k_with_none
  k_with "callWith ref" => (k_here; k_dflt (first | (refine' callWith_K ?k1z1 ?k2z1 ?_; (case k1z1 => k_asm); (case k2z1 => k_is); k_whole) | (refine' callWith_K0 ?k1z1 ?k2z1 ?_; (case k1z1 => k_in); (case k2z1 => k_is); k_whole)))
  k_with "binaryOp Add ref ref" => (k_here; with_reducible refine' Mine.add_mem ?Fz2 ?Nz2 ?az2 ?bz2 ?zz2 ?_; (case Fz2 => k_asm); (case Nz2 => k_asm); (case az2 => k_dflt k_mem); (case bz2 => k_dflt k_mem); (case zz2 => ((try dsimp only [Mine.T.size] at *); (try simp only [Array.size_append, List.size_toArray, List.length_cons, List.length_nil]); omega)); intro _ _ _ _ l1zz; (try k_lt l1zz); (try (revert l1zz; intro _)); (try k_sweep))
  k_with "call builtin:len" => (k_here; with_reducible refine' Mine.len_mem ?Nz3 ?mz3 ?ez3 ?zz3 ?_; (case Nz3 => k_asm); (case mz3 => k_dflt k_mem); (case ez3 => first | with_reducible assumption | exact rfl); (case zz3 => ((try dsimp only [Mine.T.size] at *); (try simp only [Array.size_push]); omega)); intro _ _)
  k_with "call builtin:len" => (k_here; with_reducible refine' Mine.len_tupN ?Tz4 ?ez4 ?zz4 ?_; (case Tz4 => k_dflt is_tup); (case ez4 => first | with_reducible assumption | exact rfl); (case zz4 => first | (k_dflt decide) | ((try dsimp only [Mine.T.size] at *); omega)); intro _ _)
  k_with "call builtin:list.extend" => (k_here; with_reducible refine' Mine.ext_mem ?Fz5 ?Nz5 ?bz5 ?Uz5 ?zz5 ?_; (case Fz5 => k_asm); (case Nz5 => k_asm); (case bz5 => k_dflt k_mem); (case Uz5 => k_dflt k_updF); (case zz5 => ((try dsimp only [Mine.T.size] at *); (try simp only [Array.size_append, List.size_toArray, List.length_cons, List.length_nil]); omega)); intro _ _ _ Nqzz; (try dsimp only at Nqzz); (try (revert Nqzz; intro _)); (try k_sweep))
  k_with "call ref" => (k_here; (with_reducible show wpAny _ _ (PySem.call (Value.ref 296) _) _ _ _); k_dflt (refine' Mine.ord_call ?Iz6 ?Bz6 ?Fz6 ?Xz6 ?Nz6 ?Tz6 ?rz6 ?kz6 ?fz6 ?ez6 ?sz6 ?wz6 ?dz6 ?uz6 ?_; (case Iz6 => assumption); (case Bz6 => k_asm); (case Fz6 => k_asm); (case Xz6 => k_asm); (case Nz6 => k_asm); (case Tz6 => k_asm); (case rz6 => assumption); (case kz6 => first | exact fun _ _ e => e | exact Fr.keep (by assumption) | exact fun _ _ e => Fr.keep (by assumption) _ _ (Fr.keep (by assumption) _ _ e)); (case fz6 => exact rfl); (case ez6 => exact rfl); (case sz6 => ((try dsimp only [Mine.T.size] at *); omega)); (case wz6 => first | assumption | exact And.left (by assumption) | exact And.right (by assumption)); (case dz6 => ((try dsimp only [Mine.T.size] at *); (try dsimp only [depth_deeper, Mine.top]); (first | exact Mine.rm2 (by assumption) rfl | exact Mine.rm_tree (by assumption) | exact Mine.rm_ord (by assumption) (Nat.succ_le_succ (Nat.le_add_right _ _)) | exact Mine.rm_ord (by assumption) (Nat.succ_le_succ (Nat.le_add_left _ _)) | exact Mine.rm_ord (by assumption) (Nat.le_refl _) | omega))); (case uz6 => ((try dsimp only [Mine.T.size] at *); (try dsimp only [units_deeper, units_in1, Mine.top]); (first | exact Mine.rm2 (by assumption) rfl | exact Mine.rm_treeu (by assumption) | exact Mine.rm_ordu (by assumption) (Nat.succ_le_succ (Nat.le_add_right _ _)) | exact Mine.rm_ordu (by assumption) (Nat.succ_le_succ (Nat.le_add_left _ _)) | exact Mine.rm_ordu (by assumption) (Nat.le_refl _) | omega)))); intro _ _ _ _ _ _ _ _ _ _ _ _ _; (try k_sweep))
  k_with "call ref" => (k_here; (with_reducible show wpAny _ _ (PySem.call (Value.ref 303) _) _ _ _); k_dflt (refine' Mine.fs_call0 (mo := 2) ?Iz7 ?Bz7 ?Fz7 ?Xz7 ?Nz7 ?Tz7 ?rz7 ?kz7 ?fz7 ?ez7 ?dz7 ?uz7 ?_; (case Iz7 => assumption); (case Bz7 => k_asm); (case Fz7 => k_asm); (case Xz7 => k_asm); (case Nz7 => k_asm); (case Tz7 => k_asm); (case rz7 => assumption); (case kz7 => first | exact fun _ _ e => e | exact Fr.keep (by assumption) | exact fun _ _ e => Fr.keep (by assumption) _ _ (Fr.keep (by assumption) _ _ e)); (case fz7 => exact rfl); (case ez7 => exact rfl); (case dz7 => ((try dsimp only [Mine.T.size] at *); (try dsimp only [depth_deeper, Mine.top]); (first | exact Mine.rm2 (by assumption) rfl | exact Mine.rm_tree (by assumption) | exact Mine.rm_ord (by assumption) (Nat.succ_le_succ (Nat.le_add_right _ _)) | exact Mine.rm_ord (by assumption) (Nat.succ_le_succ (Nat.le_add_left _ _)) | exact Mine.rm_ord (by assumption) (Nat.le_refl _) | omega))); (case uz7 => ((try dsimp only [Mine.T.size] at *); (try dsimp only [units_deeper, units_in1, Mine.top]); (first | exact Mine.rm2 (by assumption) rfl | exact Mine.rm_treeu (by assumption) | exact Mine.rm_ordu (by assumption) (Nat.succ_le_succ (Nat.le_add_right _ _)) | exact Mine.rm_ordu (by assumption) (Nat.succ_le_succ (Nat.le_add_left _ _)) | exact Mine.rm_ordu (by assumption) (Nat.le_refl _) | omega)))); intro _ _ _ _ _ _ _ _ _ _ _ _ _; (try k_sweep))
  k_with "call ref" => (k_here; (with_reducible show wpAny _ _ (PySem.call (Value.ref 338) _) _ _ _); k_dflt (refine' Mine.fs_pure ?Iz8 ?Bz8 ?Fz8 ?Xz8 ?Nz8 ?Tz8 ?rz8 ?fz8 ?ez8 ?dz8 ?uz8 ?_; (case Iz8 => assumption); (case Bz8 => k_asm); (case Fz8 => k_asm); (case Xz8 => k_asm); (case Nz8 => k_asm); (case Tz8 => k_asm); (case rz8 => exact fun g' hk _ => Mine.RO.mono (by assumption) hk); (case fz8 => exact rfl); (case ez8 => exact rfl); (case dz8 => ((try dsimp only [depth_deeper, Mine.top]); (first | exact Mine.rm2 (by assumption) rfl | exact Mine.rm_tree (by assumption) | exact Mine.rm_ord (by assumption) (Nat.succ_le_succ (Nat.le_add_right _ _)) | exact Mine.rm_ord (by assumption) (Nat.succ_le_succ (Nat.le_add_left _ _)) | exact Mine.rm_ord (by assumption) (Nat.le_refl _) | omega))); (case uz8 => ((try dsimp only [units_deeper, units_in1, Mine.top]); (first | exact Mine.rm2 (by assumption) rfl | exact Mine.rm_treeu (by assumption) | exact Mine.rm_ordu (by assumption) (Nat.succ_le_succ (Nat.le_add_right _ _)) | exact Mine.rm_ordu (by assumption) (Nat.succ_le_succ (Nat.le_add_left _ _)) | exact Mine.rm_ordu (by assumption) (Nat.le_refl _) | omega)))); intro _ _ _ _ _ eqzz; (obtain ⟨tqzz, eqzz⟩ := eqzz; subst eqzz); (try (revert tqzz; intro _)); (try k_sweep))
  k_with "call builtin:isinstance" => (k_here; with_reducible refine' Mine.isi_tup ?Tz9 ?_; (case Tz9 => k_dflt is_tup); intro _)
  k_with "execs cons" => (k_here; first | (with_reducible refine' Mine.skip_if0 ?Fz10 ?vz10 ?bz10 ?_ ?x1z10 ?x2z10 ?x3z10; (case Fz10 => k_asm); (case vz10 => k_dflt exact rfl); (case bz10 => k_dflt decide); (case x1z10 => k_dflt exact rfl); (case x2z10 => k_dflt exact rfl); (case x3z10 => k_dflt decide); intro _) | (with_reducible refine' Mine.skip_or0 ?Fz10 ?vz10 ?bz10 ?b2z10 ?_ ?x1z10 ?x2z10 ?x3z10; (case Fz10 => k_asm); (case vz10 => k_dflt exact rfl); (case bz10 => k_dflt decide); (case b2z10 => k_dflt decide); (case x1z10 => k_dflt exact rfl); (case x2z10 => k_dflt exact rfl); (case x3z10 => k_dflt decide); intro _) | (with_reducible refine' Mine.take_if0 ?Fz10 ?vz10 ?bz10 ?_ ?x1z10 ?x2z10 ?x3z10; (case Fz10 => k_asm); (case vz10 => k_dflt exact rfl); (case bz10 => k_dflt decide); (case x1z10 => k_dflt exact rfl); (case x2z10 => k_dflt exact rfl); (case x3z10 => k_dflt decide); intro _))
  k_with "execs cons" => (k_here; first | (with_reducible refine' Mine.skip_in0 ?Fz11 ?Nz11 ?vz11 ?sz11 ?nz11 ?bz11 ?mz11 ?_ ?x1z11 ?x2z11 ?x3z11; (case Fz11 => k_asm); (case Nz11 => k_asm); (case vz11 => k_dflt exact rfl); (case sz11 => k_dflt exact rfl); (case nz11 => k_dflt decide); (case bz11 => k_dflt decide); (case mz11 => k_dflt exact rfl); (case x1z11 => k_dflt exact rfl); (case x2z11 => k_dflt exact rfl); (case x3z11 => k_dflt decide); intro _ _ _ _; (try k_sweep)) | (with_reducible refine' Mine.take_in0 ?Fz11 ?Nz11 ?vz11 ?sz11 ?nz11 ?bz11 ?mz11 ?_ ?x1z11 ?x2z11 ?x3z11; (case Fz11 => k_asm); (case Nz11 => k_asm); (case vz11 => k_dflt exact rfl); (case sz11 => k_dflt exact rfl); (case nz11 => k_dflt decide); (case bz11 => k_dflt decide); (case mz11 => k_dflt exact rfl); (case x1z11 => k_dflt exact rfl); (case x2z11 => k_dflt exact rfl); (case x3z11 => k_dflt decide); intro _ _ _ _; (try k_sweep)))
  k_with "eval Subscript Name Constant" => (k_here; with_reducible refine' Mine.item_tup0 ?Fz12 ?vz12 ?tz12 ?loz12 ?hiz12 ?jz12 ?uz12 ?_ ?x1z12 ?x2z12 ?x3z12; (case Fz12 => k_asm); (case vz12 => k_dflt exact rfl); (case tz12 => k_dflt is_tup); (case loz12 => k_dflt decide); (case hiz12 => k_dflt decide); (case jz12 => k_dflt exact rfl); (case uz12 => k_dflt exact rfl); (case x1z12 => k_dflt exact rfl); (case x2z12 => k_dflt exact rfl); (case x3z12 => k_dflt decide); intro _)
  k_with "call ref" => (k_here; (with_reducible show wpAny _ _ (PySem.call (Value.ref 103) _) _ _ _); k_dflt (refine' Mine.new_work ?Bz60 ?Fz60 ?Xz60 ?Nz60 ?Tz60 ?hfz60 ?hkez60 ?hdz60 ?huz60 ?_; (case Bz60 => k_asm); (case Fz60 => k_asm); (case Xz60 => k_asm); (case Nz60 => k_asm); (case Tz60 => k_asm); (case hfz60 => exact rfl); (case hkez60 => exact rfl); (case hdz60 => ((try dsimp only [Mine.top]); (first | exact Mine.rm2 (by assumption) rfl | exact Mine.rm_tree (by assumption) | exact Mine.rm_ord (by assumption) (Nat.succ_le_succ (Nat.le_add_right _ _)) | exact Mine.rm_ord (by assumption) (Nat.succ_le_succ (Nat.le_add_left _ _)) | exact Mine.rm_ord (by assumption) (Nat.le_refl _) | omega))); (case huz60 => ((try dsimp only [Mine.top]); (first | exact Mine.rm2 (by assumption) rfl | exact Mine.rm_treeu (by assumption) | exact Mine.rm_ordu (by assumption) (Nat.succ_le_succ (Nat.le_add_right _ _)) | exact Mine.rm_ordu (by assumption) (Nat.succ_le_succ (Nat.le_add_left _ _)) | exact Mine.rm_ordu (by assumption) (Nat.le_refl _) | omega)))); intro _ _ _ _ _ Nqzz a1qzz a2qzz a3qzz a4qzz a5qzz a6qzz apqzz; (try dsimp only [Mine.Wk.led, List.cons_append, List.nil_append] at Nqzz); (try (revert Nqzz a1qzz a2qzz a3qzz a4qzz a5qzz a6qzz apqzz; intro _ _ _ _ _ _ _ _)); (try k_sweep))
  k_with "call ref" => (k_here; (with_reducible show wpAny _ _ (PySem.call (Value.ref 250) _) _ _ _); k_dflt (refine' Mine.new_hooks ?Bz61 ?Fz61 ?Xz61 ?Nz61 ?Tz61 ?hfz61 ?hkez61 ?hdz61 ?huz61 ?_; (case Bz61 => k_asm); (case Fz61 => k_asm); (case Xz61 => k_asm); (case Nz61 => k_asm); (case Tz61 => k_asm); (case hfz61 => exact rfl); (case hkez61 => exact rfl); (case hdz61 => ((try dsimp only [Mine.top]); (first | exact Mine.rm2 (by assumption) rfl | exact Mine.rm_tree (by assumption) | exact Mine.rm_ord (by assumption) (Nat.succ_le_succ (Nat.le_add_right _ _)) | exact Mine.rm_ord (by assumption) (Nat.succ_le_succ (Nat.le_add_left _ _)) | exact Mine.rm_ord (by assumption) (Nat.le_refl _) | omega))); (case huz61 => ((try dsimp only [Mine.top]); (first | exact Mine.rm2 (by assumption) rfl | exact Mine.rm_treeu (by assumption) | exact Mine.rm_ordu (by assumption) (Nat.succ_le_succ (Nat.le_add_right _ _)) | exact Mine.rm_ordu (by assumption) (Nat.succ_le_succ (Nat.le_add_left _ _)) | exact Mine.rm_ordu (by assumption) (Nat.le_refl _) | omega)))); intro _ _ _ _ _ _ _ _ _ _ _ _; (try k_sweep))
  k_with "call ref" => (k_here; (with_reducible show wpAny _ _ (PySem.call (Value.ref 268) _) _ _ _); k_dflt (refine' Mine.d_orderX ?OKz62 ?APz62 ?stz62 ?nz62 ?ndz62 ?szz62 ?saz62 ?sgz62 ?unz62 ?cz62 ?hbz62 ?Xz62 ?roz62 ?prez62 ?Bz62 ?Fz62 ?XXz62 ?Nz62 ?Tz62 ?hmz62 ?hfz62 ?hkez62 ?hdz62 ?huz62 ?_; (case OKz62 => assumption); (case APz62 => assumption); (case Xz62 => assumption); (case stz62 => assumption); (case nz62 => assumption); (case ndz62 => assumption); (case szz62 => assumption); (case saz62 => assumption); (case sgz62 => assumption); (case unz62 => assumption); (case cz62 => assumption); (case hbz62 => assumption); (case roz62 => assumption); (case prez62 => assumption); (case Bz62 => k_asm); (case Fz62 => k_asm); (case XXz62 => k_asm); (case Nz62 => k_asm); (case Tz62 => k_asm); (case hmz62 => exact fun _ h => h); (case hfz62 => exact rfl); (case hkez62 => exact rfl); (case hdz62 => ((try dsimp only [Mine.top]); (first | exact Mine.rm2 (by assumption) rfl | exact Mine.rm_tree (by assumption) | exact Mine.rm_ord (by assumption) (Nat.succ_le_succ (Nat.le_add_right _ _)) | exact Mine.rm_ord (by assumption) (Nat.succ_le_succ (Nat.le_add_left _ _)) | exact Mine.rm_ord (by assumption) (Nat.le_refl _) | omega))); (case huz62 => ((try dsimp only [Mine.top]); (first | exact Mine.rm2 (by assumption) rfl | exact Mine.rm_treeu (by assumption) | exact Mine.rm_ordu (by assumption) (Nat.succ_le_succ (Nat.le_add_right _ _)) | exact Mine.rm_ordu (by assumption) (Nat.succ_le_succ (Nat.le_add_left _ _)) | exact Mine.rm_ordu (by assumption) (Nat.le_refl _) | omega)))); intro _ _ _ _ _ _ _ _ _ Nqzz Aqzz rsqzz snqzz offqzz z1qzz z2qzz y1qzz y2qzz y3qzz; (try dsimp only [Mine.dled, List.cons_append, List.nil_append] at Nqzz); (try (revert Nqzz Aqzz rsqzz snqzz offqzz z1qzz z2qzz y1qzz y2qzz y3qzz; intro _ _ _ _ _ _ _ _ _ _)); (try k_sweep))
  refine' Mine.fs_plain (binds := [(Str.ofString "orders", v)]) ?ho ?hcd ?hb ?hl ?h ?c2 ?c3 ?c4 ?c5
  case ho => (intro P; k_dflt k_is)
  case hcd => (intro P; k_dflt k_is)
  case hb => (intro s; exact BindsTo.of_eq rfl)
  case hl => exact locs rfl
  case c5 => decide
  case c2 => exact rfl
  case c3 => exact rfl
  case c4 => exact rfl
  case h =>
  intro dp un gd outer base g s p loose mean mg mb L' h' tk B' X' T' F' N' pre hd hu
  obtain ⟨⟨ax, xs, rfl, hx, hro⟩, hcd⟩ := pre
  have hsz : xs.size = os.length := by rw [← Array.length_toList]; exact hro.length
  try dsimp only
  with_reducible show wpAny _ _ _ _ _ _
  k_fold
  repeat' ((fail_if_success (with_reducible show wpAny _ _ (PySem.call (Value.ref 369) _) _ _ _)); first | (k_unfold; (try dsimp only)) | (k_end; wrow_close) | walk1 | (dsimp only; walk1) | (leave1; walk_say "STEP leave1"; try dsimp only) | fail "no step")
  rename_i V S _ _ a1 a2 a3 a4 a5 a6 ap al _ la bl _ F1 N1 lb
  refine' rep_call (R := [(bl, W.listOf #[] 0), (al, W.listOf #[] 0), (V.W, instObj 103 V.D), (V.D, wdict w S V.G V.k1 V.k2 V.k3 V.k4), (S, W.listOf #[] 0), (V.G, W.listOf #[] 0)]) hPt hcd B' F1 X' N1 T' rfl rfl ?hP ?hR ?hd ?hu ?_
  case hP => exact fun q h => .tail _ (.tail _ (.tail _ (.tail _ (.tail _ (.tail _ h)))))
  case hR =>
    intro q hq
    simp only [List.mem_cons, List.not_mem_nil, or_false] at hq
    refine ⟨?_, fun r hr => ?_⟩
    · simp only [List.mem_cons]
      rcases hq with h | h | h | h | h | h <;> simp only [h, true_or, or_true]
    · rcases hq with rfl | rfl | rfl | rfl | rfl | rfl
      · exact NeA.gt (allLt_mem lb.2.2.2.2.2 r hr)
      · exact NeA.gt (allLt_mem la.2.2.2.2 r hr)
      · exact (ap r hr).1.symm
      · exact (ap r hr).2.1.symm
      · exact (ap r hr).2.2.1.symm
      · exact (ap r hr).2.2.2.symm
  case hd => show dp + 1 + 2 < 900; omega
  case hu => show un + _ + 5 * 2 < 3000; omega
  clear F1 N1
  intro f fo cc oc c1 o1 c2 o2 h1 tk1 F2 N2 hPt2 rep ap2
  repeat' ((fail_if_success (with_reducible show wpAny _ _ (PySem.exec (PySem.Stmt.For _ _ _ _ _) _) _ _ _)); first | (k_unfold; (try dsimp only)) | (k_end; wrow_close) | walk1 | (dsimp only; walk1) | (leave1; walk_say "STEP leave1"; try dsimp only) | fail "no step")
  rename_i dd _ od _ _ _ _ _ ld x d nts q1 q2 q3 _ _ n1 ap3 D _ lD _ _ _ h9 F9 N9
  have ap4 : ∀ {a o b o'}, (a, o) ∈ [(f, fo), (cc, oc), (c1, o1), (c2, o2), ((364 : Addr), tabOne cc)] → (b, o') ∈ [(bl, W.listOf #[] 0), (al, W.listOf #[] 0), (V.W, instObj 103 V.D), (V.D, wdict w S V.G V.k1 V.k2 V.k3 V.k4), (S, W.listOf #[] 0), (V.G, W.listOf #[] 0)] → NeA a b := fun h1 h2 => ap2 _ h1 _ h2
  have ap5 : ∀ {a o}, (a, o) ∈ [(dd, od), (f, fo), (cc, oc), (c1, o1), (c2, o2), ((364 : Addr), tabOne cc), (bl, W.listOf #[] 0), (al, W.listOf #[] 0), (V.W, instObj 103 V.D), (V.D, wdict w S V.G V.k1 V.k2 V.k3 V.k4), (S, W.listOf #[] 0), (V.G, W.listOf #[] 0)] → NeA a x ∧ NeA a d := fun h1 => ap3 _ h1
  obtain ⟨la1, la2, la3, la4, _⟩ := la
  obtain ⟨lb0, lb1, lb2, lb3, lb4, _⟩ := lb
  obtain ⟨K, hK⟩ : ∃ K : Hk, K = ⟨x, d, f, al, bl, .ref dd, nts, q1, q2, q3, [(f, fo), (cc, oc), (c1, o1), (c2, o2)], [], 0, []⟩ := ⟨_, rfl⟩
  have OK : K.Ok w := by subst hK; exact ⟨rep, .nil, n1, (ap5 (a := al) (by k_mem)).1.symm, (ap5 (a := al) (by k_mem)).2.symm⟩
  have AP : Apart V K S := by
    subst hK
    constructor <;> first | assumption | exact (ap5 (by k_mem)).1.symm | exact (ap5 (by k_mem)).2.symm | exact NeA.gt (by assumption)
  have hoff : OffX V K S [(f, fo), (cc, oc), (c1, o1), (c2, o2), (bl, W.listOf #[] 0), (364, tabOne cc)] := by
    subst hK
    intro q hq
    simp only [List.mem_cons, List.not_mem_nil, or_false] at hq
    rcases hq with rfl | rfl | rfl | rfl | rfl | rfl <;> refine ⟨?_, ?_, ?_, ?_, ?_, ?_, ?_⟩ <;> first | exact ap4 (by k_mem) (by k_mem) | exact (ap5 (by k_mem)).1 | exact (ap5 (by k_mem)).2 | exact NeA.gt (by assumption)
  have hpre1 : ∀ (I : Addr) (o₁ : Obj) (g' : Heap), (∀ q ∈ (I, o₁) :: [(f, fo), (cc, oc), (c1, o1), (c2, o2), (bl, W.listOf #[] 0), (364, tabOne cc)], g'.get? q.1 = some q.2) → (∀ b o, g.get? b = some o → g'.get? b = some o) → K.pre g' := by
    subst hK
    intro I o₁ g' h _
    exact ⟨fun q hq => h q (.tail _ (List.mem_append_left [(bl, W.listOf #[] 0), ((364 : Addr), tabOne cc)] hq)), h (bl, W.listOf #[] 0) (by k_mem)⟩
  have N3 : News g L' h9 (dled w V K S #[] #[] #[] 0 0 0 ++ [(f, fo), (cc, oc), (c1, o1), (c2, o2), (bl, W.listOf #[] 0), (364, tabOne cc)]) := by
    subst hK
    refine news_sub N9 fun q hq => ?_
    simp only [dled, List.mem_cons, List.cons_append, List.nil_append] at hq ⊢
    rcases hq with h | h | h | h | h | h | h | h | h | h | h | h | h | h <;> simp only [h, true_or, or_true]
  rw [hgm_intro' (V := V) (K := K) (ax := ax) (x := x) (by rw [hK])] at F9
  clear N9 ap2 ap3 ap4 ap5 n1 ap lD ld a1 a2 a3 a4 a5 a6
  have hbad : K.bad = [] := by rw [hK]
  clear hK
  generalize hX0 : [(f, fo), (cc, oc), (c1, o1), (c2, o2), (bl, W.listOf #[] 0), ((364 : Addr), tabOne cc)] = X₀ at N3 hoff hpre1
  have hP2 : ∀ q ∈ [((364 : Addr), tabOne cc), (cc, oc)], q ∈ X₀ := by
    subst hX0
    intro q hq
    simp only [List.mem_cons, List.not_mem_nil, or_false] at hq ⊢
    rcases hq with h | h <;> simp only [h, true_or, or_true]
  clear hX0 rep la1 la2 la3 la4 lb0 lb1 lb2 lb3 lb4
  refine' for_base (ax := ax) (xs := xs) (.inl hx) rfl F9 N3 (fun Q' h => nameX_L (cl := []) F9 rfl (h _) rfl rfl (by decide)) (HgtJ w V K os ax X₀) ?z0 ?z1 ?z2
  case z0 => exact ⟨S, #[], #[], 0, 0, 0, _, none, rfl, rfl, AP, .nil, rfl, hoff, Nat.le_refl _, Nat.le_refl _⟩
  case z1 =>
    clear F9 N3 AP hoff
    intro i v m₁ news₁ h₁ tk₁ I₁ o₁ hv hJ hap F₁ N₁
    obtain ⟨S, st, as, ks, kg, ka, t, o, rfl, rfl, AP, hst, hsn, hoff0, z1, z2⟩ := hJ
    obtain ⟨od, ho, hro1⟩ := hro.get i v (by rw [Array.getElem?_toList]; exact hv)
    obtain ⟨p1, p2, p3, p4⟩ := hpl i od ho
    have hil := (List.getElem?_eq_some_iff.mp ho).1
    have hoff : OffX V K S ((I₁, o₁) :: X₀) := offX_cons hoff0 hap
    have hXI : ∀ q ∈ X₀, q.1 ≠ I₁ := fun q h => hap q (List.mem_append_right _ h)
    have hpre2 := hpre1 I₁ o₁
    have hb := (chg_len (bad := K.bad) hbad p1 p2 p3 p4).1
    have hlen2 := (chg_len (bad := K.bad) hbad p1 p2 p3 p4).2
    have hlk := plain_lock hpl i (Nat.le_of_lt hil)
    have hnd : need od ≤ st.size := by rw [rss_size hst]; exact p4
    have c1' : st.size < 90000 := by omega
    have c2' : as.size < 90000 := by omega
    have c3' : (#[] : Array Value).size < 90000 := by decide
    have hun : od = .unguard → 0 < (#[] : Array Value).size := fun e => absurd e p2
    have F4 : Fr g L' h₁ (hgm V K ax (depthP (os.take i)).2 t o) := F₁
    have N4 : News g L' h₁ (dled w V K S st #[] as ks kg ka ++ ((I₁, o₁) :: X₀)) := news_sub N₁ dled_sub
    clear N₁ F₁ hap hpre1 hpl hoff0 hv hP2 hPt2 hcd
    simp only [dled, List.cons_append, List.nil_append] at N4
    k_steps
    rename_i S1 st1 as1 ks1 kg1 ka1 _ _ A1 rs1 sn1 off1 x1 x2 _ _ _ _ _ _ _ _ F9 N9
    have hsz1 : (st1.size : Int) = (depthP (os.take i)).1 + chg od := by rw [rss_size rs1, hlen2, hlk]
    rw [gset_nil] at N9
    rw [hbad] at rs1 sn1
    exact ⟨_, _, _, dled w V K S1 st1 #[] as1 ks1 kg1 ka1 ++ X₀, rfl, F9, news_sub N9 sub_dled, off_head off1 hXI, hgtJ_succ (by rw [depthP_succ ho, hsz1]; rfl) A1 (by rw [runP_succ ho]; exact rs1) (by rw [runP_succ ho]; exact sn1) (fun q hq => off1 q (.tail _ hq)) (by omega) (by omega)⟩
  case z2 =>
    clear F9 N3 AP hoff
    intro h' tk' m' news' F' N' hJ
    obtain ⟨S, st, as, ks, kg, ka, t, o, rfl, rfl, AP, _⟩ := hJ
    rw [hsz, List.take_length] at F'
    k_steps
    (show Done _ _ _ _ _)
    exact ⟨_, _, _, (by k_asm), news_sub N' fun q hq => List.mem_append_right _ (hP2 q hq), ⟨hPt2, _, rfl⟩, rfl⟩
namespace Mine
section
variable {prog : Program} {w : World} {A : Around} {E : Value → Shared → Prop} {env : Env} {hp h₀ : Heap} {gs : Array GenState} {dr : Drawn} {tk : Nat} {os : OsState} {m : Str → Option Value} {news : List (Addr × Obj)} {target : Expr} {body : List Stmt} {Q : Flow → Shared → Prop}
/-- a for over a list of the ledger that no turn changes -/
theorem iter_led {ax : Addr} {its : Array Value} {k : Nat} (hh : A.handled = none) (F : Fr h₀ env.locals hp m) (N : News h₀ env.locals hp news)
    (J : Nat → (Str → Option Value) → List (Addr × Obj) → Prop) (h0 : J 0 m news) (hmem : ∀ i m news, J i m news → (ax, W.listOf its k) ∈ news)
    (step : ∀ i v m₁ news₁ h₁ tk₁ I o, its[i]? = some v → J i m₁ news₁ → (∀ p ∈ news₁, p.1 ≠ I) → Fr h₀ env.locals h₁ m₁ → News h₀ env.locals h₁ ((I, o) :: news₁) →
      wpAny (model prog w) A (assign target env v) (fun _ s₃ => wpAny (model prog w) A (execs body env) (Turn h₀ env.locals I o (J (i + 1)) gs dr os Q) E s₃) E ⟨h₁, gs, dr, tk₁, os⟩)
    (fin : ∀ h' tk m' news', Fr h₀ env.locals h' m' → News h₀ env.locals h' news' → J its.size m' news' → Q .next ⟨h', gs, dr, tk, os⟩) :
    wpAny (model prog w) A (pyIter (.ref ax)) (fun it s₂ => TurnsAt prog w A h₀ env target body Q E it s₂) E ⟨hp, gs, dr, tk, os⟩ := by
  have hm0 := hmem _ _ _ h0
  have hax := N _ hm0
  have hl' : hp.IsList ax its := N.isList hm0
  have hne : ax ≠ hp.objs.size := Nat.ne_of_lt (Heap.lt_size hax.1)
  have hI0 : h₀.get? hp.objs.size = none := by
    cases q : h₀.get? hp.objs.size with
    | none => rfl
    | some o => exact absurd (Heap.lt_size (F.keep _ _ q)) (Nat.lt_irrefl _)
  have hIL : hp.objs.size ≠ env.locals := Nat.ne_of_gt F.ns.lt
  have hnI : ∀ p ∈ news, p.1 ≠ hp.objs.size := fun p hp' => Nat.ne_of_lt (Heap.lt_size (N p hp').1)
  refine wpAny_pyIter_list (s := ⟨hp, gs, dr, tk, os⟩) hl' ?_
  generalize hI : hp.objs.size = I at *
  have WW := Walks.list (prog := prog) (w := w) hh I ax hne its
  have hself : ∀ i (h : Heap), (h.IsListIter I ax i ∧ h.IsList ax its) → ∃ o, h.get? I = some o := fun i h st => by obtain ⟨o, e, _⟩ := st.1; exact ⟨o, e⟩
  refine ⟨I, [I, ax], [I], its.size, _, _, _, m, news, J, rfl, KTurns.ofWalks WW (fun i v s Q E st q => letGo_listiter st.1 q), fun hb => ?_, fun b hb => by rw [List.mem_singleton.mp hb]; exact hI0, fun p hp q => hnI p hp (List.mem_singleton.mp q),
    ⟨⟨_, by rw [← hI]; exact Heap.get?_push_size _ rfl, rfl, rfl⟩, hl'.at fun o e => Heap.get?_push_of_some _ e⟩, F.push _, fun p hp' => ⟨Heap.get?_push_of_some _ (N p hp').1, (N p hp').2⟩, h0, ?_, ?_⟩
  · rcases List.mem_cons.mp hb with e | hb
    · exact hIL e.symm
    · exact hax.2.1 (List.mem_singleton.mp hb).symm
  · intro i v m₁ news₁ h₁ tk₁ own hi hP hJ hn1 hown hget hall hst₁ F₁ N₁
    obtain ⟨o, ho⟩ := hself _ _ hst₁
    have hmemo := hall I (.head _) hI0 o ho
    have hx1 := N₁ _ (List.mem_append_right own (hmem _ _ _ hJ))
    have only : ∀ p ∈ own, p = (I, o) ∨ p = (ax, W.listOf its k) := fun p hp => by
      obtain ⟨pa, po⟩ := p
      have e2 := hget _ hp
      rcases List.mem_cons.mp (hown _ hp) with e | e
      · simp only at e e2
        rw [e, ho] at e2
        exact .inl (by rw [e, ← Option.some.inj e2])
      · have e := List.mem_singleton.mp e
        simp only at e e2
        rw [e, hx1.1] at e2
        exact .inr (by rw [e, ← Option.some.inj e2])
    have NI : News h₀ env.locals h₁ ((I, o) :: news₁) := fun p hp => by
      rcases List.mem_cons.mp hp with rfl | hp
      · exact N₁ _ (List.mem_append_left _ hmemo)
      · exact N₁ _ (List.mem_append_right _ hp)
    have hn1' : ∀ p ∈ news₁, p.1 ≠ I := fun p hp q => hn1 p hp (List.mem_singleton.mpr q)
    refine wpAny_mono (step i v m₁ news₁ h₁ tk₁ I o hP hJ hn1' F₁ NI) (fun _ s₃ h₃ => wpAny_mono h₃ (fun f s₄ h₄ => ?_) fun _ _ e => e) fun _ _ e => e
    have conv : (∃ h' tk m' news', s₄ = ⟨h', gs, dr, tk, os⟩ ∧ Fr h₀ env.locals h' m' ∧ News h₀ env.locals h' ((I, o) :: news') ∧ (∀ q ∈ news', q.1 ≠ I) ∧ J (i + 1) m' news') →
        LoopStepU h₀ env.locals [I] own (J (i + 1)) ⟨h₁, gs, dr, tk₁, os⟩ .next s₄ := by
      rintro ⟨h', tk', m', news', e, F', N', ap, j⟩
      refine ⟨rfl, h', tk', m', news', e, F', fun p hp => ?_, fun p hp q => ap p hp (List.mem_singleton.mp q), j⟩
      rcases List.mem_append.mp hp with hp | hp
      · rcases only p hp with e | e <;> rw [e]
        · exact N' _ (.head _)
        · exact N' _ (.tail _ (hmem _ _ _ j))
      · exact N' _ (.tail _ hp)
    cases f with
    | ret v => exact h₄
    | brk => exact h₄
    | next => exact conv h₄
    | cont => exact conv h₄
  · intro h' tk' m' news' F' N' _ j
    exact fin h' tk' m' news' F' N' j
end
theorem ints_item {vs : List Value} {ns : List Int} (h : IntsAre vs ns) : ∀ (i : Nat) (v : Value), vs[i]? = some v → ∃ n t, v = .int n t := by
  induction h with
  | nil => intro i v e; simp at e
  | cons n t _ ih =>
    intro i v e
    cases i with
    | zero => cases e; exact ⟨_, _, rfl⟩
    | succ i => exact ih i v e
abbrev tm (ax : Addr) (gr : Int) (t : Tok) (o : Option Value) : Str → Option Value :=
  fun y => if y = Str.ofString "grand" then some (.int gr t) else if y = Str.ofString "one" then o else List.lookup y [(Str.ofString "script", Value.ref ax)].reverse
theorem tm_intro {ax : Addr} {gr : Int} {t : Tok} : (fun y => if y = Str.ofString "grand" then some (Value.int gr t) else List.lookup y [(Str.ofString "script", Value.ref ax)].reverse) = tm ax gr t none := by
  funext y
  by_cases h1 : y = Str.ofString "grand"
  · subst h1; rfl
  by_cases h2 : y = Str.ofString "one"
  · subst h2; rfl
  simp only [tm, h1, h2, if_false]
theorem tm_set {ax : Addr} {gr gr' : Int} {t t' : Tok} {o o' : Option Value} : (fun y => if y = Str.ofString "grand" then some (Value.int gr' t') else if y = Str.ofString "one" then o' else tm ax gr t o y) = tm ax gr' t' o' := by
  funext y
  by_cases h1 : y = Str.ofString "grand" <;> by_cases h2 : y = Str.ofString "one" <;> simp only [tm, h1, h2, if_true, if_false] <;> rfl
noncomputable def TotJ (ax : Addr) (l : List (Addr × Obj)) (_i : Nat) (m : Str → Option Value) (news : List (Addr × Obj)) : Prop := news = l ∧ ∃ gr t o, m = tm ax gr t o ∧ 0 ≤ gr
theorem tot_nn {gr x : Int} (h : 0 ≤ gr) : 0 ≤ gr * 65536 + x.fmod 65536 := by
  rw [Int.fmod_eq_emod_of_nonneg _ (by decide)]
  have := Int.emod_nonneg x (show (65536 : Int) ≠ 0 by decide)
  omega
end Mine
set_option maxHeartbeats 40000000 in
theorem Mine.total_fs {w : World} (ax : Addr) (vs : List Value) (ns : List Int) (hi : IntsAre vs ns) (hlen : ns.length ≤ 1048576) : FS w 352 3 [.ref ax] (fun g => g.IsList ax vs.toArray) [] (fun r _ => ∃ n t, r = .int n t ∧ 0 ≤ n) := by
  w_top off
  k_with_none
  k_with "callWith ref" => (k_here; k_dflt (first | (refine' callWith_K ?k1z1 ?k2z1 ?_; (case k1z1 => k_asm); (case k2z1 => k_is); k_whole) | (refine' callWith_K0 ?k1z1 ?k2z1 ?_; (case k1z1 => k_in); (case k2z1 => k_is); k_whole)))
  k_with "binaryOp Add ref ref" => (k_here; with_reducible refine' Mine.add_mem ?Fz2 ?Nz2 ?az2 ?bz2 ?zz2 ?_; (case Fz2 => k_asm); (case Nz2 => k_asm); (case az2 => k_dflt k_mem); (case bz2 => k_dflt k_mem); (case zz2 => ((try dsimp only [Mine.T.size] at *); (try simp only [Array.size_append, List.size_toArray, List.length_cons, List.length_nil]); omega)); intro _ _ _ _ l1zz; (try k_lt l1zz); (try (revert l1zz; intro _)); (try k_sweep))
  k_with "call builtin:len" => (k_here; with_reducible refine' Mine.len_mem ?Nz3 ?mz3 ?ez3 ?zz3 ?_; (case Nz3 => k_asm); (case mz3 => k_dflt k_mem); (case ez3 => first | with_reducible assumption | exact rfl); (case zz3 => ((try dsimp only [Mine.T.size] at *); (try simp only [Array.size_push]); omega)); intro _ _)
  k_with "call builtin:len" => (k_here; with_reducible refine' Mine.len_tupN ?Tz4 ?ez4 ?zz4 ?_; (case Tz4 => k_dflt is_tup); (case ez4 => first | with_reducible assumption | exact rfl); (case zz4 => first | (k_dflt decide) | ((try dsimp only [Mine.T.size] at *); omega)); intro _ _)
  k_with "call builtin:list.extend" => (k_here; with_reducible refine' Mine.ext_mem ?Fz5 ?Nz5 ?bz5 ?Uz5 ?zz5 ?_; (case Fz5 => k_asm); (case Nz5 => k_asm); (case bz5 => k_dflt k_mem); (case Uz5 => k_dflt k_updF); (case zz5 => ((try dsimp only [Mine.T.size] at *); (try simp only [Array.size_append, List.size_toArray, List.length_cons, List.length_nil]); omega)); intro _ _ _ Nqzz; (try dsimp only at Nqzz); (try (revert Nqzz; intro _)); (try k_sweep))
  k_with "call ref" => (k_here; (with_reducible show wpAny _ _ (PySem.call (Value.ref 296) _) _ _ _); k_dflt (refine' Mine.ord_call ?Iz6 ?Bz6 ?Fz6 ?Xz6 ?Nz6 ?Tz6 ?rz6 ?kz6 ?fz6 ?ez6 ?sz6 ?wz6 ?dz6 ?uz6 ?_; (case Iz6 => assumption); (case Bz6 => k_asm); (case Fz6 => k_asm); (case Xz6 => k_asm); (case Nz6 => k_asm); (case Tz6 => k_asm); (case rz6 => assumption); (case kz6 => first | exact fun _ _ e => e | exact Fr.keep (by assumption) | exact fun _ _ e => Fr.keep (by assumption) _ _ (Fr.keep (by assumption) _ _ e)); (case fz6 => exact rfl); (case ez6 => exact rfl); (case sz6 => ((try dsimp only [Mine.T.size] at *); omega)); (case wz6 => first | assumption | exact And.left (by assumption) | exact And.right (by assumption)); (case dz6 => ((try dsimp only [Mine.T.size] at *); (try dsimp only [depth_deeper, Mine.top]); (first | exact Mine.rm2 (by assumption) rfl | exact Mine.rm_tree (by assumption) | exact Mine.rm_ord (by assumption) (Nat.succ_le_succ (Nat.le_add_right _ _)) | exact Mine.rm_ord (by assumption) (Nat.succ_le_succ (Nat.le_add_left _ _)) | exact Mine.rm_ord (by assumption) (Nat.le_refl _) | omega))); (case uz6 => ((try dsimp only [Mine.T.size] at *); (try dsimp only [units_deeper, units_in1, Mine.top]); (first | exact Mine.rm2 (by assumption) rfl | exact Mine.rm_treeu (by assumption) | exact Mine.rm_ordu (by assumption) (Nat.succ_le_succ (Nat.le_add_right _ _)) | exact Mine.rm_ordu (by assumption) (Nat.succ_le_succ (Nat.le_add_left _ _)) | exact Mine.rm_ordu (by assumption) (Nat.le_refl _) | omega)))); intro _ _ _ _ _ _ _ _ _ _ _ _ _; (try k_sweep))
  k_with "call ref" => (k_here; (with_reducible show wpAny _ _ (PySem.call (Value.ref 303) _) _ _ _); k_dflt (refine' Mine.fs_call0 (mo := 2) ?Iz7 ?Bz7 ?Fz7 ?Xz7 ?Nz7 ?Tz7 ?rz7 ?kz7 ?fz7 ?ez7 ?dz7 ?uz7 ?_; (case Iz7 => assumption); (case Bz7 => k_asm); (case Fz7 => k_asm); (case Xz7 => k_asm); (case Nz7 => k_asm); (case Tz7 => k_asm); (case rz7 => assumption); (case kz7 => first | exact fun _ _ e => e | exact Fr.keep (by assumption) | exact fun _ _ e => Fr.keep (by assumption) _ _ (Fr.keep (by assumption) _ _ e)); (case fz7 => exact rfl); (case ez7 => exact rfl); (case dz7 => ((try dsimp only [Mine.T.size] at *); (try dsimp only [depth_deeper, Mine.top]); (first | exact Mine.rm2 (by assumption) rfl | exact Mine.rm_tree (by assumption) | exact Mine.rm_ord (by assumption) (Nat.succ_le_succ (Nat.le_add_right _ _)) | exact Mine.rm_ord (by assumption) (Nat.succ_le_succ (Nat.le_add_left _ _)) | exact Mine.rm_ord (by assumption) (Nat.le_refl _) | omega))); (case uz7 => ((try dsimp only [Mine.T.size] at *); (try dsimp only [units_deeper, units_in1, Mine.top]); (first | exact Mine.rm2 (by assumption) rfl | exact Mine.rm_treeu (by assumption) | exact Mine.rm_ordu (by assumption) (Nat.succ_le_succ (Nat.le_add_right _ _)) | exact Mine.rm_ordu (by assumption) (Nat.succ_le_succ (Nat.le_add_left _ _)) | exact Mine.rm_ordu (by assumption) (Nat.le_refl _) | omega)))); intro _ _ _ _ _ _ _ _ _ _ _ _ _; (try k_sweep))
  k_with "call ref" => (k_here; (with_reducible show wpAny _ _ (PySem.call (Value.ref 338) _) _ _ _); k_dflt (refine' Mine.fs_pure ?Iz8 ?Bz8 ?Fz8 ?Xz8 ?Nz8 ?Tz8 ?rz8 ?fz8 ?ez8 ?dz8 ?uz8 ?_; (case Iz8 => assumption); (case Bz8 => k_asm); (case Fz8 => k_asm); (case Xz8 => k_asm); (case Nz8 => k_asm); (case Tz8 => k_asm); (case rz8 => exact fun g' hk _ => Mine.RO.mono (by assumption) hk); (case fz8 => exact rfl); (case ez8 => exact rfl); (case dz8 => ((try dsimp only [depth_deeper, Mine.top]); (first | exact Mine.rm2 (by assumption) rfl | exact Mine.rm_tree (by assumption) | exact Mine.rm_ord (by assumption) (Nat.succ_le_succ (Nat.le_add_right _ _)) | exact Mine.rm_ord (by assumption) (Nat.succ_le_succ (Nat.le_add_left _ _)) | exact Mine.rm_ord (by assumption) (Nat.le_refl _) | omega))); (case uz8 => ((try dsimp only [units_deeper, units_in1, Mine.top]); (first | exact Mine.rm2 (by assumption) rfl | exact Mine.rm_treeu (by assumption) | exact Mine.rm_ordu (by assumption) (Nat.succ_le_succ (Nat.le_add_right _ _)) | exact Mine.rm_ordu (by assumption) (Nat.succ_le_succ (Nat.le_add_left _ _)) | exact Mine.rm_ordu (by assumption) (Nat.le_refl _) | omega)))); intro _ _ _ _ _ eqzz; (obtain ⟨tqzz, eqzz⟩ := eqzz; subst eqzz); (try (revert tqzz; intro _)); (try k_sweep))
  k_with "call builtin:isinstance" => (k_here; with_reducible refine' Mine.isi_tup ?Tz9 ?_; (case Tz9 => k_dflt is_tup); intro _)
  k_with "execs cons" => (k_here; first | (with_reducible refine' Mine.skip_if0 ?Fz10 ?vz10 ?bz10 ?_ ?x1z10 ?x2z10 ?x3z10; (case Fz10 => k_asm); (case vz10 => k_dflt exact rfl); (case bz10 => k_dflt decide); (case x1z10 => k_dflt exact rfl); (case x2z10 => k_dflt exact rfl); (case x3z10 => k_dflt decide); intro _) | (with_reducible refine' Mine.skip_or0 ?Fz10 ?vz10 ?bz10 ?b2z10 ?_ ?x1z10 ?x2z10 ?x3z10; (case Fz10 => k_asm); (case vz10 => k_dflt exact rfl); (case bz10 => k_dflt decide); (case b2z10 => k_dflt decide); (case x1z10 => k_dflt exact rfl); (case x2z10 => k_dflt exact rfl); (case x3z10 => k_dflt decide); intro _) | (with_reducible refine' Mine.take_if0 ?Fz10 ?vz10 ?bz10 ?_ ?x1z10 ?x2z10 ?x3z10; (case Fz10 => k_asm); (case vz10 => k_dflt exact rfl); (case bz10 => k_dflt decide); (case x1z10 => k_dflt exact rfl); (case x2z10 => k_dflt exact rfl); (case x3z10 => k_dflt decide); intro _))
  k_with "execs cons" => (k_here; first | (with_reducible refine' Mine.skip_in0 ?Fz11 ?Nz11 ?vz11 ?sz11 ?nz11 ?bz11 ?mz11 ?_ ?x1z11 ?x2z11 ?x3z11; (case Fz11 => k_asm); (case Nz11 => k_asm); (case vz11 => k_dflt exact rfl); (case sz11 => k_dflt exact rfl); (case nz11 => k_dflt decide); (case bz11 => k_dflt decide); (case mz11 => k_dflt exact rfl); (case x1z11 => k_dflt exact rfl); (case x2z11 => k_dflt exact rfl); (case x3z11 => k_dflt decide); intro _ _ _ _; (try k_sweep)) | (with_reducible refine' Mine.take_in0 ?Fz11 ?Nz11 ?vz11 ?sz11 ?nz11 ?bz11 ?mz11 ?_ ?x1z11 ?x2z11 ?x3z11; (case Fz11 => k_asm); (case Nz11 => k_asm); (case vz11 => k_dflt exact rfl); (case sz11 => k_dflt exact rfl); (case nz11 => k_dflt decide); (case bz11 => k_dflt decide); (case mz11 => k_dflt exact rfl); (case x1z11 => k_dflt exact rfl); (case x2z11 => k_dflt exact rfl); (case x3z11 => k_dflt decide); intro _ _ _ _; (try k_sweep)))
  k_with "eval Subscript Name Constant" => (k_here; with_reducible refine' Mine.item_tup0 ?Fz12 ?vz12 ?tz12 ?loz12 ?hiz12 ?jz12 ?uz12 ?_ ?x1z12 ?x2z12 ?x3z12; (case Fz12 => k_asm); (case vz12 => k_dflt exact rfl); (case tz12 => k_dflt is_tup); (case loz12 => k_dflt decide); (case hiz12 => k_dflt decide); (case jz12 => k_dflt exact rfl); (case uz12 => k_dflt exact rfl); (case x1z12 => k_dflt exact rfl); (case x2z12 => k_dflt exact rfl); (case x3z12 => k_dflt decide); intro _)
  refine' Mine.fs_plain (binds := [(Str.ofString "script", .ref ax)]) ?ho ?hcd ?hb ?hl ?h ?c2 ?c3 ?c4 ?c5
  case ho => (intro P; k_dflt k_is)
  case hcd => (intro P; k_dflt k_is)
  case hb => (intro s; exact BindsTo.of_eq rfl)
  case hl => exact locs rfl
  case c5 => decide
  case c2 => exact rfl
  case c3 => exact rfl
  case c4 => exact rfl
  case h =>
  intro dp un gd outer base g s p loose mean mg mb L' h' tk B' X' T' F' N' pre hd hu
  try dsimp only
  with_reducible show wpAny _ _ _ _ _ _
  k_fold
  repeat' ((fail_if_success (with_reducible show wpAny _ _ (PySem.exec (PySem.Stmt.For _ _ _ _ _) _) _ _ _)); first | (k_unfold; (try dsimp only)) | (k_end; wrow_close) | walk1 | (dsimp only; walk1) | (leave1; walk_say "STEP leave1"; try dsimp only) | fail "no step")
  refine For_turns (h₀ := g) (m := fun y => if y = Str.ofString "grand" then some (.int 0 _) else List.lookup y [(Str.ofString "script", Value.ref ax)].reverse) (by assumption) ?_ (by intro _; rfl) (by passes_own)
  repeat' ((fail_if_success (with_reducible show wpAny _ _ (PySem.pyIter _) _ _ _)); first | (k_unfold; (try dsimp only)) | (k_end; wrow_close) | walk1 | (dsimp only; walk1) | (leave1; walk_say "STEP leave1"; try dsimp only) | fail "no step")
  rename_i D1 ws1 _ _ _ _ _ D2 ws2 _ F9 N9 hI2 _ _
  rw [tm_intro] at F9
  refine iter_led (its := ws2.toArray) (k := 0) rfl F9 N9 (TotJ ax [(D2, W.listOf ws2.toArray 0), (D1, W.listOf ws1.toArray 0)]) ⟨rfl, _, _, none, rfl, Int.le_refl _⟩ (fun i m news h => h.1 ▸ .head _) ?_ ?_
  · clear F9 N9
    intro i v m₁ news₁ h₁ tk₁ I₁ o₁ hv hJ hap F₁ N₁
    obtain ⟨rfl, gr, t, o, rfl, hgr⟩ := hJ
    obtain ⟨n1, u1, rfl⟩ := ints_item hI2 i v (by simpa using hv)
    have F4 : Fr g L' h₁ (tm ax gr t o) := F₁
    have N4 : News g L' h₁ [(I₁, o₁), (D2, W.listOf ws2.toArray 0), (D1, W.listOf ws1.toArray 0)] := N₁
    clear F₁ N₁
    k_steps
    rename_i F5 N5
    exact ⟨_, _, _, _, rfl, F5, N5, hap, rfl, _, _, _, tm_set, tot_nn hgr⟩
  · intro h' tk' m' news' F' N' hJ
    obtain ⟨rfl, gr, t, o, rfl, hgr⟩ := hJ
    k_steps
    (show Done _ _ _ _ _)
    exact ⟨_, _, _, (by k_asm), (News.nil : News _ _ _ []), ⟨_, _, rfl, hgr⟩, rfl⟩
namespace Mine
noncomputable def cost : Nat → Nat | 0 => 1 | d + 1 => 2 * cost d + 3
noncomputable def TreePost (b : Addr) (x1 : Int) (d : Nat) (r : Value) (P' : List (Addr × Obj)) : Prop :=
  ∃ t x0' x1' t0 t1 n X, P' = (b, W.listOf #[.int x0' t0, .int x1' t1] n) :: X ∧ RT (inL X) r t ∧ t.wf 0 ∧ t.size ≤ cost d ∧ 0 ≤ x0' ∧ x1 ≤ x1' ∧ x1' ≤ x1 + cost d ∧ ∀ q ∈ X, q.1 ≠ b
noncomputable def TreeIH (w : World) (d : Nat) : Prop := ∀ (b : Addr) (x0 x1 : Int) (t0 t1 : Tok) (n : Nat) (tm : Tok), 0 ≤ x0 → 0 ≤ x1 → x1 + cost d < 90000 →
  FS w 357 (3 * d + 3) [.ref b, .int (d : Nat) tm] (fun _ => True) [(b, W.listOf #[.int x0 t0, .int x1 t1] n)] (TreePost b x1 d)
section
variable {w : World} {A : Around} {base h₀ : Heap} {outer : List Env} {L : Addr} {m : Str → Option Value} {env : Env} {news : List (Addr × Obj)} {hp : Heap} {gens : Array GenState} {dr : Drawn} {tk : Nat} {os : OsState} {p : Program} {loose : List Str} {mean : ExcName → Option Value} {mg mb : Str → Option Value}
  {A₀ : Around} {dp un : Nat} {gd : Option (List Code)} {Q E : Value → Shared → Prop} {b : Addr} {x0 x1 : Int} {t0 t1 : Tok} {n d : Nat} {many : Int} {tm : Tok} {fN : Obj → List (Addr × Obj)}
theorem tk_call (U : UpdF b (W.listOf #[.int x0 t0, .int x1 t1] n) news fN) (hx0 : 0 ≤ x0) (hx1 : 0 ≤ x1) (hx2 : x1 < 90000) (hm0 : 0 < many) (hm1 : many < 10)
    (B : Below A₀ base outer h₀) (F : Fr h₀ L hp m) (X : (Mine.hd.heap_39 w.params).In h₀) (N : News h₀ L hp news) (T : Top p loose mean mg mb h₀)
    (hf : env.frame = some L) (hke : env.scope.kind = .function) (hd : dp + 1 < 900) (hu : un + 5 * 1 < 3000)
    (ret : ∀ k t x0' t0' t1' n' h' tk', 0 ≤ k → k < many → 0 ≤ x0' → Fr h₀ L h' m → News h₀ L h' (fN (W.listOf #[.int x0' t0', .int (x1 + 1) t1'] n')) → Q (.int k t) ⟨h', gens, dr, tk', os⟩) :
    wpAny (model pw w) (top dp un gd (env :: outer)) (call (.ref 345) [.ref b, .int many tm]) Q E ⟨hp, gens, dr, tk, os⟩ := by
  obtain ⟨hm, R, hR, hN⟩ := updF_rest U
  refine call_fs (R := R) (take_fs b x0 x1 t0 t1 n many tm hx0 hx1 (by omega) hm0 hm1) B F X N T hf hke (fun q hq => ?_) (fun q hq => ⟨(hR q hq).1, fun r hr => ?_⟩) hd hu (fun _ _ _ => trivial) ?_
  · rw [List.mem_singleton.mp hq]; exact hm
  · rw [List.mem_singleton.mp hr]; exact (hR q hq).2
  intro r h' tk' P' F' N' _ _ hp
  obtain ⟨k, t, x0', t0', t1', n', rfl, h1, h2, h3, _, rfl⟩ := hp
  exact ret k t x0' t0' t1' n' h' tk' h1 h2 h3 F' (fun q hq => N' q ((hN _ q hq).elim (fun e => by rw [e]; exact .head _) fun z => List.mem_append_right _ z))
theorem tree_call (I : TreeIH w d) (U : UpdF b (W.listOf #[.int x0 t0, .int x1 t1] n) news fN) (hx0 : 0 ≤ x0) (hx1 : 0 ≤ x1) (hx2 : x1 + cost d < 90000)
    (B : Below A₀ base outer h₀) (F : Fr h₀ L hp m) (X : (Mine.hd.heap_39 w.params).In h₀) (N : News h₀ L hp news) (T : Top p loose mean mg mb h₀)
    {kd : Int} (hkd : kd = (d : Int)) (hf : env.frame = some L) (hke : env.scope.kind = .function) (hd : dp + (3 * d + 3) < 900) (hu : un + 5 * (3 * d + 3) < 3000)
    (ret : ∀ r t x0' x1' t0' t1' n' X h' tk', RT (inL X) r t → t.wf 0 → t.size ≤ cost d → 0 ≤ x0' → x1 ≤ x1' → x1' ≤ x1 + cost d → (∀ q ∈ X, q.1 ≠ b) → Fr h₀ L h' m → News h₀ L h' (X ++ fN (W.listOf #[.int x0' t0', .int x1' t1'] n')) → (∀ q ∈ X, ∀ r ∈ fN (W.listOf #[.int x0' t0', .int x1' t1'] n'), NeA q.1 r.1) → Q r ⟨h', gens, dr, tk', os⟩) :
    wpAny (model pw w) (top dp un gd (env :: outer)) (call (.ref 357) [.ref b, .int kd tm]) Q E ⟨hp, gens, dr, tk, os⟩ := by
  subst hkd
  obtain ⟨hm, R, hR, hN⟩ := updF_rest U
  refine call_fs (R := R) (I b x0 x1 t0 t1 n tm hx0 hx1 hx2) B F X N T hf hke (fun q hq => ?_) (fun q hq => ⟨(hR q hq).1, fun r hr => ?_⟩) hd hu (fun _ _ _ => trivial) ?_
  · rw [List.mem_singleton.mp hq]; exact hm
  · rw [List.mem_singleton.mp hr]; exact (hR q hq).2
  intro r h' tk' P' F' N' ap _ hp
  obtain ⟨t, x0', x1', t0', t1', n', X, rfl, h1, h2, h3, h4, h5, h6, h7⟩ := hp
  refine ret r t x0' x1' t0' t1' n' X h' tk' h1 h2 h3 h4 h5 h6 h7 F' (fun q hq => N' q ?_) (fun q hq r hr => (hN _ r hr).elim (fun e => by rw [e]; exact h7 q hq) fun z => ap q (.tail _ hq) r z)
  rcases List.mem_append.mp hq with hq | hq
  · exact List.mem_append_left _ (.tail _ hq)
  · exact (hN _ q hq).elim (fun e => by rw [e]; exact .head _) fun z => List.mem_append_right _ z
end
theorem tree_end {g h : Heap} {L b : Addr} {m : Str → Option Value} {news : List (Addr × Obj)} {s : Shared} {tk : Nat} {x0' x1 x1' : Int} {t0 t1 : Tok} {n d : Nat} {r : Value} {t : T} (F : Fr g L h m) (N : News g L h news)
    (hr : RT (fun a o => (a, o) ∈ news ∧ NeA a b) r t) (hb : (b, W.listOf #[.int x0' t0, .int x1' t1] n) ∈ news) (hw : t.wf 0) (hs : t.size ≤ cost d) (h0 : 0 ≤ x0') (h1 : x1 ≤ x1') (h2 : x1' ≤ x1 + cost d) :
    Done g s (TreePost b x1 d) r ⟨h, s.gens, s.drawn, tk, s.os⟩ := by
  refine ⟨L, m, (b, W.listOf #[.int x0' t0, .int x1' t1] n) :: news.filter (fun q => decide (q.1 ≠ b)), F, news_sub N fun q hq => ?_, ⟨t, x0', x1', t0, t1, n, _, rfl, hr.mono fun a o h => ?_, hw, hs, h0, h1, h2, fun q hq => ?_⟩, rfl⟩
  · rcases List.mem_cons.mp hq with rfl | hq
    · exact hb
    · exact (List.mem_filter.mp hq).1
  · exact List.mem_filter.mpr ⟨h.1, decide_eq_true h.2.out⟩
  · exact of_decide_eq_true (List.mem_filter.mp hq).2
theorem rt_sub {b : Addr} {X news : List (Addr × Obj)} {v : Value} {t : T} (h : RT (inL X) v t) (hX : ∀ q ∈ X, q.1 ≠ b) (hn : ∀ q ∈ X, q ∈ news) : RT (fun a o => (a, o) ∈ news ∧ NeA a b) v t :=
  h.mono fun a o h => ⟨hn _ h, hX _ h⟩
/-- the trees of a row -/
inductive RTs (G : Addr → Obj → Prop) (c : Nat) : List Value → List T → Prop
  | nil : RTs G c [] []
  | cons {v t vs ts} : RT G v t → t.wf 0 → t.size ≤ c → RTs G c vs ts → RTs G c (v :: vs) (t :: ts)
theorem RTs.mono {G G' : Addr → Obj → Prop} {c : Nat} {vs : List Value} {ts : List T} (h : RTs G c vs ts) (k : ∀ a o, G a o → G' a o) : RTs G' c vs ts := by
  induction h with
  | nil => exact .nil
  | cons h a b _ i => exact .cons (h.mono k) a b i
theorem RTs.snoc {G : Addr → Obj → Prop} {c : Nat} {vs : List Value} {ts : List T} {v : Value} {t : T} (h : RTs G c vs ts) (k : RT G v t) (a : t.wf 0) (b : t.size ≤ c) : RTs G c (vs ++ [v]) (ts ++ [t]) := by
  induction h with
  | nil => exact .cons k a b .nil
  | cons h a b _ i => exact .cons h a b i
theorem RTs.length {G : Addr → Obj → Prop} {c : Nat} {vs : List Value} {ts : List T} (h : RTs G c vs ts) : vs.length = ts.length := by induction h with | nil => rfl | cons _ _ _ _ i => simp [i]
section
variable {w : World} {base h₀ : Heap} {outer : List Env} {L : Addr} {m : Str → Option Value} {env : Env} {gs : Array GenState} {dr : Drawn} {os : OsState} {p : Program} {loose : List Str} {mean : ExcName → Option Value} {mg mb : Str → Option Value}
  {A₀ : Around} {dp un n : Nat} {gd : Option (List Code)} {scope : Scope} {cl : List (Str × Addr)} {p1 p2 p3 p4 p5 p6 : Pos} {kk : Nat}
theorem tree_rest {d nn : Nat} {b cb cd : Addr} {ob od : Obj} {dv : Int} {td : Tok} {Bs : List (Addr × Obj)} {PP : Nat → Value → Prop} {Fin : List Value → List (Addr × Obj) → Prop} (I : TreeIH w d) (B : Below A₀ base outer h₀) (X : (Mine.hd.heap_39 w.params).In h₀) (T : Top p loose mean mg mb h₀) (hf : env.frame = some L) (hke : env.scope.kind = .function) (hg : env.globals = mainGlobals)
    (hfn : nsIn (Mine.hd.heap_39 w.params) mainGlobals (Str.ofString "_law_tree") = some (some (.ref 357))) (hkeep : keepIn (Mine.hd.heap_39 w.params) (.ref 357) = true)
    (hcb : cl.lookup (Str.ofString "box") = some cb) (hcd : cl.lookup (Str.ofString "deep") = some cd) (hbm : (cb, ob) ∈ Bs) (hdm : (cd, od) ∈ Bs) (hob : ob.data = .cell (some (.ref b))) (hod : od.data = .cell (some (.int dv td))) (hdv : dv - 1 = (d : Int)) (hBb : ∀ q ∈ Bs, q.1 ≠ b)
    (hk : scope.kind = .function) (hxb : ∀ C, (compEnvC scope cl C env).kindOf (Str.ofString "box") = some .cell) (hxd : ∀ C, (compEnvC scope cl C env).kindOf (Str.ofString "deep") = some .cell) (hy : ∀ C, (compEnvC scope cl C env).kindOf (Str.ofString "_law_tree") = some .globalImplicit)
    (hd : dp + (3 * d + 3) < 900) (hu : un + 5 * (3 * d + 3) < 3000) {x1₀ : Int} (h90 : x1₀ + nn * cost d < 90000) (h00 : 0 ≤ x1₀)
    (hFin : ∀ ys ts X' x0 x1 t0 t1 n, RTs (inL X') (cost d) ys ts → ts.length = nn → (∀ q ∈ X', q.1 ≠ b) → 0 ≤ x0 → x1₀ ≤ x1 → x1 ≤ x1₀ + nn * cost d → Fin ys (X' ++ (Bs ++ [(b, W.listOf #[.int x0 t0, .int x1 t1] n)]))) {s : Shared} (es : s = ⟨s.heap, gs, dr, s.toks, os⟩) :
    ∀ (k i : Nat) ys ts X' x0 x1 t0 t1 n, i + k = nn → ts.length = i → RTs (inL X') (cost d) ys ts → (∀ q ∈ X', q.1 ≠ b) → 0 ≤ x0 → x1₀ ≤ x1 → x1 ≤ x1₀ + i * cost d →
      LCg.CompRest pw w (top dp un gd (env :: outer)) h₀ L m env (.Call (.Name (Str.ofString "_law_tree") p1) [.Name (Str.ofString "box") p2, .BinOp (.Name (Str.ofString "deep") p3) .Sub (.Constant (.int 1) kk p4) p5] [] p6) (Str.ofString "turn") scope cl s (fun _ => True) PP Fin k i ys (X' ++ (Bs ++ [(b, W.listOf #[.int x0 t0, .int x1 t1] n)])) := by
  intro k
  induction k with
  | zero =>
    intro i ys ts X' x0 x1 t0 t1 n hi hl hr hX hx0 hx1 hx2
    obtain rfl : i = nn := by omega
    exact hFin ys ts X' x0 x1 t0 t1 n hr hl hX hx0 hx1 hx2
  | succ k ih =>
    intro i ys ts X' x0 x1 t0 t1 n hi hl hr hX hx0 hx1 hx2 v Ia oI C oC D m₂ h tk E' hP ho hv F N off ne
    have e1 : ({ s with heap := h, toks := tk } : Shared) = ⟨h, gs, dr, tk, os⟩ := by rw [es]
    rw [e1]
    have hin : i * cost d + cost d ≤ nn * cost d := by
      have : (i + 1) * cost d ≤ nn * cost d := Nat.mul_le_mul_right _ (by omega)
      rw [Nat.succ_mul] at this; exact this
    have hsub : ∀ q ∈ Bs, q ∈ (Ia, oI) :: (C, oC) :: (D, LCg.lst ys) :: (X' ++ (Bs ++ [(b, W.listOf #[.int x0 t0, .int x1 t1] n)])) := fun q hq => .tail _ (.tail _ (.tail _ (List.mem_append_right _ (List.mem_append_left _ hq))))
    have hob3 := LCg.Off3.mem off (b, W.listOf #[.int x0 t0, .int x1 t1] n) (List.mem_append_right _ (List.mem_append_right _ (.head _)))
    refine call_named F X T hfn hkeep hg hk (hy C) (by decide) rfl rfl (spliced_more (nameBC N hcb (hsub _ hbm) hob (spliced_more (wpAny_BinOp (nameBC N hcd (hsub _ hdm) hod (wpAny_Constant_int (sub_int (spliced_none ⟨X.keeps F.keep, ?_⟩))) hk (hxd C) (by decide))) ) hk (hxb C) (by decide)))
    refine tree_call I (UpdF.tail hob3.1.symm (UpdF.tail hob3.2.1.symm (UpdF.tail hob3.2.2.symm (updF_app hX (updF_app hBb (UpdF.head (List.forall_mem_nil _))))))) hx0 (by omega) (by omega) B F X N T hdv hf hke hd hu ?_
    intro r t x0' x1' t0' t1' n' X2 h' tk' g1 g2 g3 g4 g5 g6 g7 F' N' g8
    have hbl : b = b := rfl
    refine LCg.CompEnd.intro (s₁ := ⟨h, gs, dr, tk, os⟩) F' N' ((X2 ++ X') ++ (Bs ++ [(b, W.listOf #[.int x0' t0', .int x1' t1'] n')])) (fun q hq => ?_) (LCg.Off3.of fun q hq => ?_) trivial ?_
    · simp only [List.mem_cons, List.mem_append] at hq ⊢
      rcases hq with h | h | h | (h | h) | h | h <;> simp only [h, true_or, or_true]
    · rcases List.mem_append.mp hq with hq | hq
      · rcases List.mem_append.mp hq with hq | hq
        · exact ⟨(g8 q hq _ (.head _)).out, (g8 q hq _ (.tail _ (.head _))).out, (g8 q hq _ (.tail _ (.tail _ (.head _)))).out⟩
        · exact LCg.Off3.mem off q (List.mem_append_left _ hq)
      · rcases List.mem_append.mp hq with hq | hq
        · exact LCg.Off3.mem off q (List.mem_append_right _ (List.mem_append_left _ hq))
        · rw [List.mem_singleton.mp hq]; exact hob3
    · refine ih (i + 1) (ys ++ [r]) (ts ++ [t]) (X2 ++ X') x0' x1' t0' t1' n' (by omega) (by rw [List.length_append, hl]; rfl) ((hr.mono fun a o h => List.mem_append_right _ h).snoc (g1.mono fun a o h => List.mem_append_left _ h) g2 g3) (fun q hq => ?_) g4 (by omega) ?_
      · rcases List.mem_append.mp hq with hq | hq
        · exact g7 q hq
        · exact hX q hq
      · have : ((i + 1 : Nat) : Int) * (cost d : Int) = i * cost d + cost d := by rw [Int.natCast_succ, Int.add_mul, Int.one_mul]
        omega
end
theorem rts_row {G : Addr → Obj → Prop} {c : Nat} {D : Addr} {ys : List Value} {ts : List T} (h : RTs G c ys ts) (hl : ts.length ≤ 2) (hD : G D (tup ys)) : ∃ r, RT G (.ref D) r ∧ r.wf 2 ∧ r.size ≤ 2 * c + 1 := by
  cases h with
  | nil => exact ⟨.r0, .r0 hD, trivial, by show 1 ≤ _; omega⟩
  | cons h1 w1 s1 r =>
    cases r with
    | nil => exact ⟨.r1 _, .r1 hD h1, w1, by simp only [T.size]; omega⟩
    | cons h2 w2 s2 r =>
      cases r with
      | nil => exact ⟨.r2 _ _, .r2 hD h1 h2, ⟨w1, w2⟩, by simp only [T.size]; omega⟩
      | cons _ _ _ _ => simp at hl
theorem un_cases {k : Int} (h0 : 0 ≤ k) (h5 : k < 5) : Txt.item (Str.ofString "~?-$@") k = Str.ofString "~" ∨ Txt.item (Str.ofString "~?-$@") k = Str.ofString "?" ∨ Txt.item (Str.ofString "~?-$@") k = Str.ofString "-" ∨ Txt.item (Str.ofString "~?-$@") k = Str.ofString "$" ∨ Txt.item (Str.ofString "~?-$@") k = Str.ofString "@" := by
  obtain rfl | rfl | rfl | rfl | rfl : k = 0 ∨ k = 1 ∨ k = 2 ∨ k = 3 ∨ k = 4 := by omega
  all_goals decide +kernel
theorem un_tree {G : Addr → Obj → Prop} {D : Addr} {k : Int} {tk tk' : Tok} {r : Value} {c : T} (hD : G D (tup [str "unary" tk, .str (Txt.item (Str.ofString "~?-$@") k) tk', r])) (h0 : 0 ≤ k) (h5 : k < 5) (hr : RT G r c) (w0 : c.wf 0) (w1 : c.wf 1) : ∃ t, RT G (.ref D) t ∧ t.wf 0 ∧ t.size = c.size + 1 := by
  rcases un_cases h0 h5 with e | e | e | e | e <;> rw [e] at hD
  · exact ⟨_, .neg hD hr, w0, rfl⟩
  · exact ⟨_, .ques hD hr, w0, rfl⟩
  · exact ⟨_, .minus hD hr, w0, rfl⟩
  · exact ⟨_, .doll hD hr, w0, rfl⟩
  · exact ⟨_, .at hD hr, w1, rfl⟩
theorem un_end {g h : Heap} {L b D : Addr} {m : Str → Option Value} {news : List (Addr × Obj)} {s : Shared} {tk n d : Nat} {x0' x1 x1' k : Int} {t0 t1 u u' : Tok} {r : Value} {c : T} (F : Fr g L h m) (N : News g L h news)
    (hD : (D, tup [str "unary" u, .str (Txt.item (Str.ofString "~?-$@") k) u', r]) ∈ news) (hDb : NeA D b) (hk0 : 0 ≤ k) (hk5 : k < 5) (hr : RT (fun a o => (a, o) ∈ news ∧ NeA a b) r c) (hb : (b, W.listOf #[.int x0' t0, .int x1' t1] n) ∈ news) (w0 : c.wf 0) (w1 : c.wf 1) (hs : c.size + 1 ≤ cost d)
    (h0 : 0 ≤ x0') (h1 : x1 ≤ x1') (h2 : x1' ≤ x1 + cost d) : Done g s (TreePost b x1 d) (.ref D) ⟨h, s.gens, s.drawn, tk, s.os⟩ := by
  obtain ⟨t, e1, e2, e3⟩ := un_tree (G := fun a o => (a, o) ∈ news ∧ NeA a b) ⟨hD, hDb⟩ hk0 hk5 hr w0 w1
  exact tree_end F N e1 hb e2 (by omega) h0 h1 h2
theorem call_end {g h : Heap} {L b D R : Addr} {m : Str → Option Value} {news X : List (Addr × Obj)} {s : Shared} {tk n d : Nat} {x0' x1 x1' : Int} {t0 t1 u u' : Tok} {z : Str} {ys : List Value} {ts : List T} (F : Fr g L h m) (N : News g L h news) (hts : RTs (inL X) (cost d) ys ts) (hl : ts.length ≤ 2) (hX : ∀ q ∈ X, q.1 ≠ b)
    (hn : ∀ q ∈ X, q ∈ news) (hR : (R, tup ys) ∈ news) (hRb : NeA R b) (hD : (D, tup [str "call" u, .str z u', .ref R]) ∈ news) (hDb : NeA D b) (hb : (b, W.listOf #[.int x0' t0, .int x1' t1] n) ∈ news)
    (h0 : 0 ≤ x0') (h1 : x1 ≤ x1') (h2 : x1' ≤ x1 + cost (d + 1)) : Done g s (TreePost b x1 (d + 1)) (.ref D) ⟨h, s.gens, s.drawn, tk, s.os⟩ := by
  obtain ⟨r, e1, e2, e3⟩ := rts_row (G := fun a o => (a, o) ∈ news ∧ NeA a b) (hts.mono fun a o h => ⟨hn _ h, hX _ h⟩) hl ⟨hR, hRb⟩
  exact tree_end F N (.call ⟨hD, hDb⟩ e1) hb e2 (by simp only [T.size, cost]; omega) h0 h1 h2
theorem allLt_mem' {d : Addr} : ∀ {l : List (Addr × Obj)}, AllLt d l → ∀ q ∈ l, @LT.lt Nat _ q.1 d
  | [], _, _, h => nomatch h
  | p :: r, ⟨h1, h2⟩, q, h => by
    rcases List.mem_cons.mp h with rfl | h
    · exact h1
    · exact allLt_mem' h2 q h
theorem ne_all {D b : Addr} {o : Obj} {l : List (Addr × Obj)} (h : ∀ p ∈ l, p.1 < D) (hm : (b, o) ∈ l) : D ≠ b := Nat.ne_of_gt (h _ hm)
theorem ne_al0 {D b : Addr} {o : Obj} {l : List (Addr × Obj)} (h : AllLt D l) (hm : (b, o) ∈ l) : D ≠ b := Nat.ne_of_gt (allLt_mem' h _ hm)
theorem ne_al1 {D b : Addr} {o : Obj} {l : List (Addr × Obj)} {p : Prop} (h : p ∧ AllLt D l) (hm : (b, o) ∈ l) : D ≠ b := ne_al0 h.2 hm
theorem ne_al2 {D b : Addr} {o : Obj} {l : List (Addr × Obj)} {p q : Prop} (h : p ∧ q ∧ AllLt D l) (hm : (b, o) ∈ l) : D ≠ b := ne_al0 h.2.2 hm
theorem ne_al3 {D b : Addr} {o : Obj} {l : List (Addr × Obj)} {p q r : Prop} (h : p ∧ q ∧ r ∧ AllLt D l) (hm : (b, o) ∈ l) : D ≠ b := ne_al0 h.2.2.2 hm
theorem tree_src {w : World} {base h₀ hp : Heap} {outer : List Env} {L : Addr} {m : Str → Option Value} {env : Env} {gs : Array GenState} {dr : Drawn} {tk : Nat} {os : OsState} {p : Program} {loose : List Str} {mean : ExcName → Option Value} {mg mb : Str → Option Value}
    {A₀ : Around} {dp un n : Nat} {gd : Option (List Code)} {scope : Scope} {cl : List (Str × Addr)} {p1 p2 p3 p4 p5 p6 : Pos} {kk d : Nat} {b cb cd r : Addr} {ob od : Obj} {dv x0 x1 kd : Int} {td t u v t0 t1 : Tok} {Fin : Shared → List Value → List (Addr × Obj) → Prop}
    (I : TreeIH w d) (B : Below A₀ base outer h₀) (F : Fr h₀ L hp m) (X : (Mine.hd.heap_39 w.params).In h₀) (N : News h₀ L hp [(cd, od), (cb, ob), (b, W.listOf #[.int x0 t0, .int x1 t1] n)]) (T : Top p loose mean mg mb h₀) (hr : IsRange hp r 0 kd 1 t u v) (hk0 : 0 ≤ kd) (hk3 : kd < 3) (hx0 : 0 ≤ x0)
    (hne1 : cd ≠ b) (hne2 : cb ≠ b) (hf : env.frame = some L) (hke : env.scope.kind = .function) (hg : env.globals = mainGlobals)
    (hfn : nsIn (Mine.hd.heap_39 w.params) mainGlobals (Str.ofString "_law_tree") = some (some (.ref 357))) (hkeep : keepIn (Mine.hd.heap_39 w.params) (.ref 357) = true)
    (hcb : cl.lookup (Str.ofString "box") = some cb) (hcd : cl.lookup (Str.ofString "deep") = some cd) (hob : ob.data = .cell (some (.ref b))) (hod : od.data = .cell (some (.int dv td))) (hdv : dv - 1 = (d : Int))
    (hk : scope.kind = .function) (hxb : ∀ C, (compEnvC scope cl C env).kindOf (Str.ofString "box") = some .cell) (hxd : ∀ C, (compEnvC scope cl C env).kindOf (Str.ofString "deep") = some .cell) (hy : ∀ C, (compEnvC scope cl C env).kindOf (Str.ofString "_law_tree") = some .globalImplicit)
    (hd : dp + (3 * d + 3) < 900) (hu : un + 5 * (3 * d + 3) < 3000) (h90 : x1 + 2 * cost d < 90000) (h00 : 0 ≤ x1)
    (hFin : ∀ s₂ ys ts X' x0' x1' t0' t1' n', (∃ g, s₂ = (⟨g, gs, dr, tk, os⟩ : Shared)) → RTs (inL X') (cost d) ys ts → ts.length ≤ 2 → (∀ q ∈ X', q.1 ≠ b) → 0 ≤ x0' → x1 ≤ x1' → x1' ≤ x1 + 2 * cost d → Fin s₂ ys (X' ++ [(cd, od), (cb, ob), (b, W.listOf #[.int x0' t0', .int x1' t1'] n')])) :
    LCg.CompSrc pw w (top dp un gd (env :: outer)) h₀ L m env (.Call (.Name (Str.ofString "_law_tree") p1) [.Name (Str.ofString "box") p2, .BinOp (.Name (Str.ofString "deep") p3) .Sub (.Constant (.int 1) kk p4) p5] [] p6) (Str.ofString "turn") scope cl Fin (.ref r) ⟨hp, gs, dr, tk, os⟩ := by
  have hc : kd.toNat * cost d ≤ 2 * cost d := Nat.mul_le_mul_right _ (by omega)
  have hs : Builtin.Range.small 0 kd 1 = true := by
    obtain rfl | rfl | rfl : kd = 0 ∨ kd = 1 ∨ kd = 2 := by omega
    all_goals decide
  have hz : Builtin.Range.rangeSize 0 kd 1 = ((kd.toNat : Nat) : Int) := by
    obtain rfl | rfl | rfl : kd = 0 ∨ kd = 1 ∨ kd = 2 := by omega
    all_goals decide
  refine LCg.CompSrc.range (s₁ := ⟨hp, gs, dr, tk, os⟩) rfl F N hr hs hz (by rw [sizeLine_eq]; omega) fun g => ?_
  refine tree_rest (Bs := [(cd, od), (cb, ob)]) I B X T hf hke hg hfn hkeep hcb hcd (.tail _ (.head _)) (.head _) hob hod hdv (fun q hq => ?_) hk hxb hxd hy hd hu (x1₀ := x1) (nn := kd.toNat) (by omega) h00 (fun ys ts X' y0 y1 u0 u1 n' h1 h2 h3 h4 h5 h6 => hFin _ ys ts X' y0 y1 u0 u1 n' ⟨g, rfl⟩ h1 (by omega) h3 h4 h5 (by omega)) rfl kd.toNat 0 [] [] [] x0 x1 t0 t1 n (by omega) rfl .nil (fun _ h => nomatch h) hx0 (Int.le_refl _) (by simp)
  simp only [List.mem_cons, List.not_mem_nil, or_false] at hq
  rcases hq with rfl | rfl
  · exact hne1
  · exact hne2
end Mine
namespace Mine
section
variable {prog : Program} {w : World} {A : Around} {E : Value → Shared → Prop} {s : Shared}
theorem sl_part {sl : Addr} {a : Int} {u : Tok} {lo hi : Int} {k : Nat} {Q : Int × Int × Nat → Shared → Prop} (hs : s.heap.IsSliceOf sl .none (.int a u) .none) (h1 : Builtin.Slice.sliceAdjust none (some a) 1 (2 : Int) = (lo, hi)) (h2 : Builtin.Slice.slicePlaces lo hi 1 = k) (h : Q (lo, 1, k) s) :
    wpAny (model prog w) A (Builtin.Slice.sliceApplied (.ref sl) (pure (2 : Int))) Q E s := by
  obtain ⟨os, hos, hcs, hds⟩ := id hs
  unfold Builtin.Slice.sliceApplied Builtin.Slice.sliceFields
  refine wpAny_bind (wpAny_bind (wpAny_field hos hds (x := .none) rfl (wpAny_bind (wpAny_field hos hds (x := .int a u) rfl (wpAny_bind (wpAny_field hos hds (x := .none) rfl (wpAny_pure ?_)))))))
  refine wpAny_bind (slicePart_none ?_)
  show wpAny _ _ (if ((1 : Int) == 0) = true then _ else _) _ _ s
  rw [if_neg (by decide)]
  refine wpAny_bind (slicePart_none (wpAny_bind (slicePart_int (wpAny_bind (wpAny_pure ?_)))))
  show wpAny _ _ (match Builtin.Slice.sliceAdjust none (some a) 1 (2 : Int) with | (lo, hi) => pure (lo, (1 : Int), Builtin.Slice.slicePlaces lo hi 1)) _ _ s
  rw [h1]
  show wpAny _ _ (pure (lo, (1 : Int), Builtin.Slice.slicePlaces lo hi 1)) _ _ s
  rw [h2]
  exact wpAny_pure h
theorem get_one {t sl : Addr} {x y : Value} {a : Int} {u : Tok} {Q : Value → Shared → Prop} (ha : a = 1) (ht : IsTup s.heap t #[x, y]) (hs : s.heap.IsSliceOf sl .none (.int a u) .none)
    (h : Q (.ref s.heap.objs.size) { s with heap := s.heap.push { cls := .type "tuple", data := .seq #[x] } }) : wpAny (model prog w) A (getItem (.ref t) (.ref sl)) Q E s := by
  subst ha
  have hdrop : sizeOk (.seq #[x]) := by
    show 1 ≤ sizeLine
    rw [sizeLine_eq]; omega
  obtain ⟨os, hos, hcs, hds⟩ := id hs
  have hTs : s.TypeIs (.ref sl) "slice" := ⟨os, hos, hcs⟩
  unfold getItem
  try with_reducible refine wpAny_holding ?_
  first | refine wpAny_bind (wpAny_pure ?_) | skip
  refine wpAny_bind (wpAny_sequenceKey ht.typeIs (by decide) ?_)
  refine wpAny_bind (wpAny_callSpecial?_slot (name := Str.ofString "__getitem__") ht.typeIs slot_tuple_getitem
    (wpAny_call_entry slot_tuple_getitem ht.typeIs entry_tuple_getitem ?_ (args_tuple_getitem _ _)))
  show wpAny _ _ (Builtin.Tuple.tupleItemsOf (.ref t) >>= _) _ _ s
  refine wpAny_bind (tupleItemsOf_ ht ?_)
  refine wpAny_bind (wpAny_typeOf hTs ?_)
  rw [if_pos (by decide)]
  refine wpAny_bind (sl_part (lo := 0) (hi := 1) (k := 1) hs (by decide) (by decide) ?_)
  show wpAny _ _ (if ((0 : Int) == 0 && (1 : Int) == 1 && (1 : Nat) == 2) = true then _ else _) _ _ s
  rw [if_neg (by decide)]
  have e : ((List.range 1).filterMap fun (k : Nat) => (#[x, y] : Array Value)[((0 : Int) + (k : Int) * 1).toNat]?).toArray = #[x] := by simp [List.range, List.range.loop]
  rw [e]
  first
    | exact wpAny_bind (m := Builtin.Tuple.tupleExact _) (wpAny_newObj_type (wpAny_pure ⟨_, rfl, wpAny_pure h⟩) hdrop)
    | exact wpAny_bind (m := Builtin.Tuple.tupleExact _) (wpAny_newObj_type (wpAny_bind (wpAny_pure (wpAny_pure ⟨_, rfl, wpAny_pure h⟩))) hdrop)
    | exact wpAny_bind (wpAny_bind (m := Builtin.Tuple.tupleExact _) (wpAny_newObj_type (wpAny_pure (wpAny_pure ⟨_, rfl, wpAny_pure h⟩)) hdrop))
    | exact wpAny_bind (wpAny_bind (m := Builtin.Tuple.tupleExact _) (wpAny_newObj_type (wpAny_pure ⟨_, rfl, wpAny_pure h⟩) hdrop))
theorem get_two {t sl : Addr} {x y : Value} {a : Int} {u : Tok} {Q : Value → Shared → Prop} (ha : a = 2) (ht : IsTup s.heap t #[x, y]) (hs : s.heap.IsSliceOf sl .none (.int a u) .none)
    (h : Q (.ref t) s) : wpAny (model prog w) A (getItem (.ref t) (.ref sl)) Q E s := by
  subst ha
  obtain ⟨os, hos, hcs, hds⟩ := id hs
  have hTs : s.TypeIs (.ref sl) "slice" := ⟨os, hos, hcs⟩
  unfold getItem
  try with_reducible refine wpAny_holding ?_
  first | refine wpAny_bind (wpAny_pure ?_) | skip
  refine wpAny_bind (wpAny_sequenceKey ht.typeIs (by decide) ?_)
  refine wpAny_bind (wpAny_callSpecial?_slot (name := Str.ofString "__getitem__") ht.typeIs slot_tuple_getitem
    (wpAny_call_entry slot_tuple_getitem ht.typeIs entry_tuple_getitem ?_ (args_tuple_getitem _ _)))
  show wpAny _ _ (Builtin.Tuple.tupleItemsOf (.ref t) >>= _) _ _ s
  refine wpAny_bind (tupleItemsOf_ ht ?_)
  refine wpAny_bind (wpAny_typeOf hTs ?_)
  rw [if_pos (by decide)]
  refine wpAny_bind (sl_part (lo := 0) (hi := 2) (k := 2) hs (by decide) (by decide) ?_)
  show wpAny _ _ (if ((0 : Int) == 0 && (1 : Int) == 1 && (2 : Nat) == 2) = true then _ else _) _ _ s
  rw [if_pos (by decide)]
  refine wpAny_bind ?_
  unfold Builtin.Tuple.tupleIsExact
  refine wpAny_bind (wpAny_typeOf ht.typeIs (wpAny_pure ?_))
  rw [if_pos (by decide)]
  exact wpAny_bind (wpAny_rule (wpAny_pure ⟨_, rfl, wpAny_pure h⟩))
end
section
variable {prog : Program} {w : World} {A : Around} {E : Value → Shared → Prop} {hp : Heap} {gs : Array GenState} {dr : Drawn} {tk : Nat} {os : OsState} {h₀ : Heap} {L t : Addr} {m : Str → Option Value} {news : List (Addr × Obj)} {value slice : Expr} {x y : Value} {a : Int} {u : Tok} {Q : Value → Shared → Prop}
theorem slice_one (ha : a = 1) (F : Fr h₀ L hp m) (N : News h₀ L hp news) (ht : IsTup hp t #[x, y])
    (h : ∀ D h', Fr h₀ L h' m → News h₀ L h' ((D, tup [x]) :: news) → (∀ p ∈ news, p.1 < D) → Q (.ref D) ⟨h', gs, dr, tk, os⟩)
    (hs : subscripted slice false (.ref t) (.ref hp.objs.size) = operate [.ref hp.objs.size, .ref t] (getItem (.ref t) (.ref hp.objs.size))) (hg : ∀ r, letTemporaryGo value (.ref t) r = pure ()) :
    wpAny (model prog w) A (subscriptTail value slice (.ref t) (.ref hp.objs.size)) Q E ⟨hp.push { cls := .type "slice", data := .fields #[.none, .int a u, .none] }, gs, dr, tk, os⟩ := by
  have ht' : IsTup (hp.push { cls := .type "slice", data := .fields #[.none, .int a u, .none] }) t #[x, y] := ht.keeps fun _ _ e => Heap.get?_push_of_some _ e
  refine subscriptTail_ops (s := ⟨hp.push { cls := .type "slice", data := .fields #[.none, .int a u, .none] }, gs, dr, tk, os⟩) ht'.typeIs slot_tuple_getitem.lookup
    (get_one ha ht' (Heap.IsSliceOf.new ..) ?_) hs hg
  have N1 := News.push (F.push { cls := .type "slice", data := .fields #[.none, .int a u, .none] }) (N.grown fun _ _ e => Heap.get?_push_of_some _ e) { cls := .type "tuple", data := .seq #[x] }
  rw [Heap.size_push] at N1
  show Q (.ref (hp.push _).objs.size) _
  rw [Heap.size_push]
  exact h _ _ ((F.push _).push _) N1 fun p hp' => Nat.lt_succ_of_lt (Heap.lt_size (N p hp').1)
theorem slice_two (ha : a = 2) (F : Fr h₀ L hp m) (N : News h₀ L hp news) (ht : IsTup hp t #[x, y])
    (h : ∀ h', Fr h₀ L h' m → News h₀ L h' news → Q (.ref t) ⟨h', gs, dr, tk, os⟩)
    (hs : subscripted slice false (.ref t) (.ref hp.objs.size) = operate [.ref hp.objs.size, .ref t] (getItem (.ref t) (.ref hp.objs.size))) (hg : ∀ r, letTemporaryGo value (.ref t) r = pure ()) :
    wpAny (model prog w) A (subscriptTail value slice (.ref t) (.ref hp.objs.size)) Q E ⟨hp.push { cls := .type "slice", data := .fields #[.none, .int a u, .none] }, gs, dr, tk, os⟩ := by
  have ht' : IsTup (hp.push { cls := .type "slice", data := .fields #[.none, .int a u, .none] }) t #[x, y] := ht.keeps fun _ _ e => Heap.get?_push_of_some _ e
  exact subscriptTail_ops (s := ⟨hp.push { cls := .type "slice", data := .fields #[.none, .int a u, .none] }, gs, dr, tk, os⟩) ht'.typeIs slot_tuple_getitem.lookup
    (get_two ha ht' (Heap.IsSliceOf.new ..) (h _ (F.push _) (N.grown fun _ _ e => Heap.get?_push_of_some _ e))) hs hg
end
end Mine
local macro_rules | `(tactic| k_ne) => `(tactic| first | exact Mine.ne_all (by assumption) (by k_mem) | exact Mine.ne_al0 (by assumption) (by k_mem) | exact Mine.ne_al1 (by assumption) (by k_mem) | exact Mine.ne_al2 (by assumption) (by k_mem) | exact Mine.ne_al3 (by assumption) (by k_mem) | fail)
set_option maxHeartbeats 40000000 in
theorem Mine.tree_zero {w : World} : TreeIH w 0 := by
  w_top off
  k_with_none
  k_with "callWith ref" => (k_here; k_dflt (first | (refine' callWith_K ?k1z1 ?k2z1 ?_; (case k1z1 => k_asm); (case k2z1 => k_is); k_whole) | (refine' callWith_K0 ?k1z1 ?k2z1 ?_; (case k1z1 => k_in); (case k2z1 => k_is); k_whole)))
  k_with "binaryOp Add ref ref" => (k_here; with_reducible refine' Mine.add_mem ?Fz2 ?Nz2 ?az2 ?bz2 ?zz2 ?_; (case Fz2 => k_asm); (case Nz2 => k_asm); (case az2 => k_dflt k_mem); (case bz2 => k_dflt k_mem); (case zz2 => ((try dsimp only [Mine.T.size] at *); (try simp only [Array.size_append, List.size_toArray, List.length_cons, List.length_nil]); omega)); intro _ _ _ _ l1zz; (try k_lt l1zz); (try (revert l1zz; intro _)); (try k_sweep))
  k_with "call builtin:len" => (k_here; with_reducible refine' Mine.len_mem ?Nz3 ?mz3 ?ez3 ?zz3 ?_; (case Nz3 => k_asm); (case mz3 => k_dflt k_mem); (case ez3 => first | with_reducible assumption | exact rfl); (case zz3 => ((try dsimp only [Mine.T.size] at *); (try simp only [Array.size_push]); omega)); intro _ _)
  k_with "call builtin:len" => (k_here; with_reducible refine' Mine.len_tupN ?Tz4 ?ez4 ?zz4 ?_; (case Tz4 => k_dflt is_tup); (case ez4 => first | with_reducible assumption | exact rfl); (case zz4 => first | (k_dflt decide) | ((try dsimp only [Mine.T.size] at *); omega)); intro _ _)
  k_with "call builtin:list.extend" => (k_here; with_reducible refine' Mine.ext_mem ?Fz5 ?Nz5 ?bz5 ?Uz5 ?zz5 ?_; (case Fz5 => k_asm); (case Nz5 => k_asm); (case bz5 => k_dflt k_mem); (case Uz5 => k_dflt k_updF); (case zz5 => ((try dsimp only [Mine.T.size] at *); (try simp only [Array.size_append, List.size_toArray, List.length_cons, List.length_nil]); omega)); intro _ _ _ Nqzz; (try dsimp only at Nqzz); (try (revert Nqzz; intro _)); (try k_sweep))
  k_with "call ref" => (k_here; (with_reducible show wpAny _ _ (PySem.call (Value.ref 296) _) _ _ _); k_dflt (refine' Mine.ord_call ?Iz6 ?Bz6 ?Fz6 ?Xz6 ?Nz6 ?Tz6 ?rz6 ?kz6 ?fz6 ?ez6 ?sz6 ?wz6 ?dz6 ?uz6 ?_; (case Iz6 => assumption); (case Bz6 => k_asm); (case Fz6 => k_asm); (case Xz6 => k_asm); (case Nz6 => k_asm); (case Tz6 => k_asm); (case rz6 => assumption); (case kz6 => first | exact fun _ _ e => e | exact Fr.keep (by assumption) | exact fun _ _ e => Fr.keep (by assumption) _ _ (Fr.keep (by assumption) _ _ e)); (case fz6 => exact rfl); (case ez6 => exact rfl); (case sz6 => ((try dsimp only [Mine.T.size] at *); omega)); (case wz6 => first | assumption | exact And.left (by assumption) | exact And.right (by assumption)); (case dz6 => ((try dsimp only [Mine.T.size] at *); (try dsimp only [depth_deeper, Mine.top]); (first | exact Mine.rm2 (by assumption) rfl | exact Mine.rm_tree (by assumption) | exact Mine.rm_ord (by assumption) (Nat.succ_le_succ (Nat.le_add_right _ _)) | exact Mine.rm_ord (by assumption) (Nat.succ_le_succ (Nat.le_add_left _ _)) | exact Mine.rm_ord (by assumption) (Nat.le_refl _) | omega))); (case uz6 => ((try dsimp only [Mine.T.size] at *); (try dsimp only [units_deeper, units_in1, Mine.top]); (first | exact Mine.rm2 (by assumption) rfl | exact Mine.rm_treeu (by assumption) | exact Mine.rm_ordu (by assumption) (Nat.succ_le_succ (Nat.le_add_right _ _)) | exact Mine.rm_ordu (by assumption) (Nat.succ_le_succ (Nat.le_add_left _ _)) | exact Mine.rm_ordu (by assumption) (Nat.le_refl _) | omega)))); intro _ _ _ _ _ _ _ _ _ _ _ _ _; (try k_sweep))
  k_with "call ref" => (k_here; (with_reducible show wpAny _ _ (PySem.call (Value.ref 303) _) _ _ _); k_dflt (refine' Mine.fs_call0 (mo := 2) ?Iz7 ?Bz7 ?Fz7 ?Xz7 ?Nz7 ?Tz7 ?rz7 ?kz7 ?fz7 ?ez7 ?dz7 ?uz7 ?_; (case Iz7 => assumption); (case Bz7 => k_asm); (case Fz7 => k_asm); (case Xz7 => k_asm); (case Nz7 => k_asm); (case Tz7 => k_asm); (case rz7 => assumption); (case kz7 => first | exact fun _ _ e => e | exact Fr.keep (by assumption) | exact fun _ _ e => Fr.keep (by assumption) _ _ (Fr.keep (by assumption) _ _ e)); (case fz7 => exact rfl); (case ez7 => exact rfl); (case dz7 => ((try dsimp only [Mine.T.size] at *); (try dsimp only [depth_deeper, Mine.top]); (first | exact Mine.rm2 (by assumption) rfl | exact Mine.rm_tree (by assumption) | exact Mine.rm_ord (by assumption) (Nat.succ_le_succ (Nat.le_add_right _ _)) | exact Mine.rm_ord (by assumption) (Nat.succ_le_succ (Nat.le_add_left _ _)) | exact Mine.rm_ord (by assumption) (Nat.le_refl _) | omega))); (case uz7 => ((try dsimp only [Mine.T.size] at *); (try dsimp only [units_deeper, units_in1, Mine.top]); (first | exact Mine.rm2 (by assumption) rfl | exact Mine.rm_treeu (by assumption) | exact Mine.rm_ordu (by assumption) (Nat.succ_le_succ (Nat.le_add_right _ _)) | exact Mine.rm_ordu (by assumption) (Nat.succ_le_succ (Nat.le_add_left _ _)) | exact Mine.rm_ordu (by assumption) (Nat.le_refl _) | omega)))); intro _ _ _ _ _ _ _ _ _ _ _ _ _; (try k_sweep))
  k_with "call ref" => (k_here; (with_reducible show wpAny _ _ (PySem.call (Value.ref 338) _) _ _ _); k_dflt (refine' Mine.fs_pure ?Iz8 ?Bz8 ?Fz8 ?Xz8 ?Nz8 ?Tz8 ?rz8 ?fz8 ?ez8 ?dz8 ?uz8 ?_; (case Iz8 => assumption); (case Bz8 => k_asm); (case Fz8 => k_asm); (case Xz8 => k_asm); (case Nz8 => k_asm); (case Tz8 => k_asm); (case rz8 => exact fun g' hk _ => Mine.RO.mono (by assumption) hk); (case fz8 => exact rfl); (case ez8 => exact rfl); (case dz8 => ((try dsimp only [depth_deeper, Mine.top]); (first | exact Mine.rm2 (by assumption) rfl | exact Mine.rm_tree (by assumption) | exact Mine.rm_ord (by assumption) (Nat.succ_le_succ (Nat.le_add_right _ _)) | exact Mine.rm_ord (by assumption) (Nat.succ_le_succ (Nat.le_add_left _ _)) | exact Mine.rm_ord (by assumption) (Nat.le_refl _) | omega))); (case uz8 => ((try dsimp only [units_deeper, units_in1, Mine.top]); (first | exact Mine.rm2 (by assumption) rfl | exact Mine.rm_treeu (by assumption) | exact Mine.rm_ordu (by assumption) (Nat.succ_le_succ (Nat.le_add_right _ _)) | exact Mine.rm_ordu (by assumption) (Nat.succ_le_succ (Nat.le_add_left _ _)) | exact Mine.rm_ordu (by assumption) (Nat.le_refl _) | omega)))); intro _ _ _ _ _ eqzz; (obtain ⟨tqzz, eqzz⟩ := eqzz; subst eqzz); (try (revert tqzz; intro _)); (try k_sweep))
  k_with "call builtin:isinstance" => (k_here; with_reducible refine' Mine.isi_tup ?Tz9 ?_; (case Tz9 => k_dflt is_tup); intro _)
  k_with "execs cons" => (k_here; first | (with_reducible refine' Mine.skip_if0 ?Fz10 ?vz10 ?bz10 ?_ ?x1z10 ?x2z10 ?x3z10; (case Fz10 => k_asm); (case vz10 => k_dflt exact rfl); (case bz10 => k_dflt decide); (case x1z10 => k_dflt exact rfl); (case x2z10 => k_dflt exact rfl); (case x3z10 => k_dflt decide); intro _) | (with_reducible refine' Mine.skip_or0 ?Fz10 ?vz10 ?bz10 ?b2z10 ?_ ?x1z10 ?x2z10 ?x3z10; (case Fz10 => k_asm); (case vz10 => k_dflt exact rfl); (case bz10 => k_dflt decide); (case b2z10 => k_dflt decide); (case x1z10 => k_dflt exact rfl); (case x2z10 => k_dflt exact rfl); (case x3z10 => k_dflt decide); intro _) | (with_reducible refine' Mine.take_if0 ?Fz10 ?vz10 ?bz10 ?_ ?x1z10 ?x2z10 ?x3z10; (case Fz10 => k_asm); (case vz10 => k_dflt exact rfl); (case bz10 => k_dflt decide); (case x1z10 => k_dflt exact rfl); (case x2z10 => k_dflt exact rfl); (case x3z10 => k_dflt decide); intro _))
  k_with "execs cons" => (k_here; first | (with_reducible refine' Mine.skip_in0 ?Fz11 ?Nz11 ?vz11 ?sz11 ?nz11 ?bz11 ?mz11 ?_ ?x1z11 ?x2z11 ?x3z11; (case Fz11 => k_asm); (case Nz11 => k_asm); (case vz11 => k_dflt exact rfl); (case sz11 => k_dflt exact rfl); (case nz11 => k_dflt decide); (case bz11 => k_dflt decide); (case mz11 => k_dflt exact rfl); (case x1z11 => k_dflt exact rfl); (case x2z11 => k_dflt exact rfl); (case x3z11 => k_dflt decide); intro _ _ _ _; (try k_sweep)) | (with_reducible refine' Mine.take_in0 ?Fz11 ?Nz11 ?vz11 ?sz11 ?nz11 ?bz11 ?mz11 ?_ ?x1z11 ?x2z11 ?x3z11; (case Fz11 => k_asm); (case Nz11 => k_asm); (case vz11 => k_dflt exact rfl); (case sz11 => k_dflt exact rfl); (case nz11 => k_dflt decide); (case bz11 => k_dflt decide); (case mz11 => k_dflt exact rfl); (case x1z11 => k_dflt exact rfl); (case x2z11 => k_dflt exact rfl); (case x3z11 => k_dflt decide); intro _ _ _ _; (try k_sweep)))
  k_with "eval Subscript Name Constant" => (k_here; with_reducible refine' Mine.item_tup0 ?Fz12 ?vz12 ?tz12 ?loz12 ?hiz12 ?jz12 ?uz12 ?_ ?x1z12 ?x2z12 ?x3z12; (case Fz12 => k_asm); (case vz12 => k_dflt exact rfl); (case tz12 => k_dflt is_tup); (case loz12 => k_dflt decide); (case hiz12 => k_dflt decide); (case jz12 => k_dflt exact rfl); (case uz12 => k_dflt exact rfl); (case x1z12 => k_dflt exact rfl); (case x2z12 => k_dflt exact rfl); (case x3z12 => k_dflt decide); intro _)
  k_with "call ref" => (k_here; (with_reducible show wpAny _ _ (PySem.call (Value.ref 345) _) _ _ _); k_dflt (refine' Mine.tk_call ?Uz63 ?z0z63 ?z1z63 ?z2z63 ?m0z63 ?m1z63 ?Bz63 ?Fz63 ?Xz63 ?Nz63 ?Tz63 ?hfz63 ?hkez63 ?hdz63 ?huz63 ?_; (case Nz63 => k_asm); (case Uz63 => k_dflt k_updF); (case z0z63 => assumption); (case z1z63 => omega); (case z2z63 => omega); (case m0z63 => decide); (case m1z63 => decide); (case Bz63 => k_asm); (case Fz63 => k_asm); (case Xz63 => k_asm); (case Tz63 => k_asm); (case hfz63 => exact rfl); (case hkez63 => exact rfl); (case hdz63 => ((try dsimp only [Mine.top]); (first | exact Mine.rm2 (by assumption) rfl | exact Mine.rm_tree (by assumption) | exact Mine.rm_ord (by assumption) (Nat.succ_le_succ (Nat.le_add_right _ _)) | exact Mine.rm_ord (by assumption) (Nat.succ_le_succ (Nat.le_add_left _ _)) | exact Mine.rm_ord (by assumption) (Nat.le_refl _) | omega))); (case huz63 => ((try dsimp only [Mine.top]); (first | exact Mine.rm2 (by assumption) rfl | exact Mine.rm_treeu (by assumption) | exact Mine.rm_ordu (by assumption) (Nat.succ_le_succ (Nat.le_add_right _ _)) | exact Mine.rm_ordu (by assumption) (Nat.succ_le_succ (Nat.le_add_left _ _)) | exact Mine.rm_ordu (by assumption) (Nat.le_refl _) | omega)))); intro _ _ _ _ _ _ _ _ _ _ _ _ Nqzz; (try dsimp only at Nqzz); (try (revert Nqzz; intro _)); (try k_sweep))
  k_with "call ref" => (k_here; (with_reducible show wpAny _ _ (PySem.call (Value.ref 357) _) _ _ _); k_dflt (refine' Mine.tree_call ?Iz64 ?Uz64 ?z0z64 ?z1z64 ?z2z64 ?Bz64 ?Fz64 ?Xz64 ?Nz64 ?Tz64 ?hkdz64 ?hfz64 ?hkez64 ?hdz64 ?huz64 ?_; (case Iz64 => assumption); (case Nz64 => k_asm); (case Uz64 => k_dflt k_updF); (case z0z64 => assumption); (case z1z64 => omega); (case z2z64 => omega); (case hkdz64 => omega); (case Bz64 => k_asm); (case Fz64 => k_asm); (case Xz64 => k_asm); (case Tz64 => k_asm); (case hfz64 => exact rfl); (case hkez64 => exact rfl); (case hdz64 => ((try dsimp only [Mine.top]); (first | exact Mine.rm2 (by assumption) rfl | exact Mine.rm_tree (by assumption) | exact Mine.rm_ord (by assumption) (Nat.succ_le_succ (Nat.le_add_right _ _)) | exact Mine.rm_ord (by assumption) (Nat.succ_le_succ (Nat.le_add_left _ _)) | exact Mine.rm_ord (by assumption) (Nat.le_refl _) | omega))); (case huz64 => ((try dsimp only [Mine.top]); (first | exact Mine.rm2 (by assumption) rfl | exact Mine.rm_treeu (by assumption) | exact Mine.rm_ordu (by assumption) (Nat.succ_le_succ (Nat.le_add_right _ _)) | exact Mine.rm_ordu (by assumption) (Nat.succ_le_succ (Nat.le_add_left _ _)) | exact Mine.rm_ordu (by assumption) (Nat.le_refl _) | omega)))); intro _ _ _ _ _ _ _ _ _ _ _ _ _ _ _ _ _ _ Nqzz q8qzz; clear q8qzz; (try dsimp only at Nqzz); (try (revert Nqzz; intro _)); (try k_sweep))
  k_with "call ref" => (k_here; (with_reducible show wpAny _ _ (PySem.call (Value.ref 345) [_, Value.int 2 _]) _ _ _); k_dflt (refine' Mine.tk_call ?Uz65 ?z0z65 ?z1z65 ?z2z65 ?m0z65 ?m1z65 ?Bz65 ?Fz65 ?Xz65 ?Nz65 ?Tz65 ?hfz65 ?hkez65 ?hdz65 ?huz65 ?_; (case Nz65 => k_asm); (case Uz65 => k_dflt k_updF); (case z0z65 => assumption); (case z1z65 => omega); (case z2z65 => omega); (case m0z65 => decide); (case m1z65 => decide); (case Bz65 => k_asm); (case Fz65 => k_asm); (case Xz65 => k_asm); (case Tz65 => k_asm); (case hfz65 => exact rfl); (case hkez65 => exact rfl); (case hdz65 => ((try dsimp only [Mine.top]); (first | exact Mine.rm2 (by assumption) rfl | exact Mine.rm_tree (by assumption) | exact Mine.rm_ord (by assumption) (Nat.succ_le_succ (Nat.le_add_right _ _)) | exact Mine.rm_ord (by assumption) (Nat.succ_le_succ (Nat.le_add_left _ _)) | exact Mine.rm_ord (by assumption) (Nat.le_refl _) | omega))); (case huz65 => ((try dsimp only [Mine.top]); (first | exact Mine.rm2 (by assumption) rfl | exact Mine.rm_treeu (by assumption) | exact Mine.rm_ordu (by assumption) (Nat.succ_le_succ (Nat.le_add_right _ _)) | exact Mine.rm_ordu (by assumption) (Nat.succ_le_succ (Nat.le_add_left _ _)) | exact Mine.rm_ordu (by assumption) (Nat.le_refl _) | omega)))); intro kdqzz _ _ _ _ _ _ _ _ _ _ _ Nqzz; (try dsimp only at Nqzz); (try (revert Nqzz; intro _)); (try k_sweep); (obtain eqzz | eqzz : kdqzz = 0 ∨ kdqzz = 1 := by omega); all_goals subst eqzz)
  k_with "CompSrc" => (k_here; k_dflt (refine' Mine.tree_src ?Iz66 ?Bz66 ?Fz66 ?Xz66 ?Nz66 ?Tz66 ?hrz66 ?hk0z66 ?hk3z66 ?hx0z66 ?hne1z66 ?hne2z66 ?hfz66 ?hkez66 ?hgz66 ?hfnz66 ?hkeepz66 ?hcbz66 ?hcdz66 ?hobz66 ?hodz66 ?hdvz66 ?hkz66 ?hxbz66 ?hxdz66 ?hyz66 ?hdz66 ?huz66 ?h90z66 ?h00z66 ?hFinz66; (case Iz66 => assumption); (case Bz66 => k_asm); (case Fz66 => k_asm); (case Xz66 => k_asm); (case Nz66 => k_asm); (case Tz66 => k_asm); (case hrz66 => assumption); (case hk0z66 => assumption); (case hk3z66 => assumption); (case hx0z66 => assumption); (case hne1z66 => k_ne); (case hne2z66 => k_ne); (case hfz66 => exact rfl); (case hkez66 => exact rfl); (case hgz66 => exact rfl); (case hfnz66 => k_is); (case hkeepz66 => k_is); (case hcbz66 => exact rfl); (case hcdz66 => exact rfl); (case hobz66 => assumption); (case hodz66 => assumption); (case hdvz66 => omega); (case hkz66 => exact rfl); (case hxbz66 => exact fun _ => rfl); (case hxdz66 => exact fun _ => rfl); (case hyz66 => exact fun _ => rfl); (case hdz66 => ((try dsimp only [Mine.top]); (first | exact Mine.rm2 (by assumption) rfl | exact Mine.rm_tree (by assumption) | exact Mine.rm_ord (by assumption) (Nat.succ_le_succ (Nat.le_add_right _ _)) | exact Mine.rm_ord (by assumption) (Nat.succ_le_succ (Nat.le_add_left _ _)) | exact Mine.rm_ord (by assumption) (Nat.le_refl _) | omega))); (case huz66 => ((try dsimp only [Mine.top]); (first | exact Mine.rm2 (by assumption) rfl | exact Mine.rm_treeu (by assumption) | exact Mine.rm_ordu (by assumption) (Nat.succ_le_succ (Nat.le_add_right _ _)) | exact Mine.rm_ordu (by assumption) (Nat.succ_le_succ (Nat.le_add_left _ _)) | exact Mine.rm_ordu (by assumption) (Nat.le_refl _) | omega))); (case h90z66 => omega); (case h00z66 => omega)); intro _ _ _ _ _ _ _ _ _ hgqzz htsqzz hlqzz hXqzz q0qzz q1qzz q2qzz; (obtain ⟨gqzz, hgqzz⟩ := hgqzz); subst hgqzz; (try dsimp only); (try (revert htsqzz hlqzz hXqzz q0qzz q1qzz q2qzz gqzz; intro _ _ _ _ _ _ _)))
  k_with "call type:tuple" => (k_here; k_dflt (refine' kde_tupleOf (s := ⟨_, _, _, _, _⟩) ?k1z67 ?k2z67 ?k3z67 ?k4z67 ?k5z67 ?_; (case k1z67 => k_asm); (case k2z67 => k_asm); (case k3z67 => exact News.isList (by k_asm) (by k_mem)); (case k4z67 => (rw [List.size_toArray, Mine.RTs.length (by assumption)]; omega)); (case k5z67 => exact rfl)); intro _ _ _ _ l1zz; (try k_lt l1zz); (try (revert l1zz; intro _)); (try k_sweep))
  k_with "subscriptTail Name Slice ref ref" => (k_here; k_dflt (first | (refine' Mine.slice_one ?az68 ?Fz68 ?Nz68 ?tz68 ?_ ?sz68 ?gz68; (case Fz68 => k_asm); (case Nz68 => k_asm); (case az68 => exact rfl); (case tz68 => exact News.isTup (by k_asm) (by k_mem)); (case sz68 => with_unfolding_all rfl); (case gz68 => kmk_pure); intro _ _ _ _ l1zz) | (refine' Mine.slice_two ?az68 ?Fz68 ?Nz68 ?tz68 ?_ ?sz68 ?gz68; (case Fz68 => k_asm); (case Nz68 => k_asm); (case az68 => exact rfl); (case tz68 => exact News.isTup (by k_asm) (by k_mem)); (case sz68 => with_unfolding_all rfl); (case gz68 => kmk_pure); intro _ _ _)); (try k_lt l1zz); (try (revert l1zz; intro _)); (try k_sweep))
  intro b x0 x1 t0 t1 n tm hx0 hx1 hx2
  refine' Mine.fs_cells (binds := [(Str.ofString "box", .ref b), (Str.ofString "deep", .int (0 : Nat) tm)]) ?ho ?hcd ?hb ?hl ?hn ?h ?c2 ?c3 ?c4
  case ho => (intro P; k_dflt k_is)
  case hcd => (intro P; k_dflt k_is)
  case hb => (intro s; exact BindsTo.of_eq rfl)
  case hl => exact rfl
  case hn => decide +kernel
  case c2 => exact rfl
  case c3 => exact rfl
  case c4 => exact rfl
  case h =>
  intro dp un gd outer base g s p loose mean mg mb L' h' tk cells B' X' T' F' N' Y' l1 pre hd hu
  k_cells Y'
  k_lt l1
  simp only [List.cons_append, List.nil_append] at N'
  simp only [cost] at hx2
  try dsimp only
  with_reducible show wpAny _ _ _ _ _ _
  k_fold; k_steps
  · exact tree_end (by k_asm) (by k_asm) (.name ⟨by k_mem, NeA.gt (by omega)⟩) (by k_mem) trivial (Nat.le_refl _) (by assumption) (by omega) (by simp only [cost]; omega)
  · exact tree_end (by k_asm) (by k_asm) (.text ⟨by k_mem, NeA.gt (by omega)⟩) (by k_mem) trivial (Nat.le_refl _) (by assumption) (by omega) (by simp only [cost]; omega)
set_option maxHeartbeats 40000000 in
theorem Mine.tree_succ {w : World} (d : Nat) (hd3 : d < 100) (IH : TreeIH w d) : TreeIH w (d + 1) := by
  w_top off
  k_with_none
  k_with "callWith ref" => (k_here; k_dflt (first | (refine' callWith_K ?k1z1 ?k2z1 ?_; (case k1z1 => k_asm); (case k2z1 => k_is); k_whole) | (refine' callWith_K0 ?k1z1 ?k2z1 ?_; (case k1z1 => k_in); (case k2z1 => k_is); k_whole)))
  k_with "binaryOp Add ref ref" => (k_here; with_reducible refine' Mine.add_mem ?Fz2 ?Nz2 ?az2 ?bz2 ?zz2 ?_; (case Fz2 => k_asm); (case Nz2 => k_asm); (case az2 => k_dflt k_mem); (case bz2 => k_dflt k_mem); (case zz2 => ((try dsimp only [Mine.T.size] at *); (try simp only [Array.size_append, List.size_toArray, List.length_cons, List.length_nil]); omega)); intro _ _ _ _ l1zz; (try k_lt l1zz); (try (revert l1zz; intro _)); (try k_sweep))
  k_with "call builtin:len" => (k_here; with_reducible refine' Mine.len_mem ?Nz3 ?mz3 ?ez3 ?zz3 ?_; (case Nz3 => k_asm); (case mz3 => k_dflt k_mem); (case ez3 => first | with_reducible assumption | exact rfl); (case zz3 => ((try dsimp only [Mine.T.size] at *); (try simp only [Array.size_push]); omega)); intro _ _)
  k_with "call builtin:len" => (k_here; with_reducible refine' Mine.len_tupN ?Tz4 ?ez4 ?zz4 ?_; (case Tz4 => k_dflt is_tup); (case ez4 => first | with_reducible assumption | exact rfl); (case zz4 => first | (k_dflt decide) | ((try dsimp only [Mine.T.size] at *); omega)); intro _ _)
  k_with "call builtin:list.extend" => (k_here; with_reducible refine' Mine.ext_mem ?Fz5 ?Nz5 ?bz5 ?Uz5 ?zz5 ?_; (case Fz5 => k_asm); (case Nz5 => k_asm); (case bz5 => k_dflt k_mem); (case Uz5 => k_dflt k_updF); (case zz5 => ((try dsimp only [Mine.T.size] at *); (try simp only [Array.size_append, List.size_toArray, List.length_cons, List.length_nil]); omega)); intro _ _ _ Nqzz; (try dsimp only at Nqzz); (try (revert Nqzz; intro _)); (try k_sweep))
  k_with "call ref" => (k_here; (with_reducible show wpAny _ _ (PySem.call (Value.ref 296) _) _ _ _); k_dflt (refine' Mine.ord_call ?Iz6 ?Bz6 ?Fz6 ?Xz6 ?Nz6 ?Tz6 ?rz6 ?kz6 ?fz6 ?ez6 ?sz6 ?wz6 ?dz6 ?uz6 ?_; (case Iz6 => assumption); (case Bz6 => k_asm); (case Fz6 => k_asm); (case Xz6 => k_asm); (case Nz6 => k_asm); (case Tz6 => k_asm); (case rz6 => assumption); (case kz6 => first | exact fun _ _ e => e | exact Fr.keep (by assumption) | exact fun _ _ e => Fr.keep (by assumption) _ _ (Fr.keep (by assumption) _ _ e)); (case fz6 => exact rfl); (case ez6 => exact rfl); (case sz6 => ((try dsimp only [Mine.T.size] at *); omega)); (case wz6 => first | assumption | exact And.left (by assumption) | exact And.right (by assumption)); (case dz6 => ((try dsimp only [Mine.T.size] at *); (try dsimp only [depth_deeper, Mine.top]); (first | exact Mine.rm2 (by assumption) rfl | exact Mine.rm_tree (by assumption) | exact Mine.rm_ord (by assumption) (Nat.succ_le_succ (Nat.le_add_right _ _)) | exact Mine.rm_ord (by assumption) (Nat.succ_le_succ (Nat.le_add_left _ _)) | exact Mine.rm_ord (by assumption) (Nat.le_refl _) | omega))); (case uz6 => ((try dsimp only [Mine.T.size] at *); (try dsimp only [units_deeper, units_in1, Mine.top]); (first | exact Mine.rm2 (by assumption) rfl | exact Mine.rm_treeu (by assumption) | exact Mine.rm_ordu (by assumption) (Nat.succ_le_succ (Nat.le_add_right _ _)) | exact Mine.rm_ordu (by assumption) (Nat.succ_le_succ (Nat.le_add_left _ _)) | exact Mine.rm_ordu (by assumption) (Nat.le_refl _) | omega)))); intro _ _ _ _ _ _ _ _ _ _ _ _ _; (try k_sweep))
  k_with "call ref" => (k_here; (with_reducible show wpAny _ _ (PySem.call (Value.ref 303) _) _ _ _); k_dflt (refine' Mine.fs_call0 (mo := 2) ?Iz7 ?Bz7 ?Fz7 ?Xz7 ?Nz7 ?Tz7 ?rz7 ?kz7 ?fz7 ?ez7 ?dz7 ?uz7 ?_; (case Iz7 => assumption); (case Bz7 => k_asm); (case Fz7 => k_asm); (case Xz7 => k_asm); (case Nz7 => k_asm); (case Tz7 => k_asm); (case rz7 => assumption); (case kz7 => first | exact fun _ _ e => e | exact Fr.keep (by assumption) | exact fun _ _ e => Fr.keep (by assumption) _ _ (Fr.keep (by assumption) _ _ e)); (case fz7 => exact rfl); (case ez7 => exact rfl); (case dz7 => ((try dsimp only [Mine.T.size] at *); (try dsimp only [depth_deeper, Mine.top]); (first | exact Mine.rm2 (by assumption) rfl | exact Mine.rm_tree (by assumption) | exact Mine.rm_ord (by assumption) (Nat.succ_le_succ (Nat.le_add_right _ _)) | exact Mine.rm_ord (by assumption) (Nat.succ_le_succ (Nat.le_add_left _ _)) | exact Mine.rm_ord (by assumption) (Nat.le_refl _) | omega))); (case uz7 => ((try dsimp only [Mine.T.size] at *); (try dsimp only [units_deeper, units_in1, Mine.top]); (first | exact Mine.rm2 (by assumption) rfl | exact Mine.rm_treeu (by assumption) | exact Mine.rm_ordu (by assumption) (Nat.succ_le_succ (Nat.le_add_right _ _)) | exact Mine.rm_ordu (by assumption) (Nat.succ_le_succ (Nat.le_add_left _ _)) | exact Mine.rm_ordu (by assumption) (Nat.le_refl _) | omega)))); intro _ _ _ _ _ _ _ _ _ _ _ _ _; (try k_sweep))
  k_with "call ref" => (k_here; (with_reducible show wpAny _ _ (PySem.call (Value.ref 338) _) _ _ _); k_dflt (refine' Mine.fs_pure ?Iz8 ?Bz8 ?Fz8 ?Xz8 ?Nz8 ?Tz8 ?rz8 ?fz8 ?ez8 ?dz8 ?uz8 ?_; (case Iz8 => assumption); (case Bz8 => k_asm); (case Fz8 => k_asm); (case Xz8 => k_asm); (case Nz8 => k_asm); (case Tz8 => k_asm); (case rz8 => exact fun g' hk _ => Mine.RO.mono (by assumption) hk); (case fz8 => exact rfl); (case ez8 => exact rfl); (case dz8 => ((try dsimp only [depth_deeper, Mine.top]); (first | exact Mine.rm2 (by assumption) rfl | exact Mine.rm_tree (by assumption) | exact Mine.rm_ord (by assumption) (Nat.succ_le_succ (Nat.le_add_right _ _)) | exact Mine.rm_ord (by assumption) (Nat.succ_le_succ (Nat.le_add_left _ _)) | exact Mine.rm_ord (by assumption) (Nat.le_refl _) | omega))); (case uz8 => ((try dsimp only [units_deeper, units_in1, Mine.top]); (first | exact Mine.rm2 (by assumption) rfl | exact Mine.rm_treeu (by assumption) | exact Mine.rm_ordu (by assumption) (Nat.succ_le_succ (Nat.le_add_right _ _)) | exact Mine.rm_ordu (by assumption) (Nat.succ_le_succ (Nat.le_add_left _ _)) | exact Mine.rm_ordu (by assumption) (Nat.le_refl _) | omega)))); intro _ _ _ _ _ eqzz; (obtain ⟨tqzz, eqzz⟩ := eqzz; subst eqzz); (try (revert tqzz; intro _)); (try k_sweep))
  k_with "call builtin:isinstance" => (k_here; with_reducible refine' Mine.isi_tup ?Tz9 ?_; (case Tz9 => k_dflt is_tup); intro _)
  k_with "execs cons" => (k_here; first | (with_reducible refine' Mine.skip_if0 ?Fz10 ?vz10 ?bz10 ?_ ?x1z10 ?x2z10 ?x3z10; (case Fz10 => k_asm); (case vz10 => k_dflt exact rfl); (case bz10 => k_dflt decide); (case x1z10 => k_dflt exact rfl); (case x2z10 => k_dflt exact rfl); (case x3z10 => k_dflt decide); intro _) | (with_reducible refine' Mine.skip_or0 ?Fz10 ?vz10 ?bz10 ?b2z10 ?_ ?x1z10 ?x2z10 ?x3z10; (case Fz10 => k_asm); (case vz10 => k_dflt exact rfl); (case bz10 => k_dflt decide); (case b2z10 => k_dflt decide); (case x1z10 => k_dflt exact rfl); (case x2z10 => k_dflt exact rfl); (case x3z10 => k_dflt decide); intro _) | (with_reducible refine' Mine.take_if0 ?Fz10 ?vz10 ?bz10 ?_ ?x1z10 ?x2z10 ?x3z10; (case Fz10 => k_asm); (case vz10 => k_dflt exact rfl); (case bz10 => k_dflt decide); (case x1z10 => k_dflt exact rfl); (case x2z10 => k_dflt exact rfl); (case x3z10 => k_dflt decide); intro _))
  k_with "execs cons" => (k_here; first | (with_reducible refine' Mine.skip_in0 ?Fz11 ?Nz11 ?vz11 ?sz11 ?nz11 ?bz11 ?mz11 ?_ ?x1z11 ?x2z11 ?x3z11; (case Fz11 => k_asm); (case Nz11 => k_asm); (case vz11 => k_dflt exact rfl); (case sz11 => k_dflt exact rfl); (case nz11 => k_dflt decide); (case bz11 => k_dflt decide); (case mz11 => k_dflt exact rfl); (case x1z11 => k_dflt exact rfl); (case x2z11 => k_dflt exact rfl); (case x3z11 => k_dflt decide); intro _ _ _ _; (try k_sweep)) | (with_reducible refine' Mine.take_in0 ?Fz11 ?Nz11 ?vz11 ?sz11 ?nz11 ?bz11 ?mz11 ?_ ?x1z11 ?x2z11 ?x3z11; (case Fz11 => k_asm); (case Nz11 => k_asm); (case vz11 => k_dflt exact rfl); (case sz11 => k_dflt exact rfl); (case nz11 => k_dflt decide); (case bz11 => k_dflt decide); (case mz11 => k_dflt exact rfl); (case x1z11 => k_dflt exact rfl); (case x2z11 => k_dflt exact rfl); (case x3z11 => k_dflt decide); intro _ _ _ _; (try k_sweep)))
  k_with "eval Subscript Name Constant" => (k_here; with_reducible refine' Mine.item_tup0 ?Fz12 ?vz12 ?tz12 ?loz12 ?hiz12 ?jz12 ?uz12 ?_ ?x1z12 ?x2z12 ?x3z12; (case Fz12 => k_asm); (case vz12 => k_dflt exact rfl); (case tz12 => k_dflt is_tup); (case loz12 => k_dflt decide); (case hiz12 => k_dflt decide); (case jz12 => k_dflt exact rfl); (case uz12 => k_dflt exact rfl); (case x1z12 => k_dflt exact rfl); (case x2z12 => k_dflt exact rfl); (case x3z12 => k_dflt decide); intro _)
  k_with "call ref" => (k_here; (with_reducible show wpAny _ _ (PySem.call (Value.ref 345) _) _ _ _); k_dflt (refine' Mine.tk_call ?Uz63 ?z0z63 ?z1z63 ?z2z63 ?m0z63 ?m1z63 ?Bz63 ?Fz63 ?Xz63 ?Nz63 ?Tz63 ?hfz63 ?hkez63 ?hdz63 ?huz63 ?_; (case Nz63 => k_asm); (case Uz63 => k_dflt k_updF); (case z0z63 => assumption); (case z1z63 => omega); (case z2z63 => omega); (case m0z63 => decide); (case m1z63 => decide); (case Bz63 => k_asm); (case Fz63 => k_asm); (case Xz63 => k_asm); (case Tz63 => k_asm); (case hfz63 => exact rfl); (case hkez63 => exact rfl); (case hdz63 => ((try dsimp only [Mine.top]); (first | exact Mine.rm2 (by assumption) rfl | exact Mine.rm_tree (by assumption) | exact Mine.rm_ord (by assumption) (Nat.succ_le_succ (Nat.le_add_right _ _)) | exact Mine.rm_ord (by assumption) (Nat.succ_le_succ (Nat.le_add_left _ _)) | exact Mine.rm_ord (by assumption) (Nat.le_refl _) | omega))); (case huz63 => ((try dsimp only [Mine.top]); (first | exact Mine.rm2 (by assumption) rfl | exact Mine.rm_treeu (by assumption) | exact Mine.rm_ordu (by assumption) (Nat.succ_le_succ (Nat.le_add_right _ _)) | exact Mine.rm_ordu (by assumption) (Nat.succ_le_succ (Nat.le_add_left _ _)) | exact Mine.rm_ordu (by assumption) (Nat.le_refl _) | omega)))); intro _ _ _ _ _ _ _ _ _ _ _ _ Nqzz; (try dsimp only at Nqzz); (try (revert Nqzz; intro _)); (try k_sweep))
  k_with "call ref" => (k_here; (with_reducible show wpAny _ _ (PySem.call (Value.ref 357) _) _ _ _); k_dflt (refine' Mine.tree_call ?Iz64 ?Uz64 ?z0z64 ?z1z64 ?z2z64 ?Bz64 ?Fz64 ?Xz64 ?Nz64 ?Tz64 ?hkdz64 ?hfz64 ?hkez64 ?hdz64 ?huz64 ?_; (case Iz64 => assumption); (case Nz64 => k_asm); (case Uz64 => k_dflt k_updF); (case z0z64 => assumption); (case z1z64 => omega); (case z2z64 => omega); (case hkdz64 => omega); (case Bz64 => k_asm); (case Fz64 => k_asm); (case Xz64 => k_asm); (case Tz64 => k_asm); (case hfz64 => exact rfl); (case hkez64 => exact rfl); (case hdz64 => ((try dsimp only [Mine.top]); (first | exact Mine.rm2 (by assumption) rfl | exact Mine.rm_tree (by assumption) | exact Mine.rm_ord (by assumption) (Nat.succ_le_succ (Nat.le_add_right _ _)) | exact Mine.rm_ord (by assumption) (Nat.succ_le_succ (Nat.le_add_left _ _)) | exact Mine.rm_ord (by assumption) (Nat.le_refl _) | omega))); (case huz64 => ((try dsimp only [Mine.top]); (first | exact Mine.rm2 (by assumption) rfl | exact Mine.rm_treeu (by assumption) | exact Mine.rm_ordu (by assumption) (Nat.succ_le_succ (Nat.le_add_right _ _)) | exact Mine.rm_ordu (by assumption) (Nat.succ_le_succ (Nat.le_add_left _ _)) | exact Mine.rm_ordu (by assumption) (Nat.le_refl _) | omega)))); intro _ _ _ _ _ _ _ _ _ _ _ _ _ _ _ _ _ _ Nqzz q8qzz; clear q8qzz; (try dsimp only at Nqzz); (try (revert Nqzz; intro _)); (try k_sweep))
  k_with "call ref" => (k_here; (with_reducible show wpAny _ _ (PySem.call (Value.ref 345) [_, Value.int 2 _]) _ _ _); k_dflt (refine' Mine.tk_call ?Uz65 ?z0z65 ?z1z65 ?z2z65 ?m0z65 ?m1z65 ?Bz65 ?Fz65 ?Xz65 ?Nz65 ?Tz65 ?hfz65 ?hkez65 ?hdz65 ?huz65 ?_; (case Nz65 => k_asm); (case Uz65 => k_dflt k_updF); (case z0z65 => assumption); (case z1z65 => omega); (case z2z65 => omega); (case m0z65 => decide); (case m1z65 => decide); (case Bz65 => k_asm); (case Fz65 => k_asm); (case Xz65 => k_asm); (case Tz65 => k_asm); (case hfz65 => exact rfl); (case hkez65 => exact rfl); (case hdz65 => ((try dsimp only [Mine.top]); (first | exact Mine.rm2 (by assumption) rfl | exact Mine.rm_tree (by assumption) | exact Mine.rm_ord (by assumption) (Nat.succ_le_succ (Nat.le_add_right _ _)) | exact Mine.rm_ord (by assumption) (Nat.succ_le_succ (Nat.le_add_left _ _)) | exact Mine.rm_ord (by assumption) (Nat.le_refl _) | omega))); (case huz65 => ((try dsimp only [Mine.top]); (first | exact Mine.rm2 (by assumption) rfl | exact Mine.rm_treeu (by assumption) | exact Mine.rm_ordu (by assumption) (Nat.succ_le_succ (Nat.le_add_right _ _)) | exact Mine.rm_ordu (by assumption) (Nat.succ_le_succ (Nat.le_add_left _ _)) | exact Mine.rm_ordu (by assumption) (Nat.le_refl _) | omega)))); intro kdqzz _ _ _ _ _ _ _ _ _ _ _ Nqzz; (try dsimp only at Nqzz); (try (revert Nqzz; intro _)); (try k_sweep); (obtain eqzz | eqzz : kdqzz = 0 ∨ kdqzz = 1 := by omega); all_goals subst eqzz)
  k_with "CompSrc" => (k_here; k_dflt (refine' Mine.tree_src ?Iz66 ?Bz66 ?Fz66 ?Xz66 ?Nz66 ?Tz66 ?hrz66 ?hk0z66 ?hk3z66 ?hx0z66 ?hne1z66 ?hne2z66 ?hfz66 ?hkez66 ?hgz66 ?hfnz66 ?hkeepz66 ?hcbz66 ?hcdz66 ?hobz66 ?hodz66 ?hdvz66 ?hkz66 ?hxbz66 ?hxdz66 ?hyz66 ?hdz66 ?huz66 ?h90z66 ?h00z66 ?hFinz66; (case Iz66 => assumption); (case Bz66 => k_asm); (case Fz66 => k_asm); (case Xz66 => k_asm); (case Nz66 => k_asm); (case Tz66 => k_asm); (case hrz66 => assumption); (case hk0z66 => assumption); (case hk3z66 => assumption); (case hx0z66 => assumption); (case hne1z66 => k_ne); (case hne2z66 => k_ne); (case hfz66 => exact rfl); (case hkez66 => exact rfl); (case hgz66 => exact rfl); (case hfnz66 => k_is); (case hkeepz66 => k_is); (case hcbz66 => exact rfl); (case hcdz66 => exact rfl); (case hobz66 => assumption); (case hodz66 => assumption); (case hdvz66 => omega); (case hkz66 => exact rfl); (case hxbz66 => exact fun _ => rfl); (case hxdz66 => exact fun _ => rfl); (case hyz66 => exact fun _ => rfl); (case hdz66 => ((try dsimp only [Mine.top]); (first | exact Mine.rm2 (by assumption) rfl | exact Mine.rm_tree (by assumption) | exact Mine.rm_ord (by assumption) (Nat.succ_le_succ (Nat.le_add_right _ _)) | exact Mine.rm_ord (by assumption) (Nat.succ_le_succ (Nat.le_add_left _ _)) | exact Mine.rm_ord (by assumption) (Nat.le_refl _) | omega))); (case huz66 => ((try dsimp only [Mine.top]); (first | exact Mine.rm2 (by assumption) rfl | exact Mine.rm_treeu (by assumption) | exact Mine.rm_ordu (by assumption) (Nat.succ_le_succ (Nat.le_add_right _ _)) | exact Mine.rm_ordu (by assumption) (Nat.succ_le_succ (Nat.le_add_left _ _)) | exact Mine.rm_ordu (by assumption) (Nat.le_refl _) | omega))); (case h90z66 => omega); (case h00z66 => omega)); intro _ _ _ _ _ _ _ _ _ hgqzz htsqzz hlqzz hXqzz q0qzz q1qzz q2qzz; (obtain ⟨gqzz, hgqzz⟩ := hgqzz); subst hgqzz; (try dsimp only); (try (revert htsqzz hlqzz hXqzz q0qzz q1qzz q2qzz gqzz; intro _ _ _ _ _ _ _)))
  k_with "call type:tuple" => (k_here; k_dflt (refine' kde_tupleOf (s := ⟨_, _, _, _, _⟩) ?k1z67 ?k2z67 ?k3z67 ?k4z67 ?k5z67 ?_; (case k1z67 => k_asm); (case k2z67 => k_asm); (case k3z67 => exact News.isList (by k_asm) (by k_mem)); (case k4z67 => (rw [List.size_toArray, Mine.RTs.length (by assumption)]; omega)); (case k5z67 => exact rfl)); intro _ _ _ _ l1zz; (try k_lt l1zz); (try (revert l1zz; intro _)); (try k_sweep))
  k_with "subscriptTail Name Slice ref ref" => (k_here; k_dflt (first | (refine' Mine.slice_one ?az68 ?Fz68 ?Nz68 ?tz68 ?_ ?sz68 ?gz68; (case Fz68 => k_asm); (case Nz68 => k_asm); (case az68 => exact rfl); (case tz68 => exact News.isTup (by k_asm) (by k_mem)); (case sz68 => with_unfolding_all rfl); (case gz68 => kmk_pure); intro _ _ _ _ l1zz) | (refine' Mine.slice_two ?az68 ?Fz68 ?Nz68 ?tz68 ?_ ?sz68 ?gz68; (case Fz68 => k_asm); (case Nz68 => k_asm); (case az68 => exact rfl); (case tz68 => exact News.isTup (by k_asm) (by k_mem)); (case sz68 => with_unfolding_all rfl); (case gz68 => kmk_pure); intro _ _ _)); (try k_lt l1zz); (try (revert l1zz; intro _)); (try k_sweep))
  intro b x0 x1 t0 t1 n tm hx0 hx1 hx2
  refine' Mine.fs_cells (binds := [(Str.ofString "box", .ref b), (Str.ofString "deep", .int ((d + 1 : Nat) : Int) tm)]) ?ho ?hcd ?hb ?hl ?hn ?h ?c2 ?c3 ?c4
  case ho => (intro P; k_dflt k_is)
  case hcd => (intro P; k_dflt k_is)
  case hb => (intro s; exact BindsTo.of_eq rfl)
  case hl => exact rfl
  case hn => decide +kernel
  case c2 => exact rfl
  case c3 => exact rfl
  case c4 => exact rfl
  case h =>
  intro dp un gd outer base g s p loose mean mg mb L' h' tk cells B' X' T' F' N' Y' l1 pre hd hu
  k_cells Y'
  k_lt l1
  simp only [List.cons_append, List.nil_append] at N'
  simp only [cost] at hx2
  try dsimp only
  with_reducible show wpAny _ _ _ _ _ _
  k_fold; k_steps
  · (show Done _ _ _ _ _)
    exact tree_end (by k_asm) (by k_asm) (.name ⟨by k_mem, by show _ ≠ _; k_ne⟩) (by k_mem) (trivial) (by simp only [T.size, cost] at *; omega) (by assumption) (by omega) (by simp only [cost]; omega)
  · (show Done _ _ _ _ _)
    exact tree_end (by k_asm) (by k_asm) (.text ⟨by k_mem, by show _ ≠ _; k_ne⟩) (by k_mem) (trivial) (by simp only [T.size, cost] at *; omega) (by assumption) (by omega) (by simp only [cost]; omega)
  · (show Done _ _ _ _ _)
    exact tree_end (by k_asm) (by k_asm) (.join ⟨by k_mem, by show _ ≠ _; k_ne⟩ (rt_sub (by assumption) (by assumption) fun q hq => by simp only [List.mem_cons, List.mem_append]; simp only [hq, true_or, or_true]) (rt_sub (by assumption) (by assumption) fun q hq => by simp only [List.mem_cons, List.mem_append]; simp only [hq, true_or, or_true])) (by k_mem) (⟨by assumption, by assumption⟩) (by simp only [T.size, cost] at *; omega) (by assumption) (by omega) (by simp only [cost]; omega)
  · (show Done _ _ _ _ _)
    exact tree_end (by k_asm) (by k_asm) (.plus ⟨by k_mem, by show _ ≠ _; k_ne⟩ (rt_sub (by assumption) (by assumption) fun q hq => by simp only [List.mem_cons, List.mem_append]; simp only [hq, true_or, or_true]) (.name ⟨by k_mem, by show _ ≠ _; k_ne⟩)) (by k_mem) (⟨by assumption, trivial⟩) (by simp only [T.size, cost] at *; omega) (by assumption) (by omega) (by simp only [cost]; omega)
  · (show Done _ _ _ _ _)
    exact tree_end (by k_asm) (by k_asm) (.bar ⟨by k_mem, by show _ ≠ _; k_ne⟩ (rt_sub (by assumption) (by assumption) fun q hq => by simp only [List.mem_cons, List.mem_append]; simp only [hq, true_or, or_true]) (.name ⟨by k_mem, by show _ ≠ _; k_ne⟩)) (by k_mem) (⟨by assumption, trivial⟩) (by simp only [T.size, cost] at *; omega) (by assumption) (by omega) (by simp only [cost]; omega)
  · (show Done _ _ _ _ _)
    exact tree_end (by k_asm) (by k_asm) (.dot ⟨by k_mem, by show _ ≠ _; k_ne⟩ (rt_sub (by assumption) (by assumption) fun q hq => by simp only [List.mem_cons, List.mem_append]; simp only [hq, true_or, or_true]) (.name ⟨by k_mem, by show _ ≠ _; k_ne⟩)) (by k_mem) (⟨by assumption, trivial⟩) (by simp only [T.size, cost] at *; omega) (by assumption) (by omega) (by simp only [cost]; omega)
  · (show Done _ _ _ _ _)
    exact un_end (by k_asm) (by k_asm) (by k_mem) (by show _ ≠ _; k_ne) (by assumption) (by assumption) (.name ⟨by k_mem, by show _ ≠ _; k_ne⟩) (by k_mem) trivial trivial (by simp only [T.size, cost] at *; omega) (by assumption) (by omega) (by simp only [cost]; omega)
  · (show Done _ _ _ _ _)
    exact un_end (by k_asm) (by k_asm) (by k_mem) (by show _ ≠ _; k_ne) (by assumption) (by assumption) (.doll ⟨by k_mem, by show _ ≠ _; k_ne⟩ (rt_sub (by assumption) (by assumption) fun q hq => by simp only [List.mem_cons, List.mem_append]; simp only [hq, true_or, or_true])) (by k_mem) (by assumption) (by assumption) (by simp only [T.size, cost] at *; omega) (by assumption) (by omega) (by simp only [cost]; omega)
  · (show Done _ _ _ _ _)
    exact tree_end (by k_asm) (by k_asm) (.item ⟨by k_mem, by show _ ≠ _; k_ne⟩ (rt_sub (by assumption) (by assumption) fun q hq => by simp only [List.mem_cons, List.mem_append]; simp only [hq, true_or, or_true]) (.r1 ⟨by k_mem, by show _ ≠ _; k_ne⟩ (rt_sub (by assumption) (by assumption) fun q hq => by simp only [List.mem_cons, List.mem_append]; simp only [hq, true_or, or_true]))) (by k_mem) (⟨by assumption, by assumption⟩) (by simp only [T.size, cost] at *; omega) (by assumption) (by omega) (by simp only [cost]; omega)
  · (show Done _ _ _ _ _)
    exact tree_end (by k_asm) (by k_asm) (.item ⟨by k_mem, by show _ ≠ _; k_ne⟩ (rt_sub (by assumption) (by assumption) fun q hq => by simp only [List.mem_cons, List.mem_append]; simp only [hq, true_or, or_true]) (.r2 ⟨by k_mem, by show _ ≠ _; k_ne⟩ (rt_sub (by assumption) (by assumption) fun q hq => by simp only [List.mem_cons, List.mem_append]; simp only [hq, true_or, or_true]) (.whole ⟨by k_mem, by show _ ≠ _; k_ne⟩))) (by k_mem) (⟨by assumption, by assumption, trivial⟩) (by simp only [T.size, cost] at *; omega) (by assumption) (by omega) (by simp only [cost]; omega)
  · (show Done _ _ _ _ _)
    exact tree_end (by k_asm) (by k_asm) (.neg ⟨by k_mem, by show _ ≠ _; k_ne⟩ (rt_sub (by assumption) (by assumption) fun q hq => by simp only [List.mem_cons, List.mem_append]; simp only [hq, true_or, or_true])) (by k_mem) (by assumption) (by simp only [T.size, cost] at *; omega) (by assumption) (by omega) (by simp only [cost]; omega)
  · (show Done _ _ _ _ _)
    exact call_end (by k_asm) (by k_asm) (by assumption) (by assumption) (by assumption) (fun q hq => by simp only [List.mem_cons, List.mem_append]; simp only [hq, true_or, or_true]) (by k_mem) (by show _ ≠ _; k_ne) (by k_mem) (by show _ ≠ _; k_ne) (by k_mem) (by assumption) (by omega) (by simp only [cost]; omega)
theorem Mine.tree_fs {w : World} : ∀ d, d ≤ 100 → TreeIH w d
  | 0, _ => tree_zero
  | d + 1, h => tree_succ d (by omega) (tree_fs d (by omega))
namespace Mine
noncomputable def okRun : List O → M → Prop
  | [], _ => True
  | o :: r, σ => (o.isGuard = false ∧ o ≠ .unguard ∧ o ≠ .fail ∧ need o ≤ σ.st.length) ∧ okRun r (doO [] o σ).2
noncomputable def runF (l : List O) (σ : M) : M := l.foldl (fun σ o => (doO [] o σ).2) σ
theorem okRun_append {l l' : List O} {σ : M} (h : okRun l σ) (h' : okRun l' (runF l σ)) : okRun (l ++ l') σ := by
  induction l generalizing σ with
  | nil => exact h'
  | cons o r ih => exact ⟨h.1, ih h.2 h'⟩
theorem runF_append {l l' : List O} {σ : M} : runF (l ++ l') σ = runF l' (runF l σ) := by unfold runF; rw [List.foldl_append]
theorem okRun_get {l : List O} : ∀ {σ : M}, okRun l σ → ∀ i o, l[i]? = some o → o.isGuard = false ∧ o ≠ .unguard ∧ o ≠ .fail ∧ need o ≤ (runF (l.take i) σ).st.length := by
  induction l with
  | nil => intro σ _ i o e; simp at e
  | cons p r ih =>
    intro σ h i o e
    cases i with
    | zero => cases e; exact h.1
    | succ i => exact ih h.2 i o e
/-- a piece without a negation: takes c values, leaves d -/
noncomputable def SegP (l : List O) (c d : Nat) : Prop := ∀ σ : M, c ≤ σ.st.length → okRun l σ ∧ (runF l σ).st.length + c = σ.st.length + d
theorem SegP.nil {c : Nat} : SegP [] c c := fun _ _ => ⟨trivial, rfl⟩
theorem SegP.seq {l l' : List O} {c d e : Nat} (S : SegP l c d) (S' : SegP l' d e) : SegP (l ++ l') c e := fun σ h => by
  obtain ⟨h1, h2⟩ := S σ h
  obtain ⟨h3, h4⟩ := S' (runF l σ) (by omega)
  exact ⟨okRun_append h1 h3, by rw [runF_append]; omega⟩
theorem SegP.above {l : List O} {c d : Nat} (S : SegP l c d) (k : Nat) : SegP l (k + c) (k + d) := fun σ h => by
  obtain ⟨h1, h2⟩ := S σ (by omega)
  exact ⟨h1, by omega⟩
theorem SegP.one {o : O} (hg : o.isGuard = false) (hu : o ≠ .unguard) (hf : o ≠ .fail) {d : Nat} (hd : (d : Int) = need o + chg o) : SegP [o] (need o) d := fun σ h => by
  have := (chg_len (bad := []) rfl hg hu hf h).2
  exact ⟨⟨⟨hg, hu, hf, h⟩, trivial⟩, by show (doO [] o σ).2.st.length + need o = _; omega⟩
theorem segp_ords (t : T) : ∀ m, t.wf m → t.negs = 0 → SegP (ords m t) 0 (cnt m t) := by
  have A : ∀ {x y : T}, x.negs + y.negs = 0 → x.negs = 0 := fun h => by omega
  have B : ∀ {x y : T}, x.negs + y.negs = 0 → y.negs = 0 := fun h => by omega
  have ask : ∀ {o : O} (h1 : o.isGuard = false) (h2 : o ≠ .unguard) (h3 : o ≠ .fail) (h4 : ((1 : Nat) : Int) = need o + chg o), SegP [o] (need o) 1 := fun h1 h2 h3 h4 => SegP.one h1 h2 h3 h4
  induction t with
  | name x =>
    intro m hw hn; rcases m with _ | _ | _ | m <;> first | exact False.elim hw | skip
    · exact ask (o := .var) rfl (fun e => by cases e) (fun e => by cases e) rfl
    · exact ask (o := .ref) rfl (fun e => by cases e) (fun e => by cases e) rfl
  | text =>
    intro m hw hn; rcases m with _ | _ | _ | m <;> first | exact False.elim hw | skip
    · exact ask (o := .push _) rfl (fun e => by cases e) (fun e => by cases e) rfl
  | whole =>
    intro m hw hn; rcases m with _ | _ | _ | m <;> first | exact False.elim hw | skip
    · exact ask (o := .push _) rfl (fun e => by cases e) (fun e => by cases e) rfl
  | join a b ia ib =>
    intro m hw hn; rcases m with _ | _ | _ | m <;> first | exact False.elim hw | skip
    · exact ((ia 0 hw.1 (A hn)).seq ((ib 0 hw.2 (B hn)).above 1)).seq (ask (o := .join) rfl (fun e => by cases e) (fun e => by cases e) rfl)
  | plus a b ia ib =>
    intro m hw hn; rcases m with _ | _ | _ | m <;> first | exact False.elim hw | skip
    · exact ((ia 0 hw.1 (A hn)).seq ((ib 0 hw.2 (B hn)).above 1)).seq (ask (o := .binary) rfl (fun e => by cases e) (fun e => by cases e) rfl)
  | bar a b ia ib =>
    intro m hw hn; rcases m with _ | _ | _ | m <;> first | exact False.elim hw | skip
    · exact ((ia 0 hw.1 (A hn)).seq ((ib 0 hw.2 (B hn)).above 1)).seq (ask (o := .binary) rfl (fun e => by cases e) (fun e => by cases e) rfl)
  | dot a b ia ib =>
    intro m hw hn; rcases m with _ | _ | _ | m <;> first | exact False.elim hw | skip
    · exact ((ia 0 hw.1 (A hn)).seq ((ib 1 hw.2 (B hn)).above 1)).seq (ask (o := .given) rfl (fun e => by cases e) (fun e => by cases e) rfl)
  | neg a ia => intro m hw hn; simp [T.negs] at hn
  | ques a ia =>
    intro m hw hn; rcases m with _ | _ | _ | m <;> first | exact False.elim hw | skip
    · exact (ia 0 hw hn).seq (SegP.seq (l := [.drop]) (SegP.one (o := .drop) (d := 0) rfl (fun e => by cases e) (fun e => by cases e) rfl) (ask (o := .push _) rfl (fun e => by cases e) (fun e => by cases e) rfl))
  | minus a ia =>
    intro m hw hn; rcases m with _ | _ | _ | m <;> first | exact False.elim hw | skip
    · exact (ia 0 hw hn).seq (ask (o := .unary) rfl (fun e => by cases e) (fun e => by cases e) rfl)
  | doll a ia =>
    intro m hw hn; rcases m with _ | _ | _ | m <;> first | exact False.elim hw | skip
    · exact (ia 0 hw hn).seq (SegP.seq (l := [.indirect]) (ask (o := .indirect) rfl (fun e => by cases e) (fun e => by cases e) rfl) (ask (o := .value) rfl (fun e => by cases e) (fun e => by cases e) rfl))
    · exact (ia 0 hw hn).seq (ask (o := .indirect) rfl (fun e => by cases e) (fun e => by cases e) rfl)
  | «at» a ia =>
    intro m hw hn; rcases m with _ | _ | _ | m <;> first | exact False.elim hw | skip
    · exact (ia 1 hw hn).seq (ask (o := .cursor) rfl (fun e => by cases e) (fun e => by cases e) rfl)
  | item a r ia ir =>
    intro m hw hn; rcases m with _ | _ | _ | m <;> first | exact False.elim hw | skip
    · have h2 := SegP.one (o := .item r.len) (d := 1) rfl (fun e => by cases e) (fun e => by cases e) (by simp only [need, chg]; omega)
      have e : need (.item r.len) = 1 + r.len := Nat.add_comm _ _
      rw [e] at h2
      exact ((ia 0 hw.1 (A hn)).seq ((ir 2 hw.2 (B hn)).above 1)).seq h2
  | call r ir =>
    intro m hw hn; rcases m with _ | _ | _ | m <;> first | exact False.elim hw | skip
    · exact (ir 2 hw hn).seq (SegP.one (o := .call r.len) (d := 1) rfl (fun e => by cases e) (fun e => by cases e) (by simp only [need, chg]; omega))
  | r0 =>
    intro m hw hn; rcases m with _ | _ | _ | m <;> first | exact False.elim hw | skip
    · exact SegP.nil
  | r1 a ia =>
    intro m hw hn; rcases m with _ | _ | _ | m <;> first | exact False.elim hw | skip
    · exact ia 0 hw hn
  | r2 a b ia ib =>
    intro m hw hn; rcases m with _ | _ | _ | m <;> first | exact False.elim hw | skip
    · exact (ia 0 hw.1 (A hn)).seq ((ib 0 hw.2 (B hn)).above 1)
theorem plain_ords (t : T) (hw : t.wf 0) (hn : t.negs = 0) : Plain (ords 0 t) := fun i o h => okRun_get (segp_ords t 0 hw hn ⟨[], [], 0⟩ (Nat.zero_le _)).1 i o h
end Mine
namespace Mine
theorem ints_snoc {vs : List Value} {ns : List Int} {k : Int} {t : Tok} (h : IntsAre vs ns) : IntsAre (vs ++ [.int k t]) (ns ++ [k]) := by
  exact h.append (.cons k t .nil)
section
variable {w : World} {base h₀ : Heap} {outer : List Env} {L : Addr} {m : Str → Option Value} {env : Env} {gs : Array GenState} {dr : Drawn} {os : OsState} {p : Program} {loose : List Str} {mean : ExcName → Option Value} {mg mb : Str → Option Value}
  {A₀ : Around} {dp un n : Nat} {gd : Option (List Code)} {scope : Scope} {cl : List (Str × Addr)} {p1 p2 p3 p4 p5 p6 : Pos} {kk : Nat}
theorem take_rest {nn : Nat} {b cb : Addr} {ob : Obj} {Bs : List (Addr × Obj)} {PP : Nat → Value → Prop} {Fin : List Value → List (Addr × Obj) → Prop} (B : Below A₀ base outer h₀) (X : (Mine.hd.heap_39 w.params).In h₀) (T : Top p loose mean mg mb h₀) (hf : env.frame = some L) (hke : env.scope.kind = .function) (hg : env.globals = mainGlobals)
    (hfn : nsIn (Mine.hd.heap_39 w.params) mainGlobals (Str.ofString "_law_take") = some (some (.ref 345))) (hkeep : keepIn (Mine.hd.heap_39 w.params) (.ref 345) = true)
    (hcb : cl.lookup (Str.ofString "box") = some cb) (hbm : (cb, ob) ∈ Bs) (hob : ob.data = .cell (some (.ref b))) (hBb : ∀ q ∈ Bs, q.1 ≠ b)
    (hk : scope.kind = .function) (hxb : ∀ C, (compEnvC scope cl C env).kindOf (Str.ofString "box") = some .cell) (hy : ∀ C, (compEnvC scope cl C env).kindOf (Str.ofString "_law_take") = some .globalImplicit)
    (hd : dp + 1 < 900) (hu : un + 5 * 1 < 3000) {x1₀ : Int} (h90 : x1₀ + nn < 90000) (h00 : 0 ≤ x1₀)
    (hFin : ∀ ys ns x0 x1 t0 t1 n, IntsAre ys ns → (∀ k ∈ ns, 0 ≤ k) → ns.length = nn → 0 ≤ x0 → x1₀ ≤ x1 → x1 ≤ x1₀ + nn → Fin ys (Bs ++ [(b, W.listOf #[.int x0 t0, .int x1 t1] n)])) {s : Shared} (es : s = ⟨s.heap, gs, dr, s.toks, os⟩) :
    ∀ (k i : Nat) ys ns x0 x1 t0 t1 n, i + k = nn → ns.length = i → IntsAre ys ns → (∀ k ∈ ns, 0 ≤ k) → 0 ≤ x0 → x1₀ ≤ x1 → x1 ≤ x1₀ + i →
      LCg.CompRest pw w (top dp un gd (env :: outer)) h₀ L m env (.Call (.Name (Str.ofString "_law_take") p1) [.Name (Str.ofString "box") p2, .Constant (.int 6) kk p4] [] p6) (Str.ofString "spot") scope cl s (fun _ => True) PP Fin k i ys (Bs ++ [(b, W.listOf #[.int x0 t0, .int x1 t1] n)]) := by
  intro k
  induction k with
  | zero =>
    intro i ys ns x0 x1 t0 t1 n hi hl hr hX hx0 hx1 hx2
    obtain rfl : i = nn := by omega
    exact hFin ys ns x0 x1 t0 t1 n hr hX hl hx0 hx1 hx2
  | succ k ih =>
    intro i ys ns x0 x1 t0 t1 n hi hl hr hX hx0 hx1 hx2 v Ia oI C oC D m₂ h tk E' hP ho hv F N off ne
    have e1 : ({ s with heap := h, toks := tk } : Shared) = ⟨h, gs, dr, tk, os⟩ := by rw [es]
    rw [e1]
    have hsub : ∀ q ∈ Bs, q ∈ (Ia, oI) :: (C, oC) :: (D, LCg.lst ys) :: (Bs ++ [(b, W.listOf #[.int x0 t0, .int x1 t1] n)]) := fun q hq => .tail _ (.tail _ (.tail _ (List.mem_append_left _ hq)))
    have hob3 := LCg.Off3.mem off (b, W.listOf #[.int x0 t0, .int x1 t1] n) (List.mem_append_right _ (.head _))
    refine call_named F X T hfn hkeep hg hk (hy C) (by decide) rfl rfl (spliced_more (nameBC N hcb (hsub _ hbm) hob (spliced_more (wpAny_Constant_int (spliced_none ⟨X.keeps F.keep, ?_⟩))) hk (hxb C) (by decide)))
    refine tk_call (UpdF.tail hob3.1.symm (UpdF.tail hob3.2.1.symm (UpdF.tail hob3.2.2.symm (updF_app hBb (UpdF.head (List.forall_mem_nil _)))))) hx0 (by omega) (by omega) (by decide) (by decide) B F X N T hf hke hd hu ?_
    intro kd t x0' t0' t1' n' h' tk' g1 g2 g3 F' N'
    refine LCg.CompEnd.intro (s₁ := ⟨h, gs, dr, tk, os⟩) F' N' (Bs ++ [(b, W.listOf #[.int x0' t0', .int (x1 + 1) t1'] n')]) (fun q hq => ?_) (LCg.Off3.of fun q hq => ?_) trivial ?_
    · simpa only [List.mem_cons, List.mem_append] using hq
    · rcases List.mem_append.mp hq with hq | hq
      · exact LCg.Off3.mem off q (List.mem_append_left _ hq)
      · rw [List.mem_singleton.mp hq]; exact hob3
    · refine ih (i + 1) (ys ++ [.int kd t]) (ns ++ [kd]) x0' (x1 + 1) t0' t1' n' (by omega) (by rw [List.length_append, hl]; rfl) (ints_snoc hr) (fun q hq => ?_) g3 (by omega) (by omega)
      rcases List.mem_append.mp hq with hq | hq
      · exact hX q hq
      · rw [List.mem_singleton.mp hq]; exact g1
end
theorem take_src {w : World} {base h₀ hp : Heap} {outer : List Env} {L : Addr} {m : Str → Option Value} {env : Env} {gs : Array GenState} {dr : Drawn} {tk : Nat} {os : OsState} {p : Program} {loose : List Str} {mean : ExcName → Option Value} {mg mb : Str → Option Value}
    {A₀ : Around} {dp un n : Nat} {gd : Option (List Code)} {scope : Scope} {cl : List (Str × Addr)} {p1 p2 p4 p6 : Pos} {kk : Nat} {b cb r : Addr} {ob : Obj} {x0 x1 kd : Int} {t u v t0 t1 : Tok} {Bs : List (Addr × Obj)} {Fin : Shared → List Value → List (Addr × Obj) → Prop}
    (B : Below A₀ base outer h₀) (F : Fr h₀ L hp m) (X : (Mine.hd.heap_39 w.params).In h₀) (N : News h₀ L hp (Bs ++ [(b, W.listOf #[.int x0 t0, .int x1 t1] n)])) (T : Top p loose mean mg mb h₀) (hr : IsRange hp r 0 kd 1 t u v) (hk0 : 0 ≤ kd) (hk3 : kd < 3) (hx0 : 0 ≤ x0)
    (hBb : ∀ q ∈ Bs, q.1 ≠ b) (hf : env.frame = some L) (hke : env.scope.kind = .function) (hg : env.globals = mainGlobals)
    (hfn : nsIn (Mine.hd.heap_39 w.params) mainGlobals (Str.ofString "_law_take") = some (some (.ref 345))) (hkeep : keepIn (Mine.hd.heap_39 w.params) (.ref 345) = true)
    (hcb : cl.lookup (Str.ofString "box") = some cb) (hbm : (cb, ob) ∈ Bs) (hob : ob.data = .cell (some (.ref b)))
    (hk : scope.kind = .function) (hxb : ∀ C, (compEnvC scope cl C env).kindOf (Str.ofString "box") = some .cell) (hy : ∀ C, (compEnvC scope cl C env).kindOf (Str.ofString "_law_take") = some .globalImplicit)
    (hd : dp + 1 < 900) (hu : un + 5 * 1 < 3000) (h90 : x1 + 2 < 90000) (h00 : 0 ≤ x1)
    (hFin : ∀ s₂ ys ns x0' x1' t0' t1' n', (∃ g, s₂ = (⟨g, gs, dr, tk, os⟩ : Shared)) → IntsAre ys ns → (∀ k ∈ ns, 0 ≤ k) → ns.length ≤ 2 → 0 ≤ x0' → x1 ≤ x1' → x1' ≤ x1 + 2 → Fin s₂ ys (Bs ++ [(b, W.listOf #[.int x0' t0', .int x1' t1'] n')])) :
    LCg.CompSrc pw w (top dp un gd (env :: outer)) h₀ L m env (.Call (.Name (Str.ofString "_law_take") p1) [.Name (Str.ofString "box") p2, .Constant (.int 6) kk p4] [] p6) (Str.ofString "spot") scope cl Fin (.ref r) ⟨hp, gs, dr, tk, os⟩ := by
  have hs : Builtin.Range.small 0 kd 1 = true := by
    obtain rfl | rfl | rfl : kd = 0 ∨ kd = 1 ∨ kd = 2 := by omega
    all_goals decide
  have hz : Builtin.Range.rangeSize 0 kd 1 = ((kd.toNat : Nat) : Int) := by
    obtain rfl | rfl | rfl : kd = 0 ∨ kd = 1 ∨ kd = 2 := by omega
    all_goals decide
  refine LCg.CompSrc.range (s₁ := ⟨hp, gs, dr, tk, os⟩) rfl F N hr hs hz (by rw [sizeLine_eq]; omega) fun g => ?_
  exact take_rest (Bs := Bs) B X T hf hke hg hfn hkeep hcb hbm hob hBb hk hxb hy hd hu (x1₀ := x1) (nn := kd.toNat) (by omega) h00 (fun ys ns y0 y1 u0 u1 n' h1 h2 h3 h4 h5 h6 => hFin _ ys ns y0 y1 u0 u1 n' ⟨g, rfl⟩ h1 h2 (by omega) h4 h5 (by omega)) rfl kd.toNat 0 [] [] x0 x1 t0 t1 n (by omega) rfl .nil (fun _ h => nomatch h) hx0 (Int.le_refl _) (by simp)
section
variable {w : World} {h₀ : Heap} {L : Addr} {m : Str → Option Value} {env : Env} {gs : Array GenState} {dr : Drawn} {os : OsState} {A : Around}
/-- a comprehension that keeps what a test lets by -/
theorem filt_rest {ct : Expr} {x : Str} {px : Pos} {scope : Scope} {cl : List (Str × Addr)} {S : List (Addr × Obj) → Prop} {Fin : List Value → List (Addr × Obj) → Prop} {its : Array Value} {ns : List Int} {N : Nat} {news : List (Addr × Obj)} {s : Shared}
    (es : s = ⟨s.heap, gs, dr, s.toks, os⟩) (hS : S news) (hi : IntsAre its.toList ns) (hk : scope.kind = .function) (hx : ∀ C, (compEnvC scope cl C env).kindOf x = some .local) (hdb : (x == ("__debug__" : Str)) = false)
    (test : ∀ (k : Int) t I oI C oC D m₂ h tk (E' : Value → Shared → Prop) ys, k ∈ ns → LCg.NsObj oC m₂ → m₂ x = some (.int k t) → Fr h₀ L h m → News h₀ L h ((I, oI) :: (C, oC) :: (D, LCg.lst ys) :: news) → LCg.Off3 I C D news → ((@Ne Nat I C) ∧ (@Ne Nat I D) ∧ (@Ne Nat C D)) →
      ∀ Q : Bool → Shared → Prop, (∀ h' tk', Fr h₀ L h' m → News h₀ L h' ((I, oI) :: (C, oC) :: (D, LCg.lst ys) :: news) → Q (decide (k < (N : Int))) ⟨h', gs, dr, tk', os⟩) →
      wpAny (model pw w) A (isTrue ct (compEnvC scope cl C env) (eval ct (compEnvC scope cl C env))) Q E' ⟨h, gs, dr, tk, os⟩)
    (hFin : ∀ ys, (ys = [] ↔ ∀ k ∈ ns, ¬ k < (N : Int)) → Fin ys news) :
    ∀ (k i : Nat) ys, i + k = its.size → (ys = [] ↔ ∀ k ∈ ns.take i, ¬ k < (N : Int)) →
      LCt.CompRestT pw w A h₀ L m env ct (.Name x px) x scope cl s S (fun i v => its[i]? = some v) Fin k i ys news := by
  have hlen : its.size = ns.length := by
    have := hi.sizeZ
    rw [List.size_toArray, Array.length_toList] at this
    exact Int.ofNat.inj this
  intro k
  induction k with
  | zero =>
    intro i ys hik hys
    obtain rfl : i = its.size := by omega
    rw [hlen, List.take_length] at hys
    exact hFin ys hys
  | succ k ih =>
    intro i ys hik hys
    refine LCt.CompRestT.succ ?_
    intro v I oI C oC D m₂ h tk E' hP ho hv F N' off ne
    have e1 : ({ s with heap := h, toks := tk } : Shared) = ⟨h, gs, dr, tk, os⟩ := by rw [es]
    rw [e1]
    obtain ⟨n, t, rfl, hn⟩ := hi.at i v (by rw [Array.getElem?_toList]; exact hP)
    have hmem : n ∈ ns := List.mem_of_getElem? hn
    have htk : ns.take (i + 1) = ns.take i ++ [n] := by rw [List.take_add_one, hn]; rfl
    refine test n t I oI C oC D m₂ h tk E' ys hmem ho hv F N' off ne _ ?_
    intro h' tk' F' N1
    by_cases hlt : n < (N : Int)
    · rw [if_pos (by simp only [hlt, decide_true])]
      refine nameB N1 (.tail _ (.head _)) ho hv ?_ hk (hx C) hdb
      refine LCg.CompEnd.intro (s₁ := ⟨h, gs, dr, tk, os⟩) F' N1 news (fun q hq => hq) off hS ?_
      refine ih (i + 1) (ys ++ [.int n t]) (by omega) ?_
      rw [htk]
      constructor
      · intro e; simp at e
      · intro e; exact absurd hlt (e n (List.mem_append_right _ (.head _)))
    · rw [if_neg (by simp only [hlt, decide_false]; exact Bool.false_ne_true)]
      refine LCg.CompEnd.intro (s₁ := ⟨h, gs, dr, tk, os⟩) F' N1 news (fun q hq => hq) off hS ?_
      refine ih (i + 1) ys (by omega) ?_
      rw [htk, hys]
      constructor
      · intro e k hk
        rcases List.mem_append.mp hk with hk | hk
        · exact e k hk
        · rw [List.mem_singleton.mp hk]; exact hlt
      · intro e k hk; exact e k (List.mem_append_left _ hk)
end
end Mine
namespace Mine
section
variable {prog : Program} {w : World} {A : Around} {E : Value → Shared → Prop} {env : Env} {hp h₀ : Heap} {gs : Array GenState} {dr : Drawn} {tk : Nat} {os : OsState} {m : Str → Option Value} {news : List (Addr × Obj)} {target : Expr} {body : List Stmt} {Q : Flow → Shared → Prop}
theorem letGo_rangeiter {I : Addr} {a b c : Int} {v : Value} {Q' : Unit → Shared → Prop} {s' : Shared} (hit : IsRangeIter s'.heap I a b c) (h : Q' () s') : wpAny (model prog w) A (letOwnedTupleGo target (.ref I) v) Q' E s' := by
  unfold letOwnedTupleGo
  cases target <;> first
    | exact wpAny_pure h
    | (cases v <;> first
        | exact wpAny_pure h
        | (refine wpAny_bind (wpAny_load hit ?_)
           exact wpAny_pure h))
/-- a for over a range, by an invariant -/
theorem iter_range {r : Addr} {a₀ b₀ : Int} {t₀ u₀ v₀ : Tok} {n : Nat} (hh : A.handled = none) (hr : IsRange hp r a₀ b₀ 1 t₀ u₀ v₀) (hs : Builtin.Range.small a₀ b₀ 1 = true) (hn : Builtin.Range.rangeSize a₀ b₀ 1 = (n : Int)) (F : Fr h₀ env.locals hp m) (N : News h₀ env.locals hp news)
    (J : Nat → (Str → Option Value) → List (Addr × Obj) → Prop) (h0 : J 0 m news)
    (step : ∀ i t m₁ news₁ h₁ tk₁ I o, i < n → J i m₁ news₁ → (∀ p ∈ news₁, p.1 ≠ I) → Fr h₀ env.locals h₁ m₁ → News h₀ env.locals h₁ ((I, o) :: news₁) →
      wpAny (model prog w) A (assign target env (.int (a₀ + i) t)) (fun _ s₃ => wpAny (model prog w) A (execs body env) (Turn h₀ env.locals I o (J (i + 1)) gs dr os Q) E s₃) E ⟨h₁, gs, dr, tk₁, os⟩)
    (fin : ∀ h' tk m' news', Fr h₀ env.locals h' m' → News h₀ env.locals h' news' → J n m' news' → Q .next ⟨h', gs, dr, tk, os⟩) :
    wpAny (model prog w) A (pyIter (.ref r)) (fun it s₂ => TurnsAt prog w A h₀ env target body Q E it s₂) E ⟨hp, gs, dr, tk, os⟩ := by
  refine wpAny_pyIter_range (s := ⟨hp, gs, dr, tk, os⟩) hr hs ?_
  have W : Walks prog w A hp.objs.size [hp.objs.size] [hp.objs.size] n (fun i v => i < n ∧ ∃ t, v = .int (a₀ + i * 1) t)
      (fun i h => IsRangeIter h hp.objs.size (a₀ + (i : Nat) * 1) ((n : Int) - (i : Nat)) 1) := (Walks.range hh _ a₀ 1 n).bound
  have hI0 : h₀.get? hp.objs.size = none := by
    cases q : h₀.get? hp.objs.size with
    | none => rfl
    | some o => exact absurd (Heap.lt_size (F.keep _ _ q)) (Nat.lt_irrefl _)
  have hL0 : ∀ o, h₀.get? env.locals ≠ some o := fun o e => absurd (Nat.lt_of_lt_of_le (Heap.lt_size e) F.above) (Nat.lt_irrefl _)
  refine for_core (ax := r) W (fun i v s Q E st q => letGo_rangeiter st q) (fun b hb => .inl (List.mem_singleton.mp hb)) hI0 (Nat.ne_of_gt F.ns.lt) hL0 (fun i h st => ⟨_, st⟩) (by show IsRangeIter _ _ _ _ _; rw [hn]; simpa using Heap.get?_push_size _ rfl) (F.push _) (fun p hp' => ⟨Heap.get?_push_of_some _ (N p hp').1, (N p hp').2⟩)
    (fun p hp' => Nat.ne_of_lt (Heap.lt_size (N p hp').1)) rfl J h0 ?_ fin
  rintro i v m₁ news₁ h₁ tk₁ o hi ⟨_, t, rfl⟩ hJ ap F₁ N₁
  have e1 : a₀ + (i : Int) * 1 = a₀ + (i : Int) := by omega
  rw [e1]
  exact step i t m₁ news₁ h₁ tk₁ _ o hi hJ ap F₁ N₁
end
end Mine
namespace Mine
theorem UpdF.again {d : Addr} {o o' : Obj} {l : List (Addr × Obj)} {f : Obj → List (Addr × Obj)} (U : UpdF d o l f) : UpdF d o' (f o') f := by
  induction U with
  | head h => exact .head h
  | tail h _ i => exact .tail h i
section
variable {w : World} {A : Around} {base h₀ g₀ : Heap} {outer : List Env} {L : Addr} {m : Str → Option Value} {env : Env} {news P : List (Addr × Obj)} {hp : Heap} {gens : Array GenState} {dr : Drawn} {tk : Nat} {os : OsState} {p : Program} {loose : List Str} {mean : ExcName → Option Value} {mg mb : Str → Option Value}
  {A₀ : Around} {dp un dep : Nat} {gd : Option (List Code)} {Q E : Value → Shared → Prop} {f : Addr} {args : List Value} {Pre : Heap → Prop} {Post : Value → List (Addr × Obj) → Prop}
/-- a call by a contract: all that stands apart from P stays -/
theorem call_fsA (S : FS w f dep args Pre P Post) (B : Below A₀ base outer h₀) (F : Fr h₀ L hp m) (X : (Mine.hd.heap_39 w.params).In h₀) (N : News h₀ L hp news) (T : Top p loose mean mg mb h₀)
    (hf : env.frame = some L) (hke : env.scope.kind = .function) (hP : ∀ q ∈ P, q ∈ news) (hd : dp + dep < 900) (hu : un + 5 * dep < 3000)
    (hpre : ∀ g, (∀ q ∈ news, (∀ r ∈ P, NeA q.1 r.1) → g.get? q.1 = some q.2) → (∀ b o, h₀.get? b = some o → g.get? b = some o) → Pre g)
    (ret : ∀ r h' tk' P', Fr h₀ L h' m → (∀ l, (∀ q ∈ l, q ∈ P' ∨ (q ∈ news ∧ ∀ r ∈ P, NeA q.1 r.1)) → News h₀ L h' l) → (∀ q ∈ P', ∀ r ∈ news, (∀ s ∈ P, NeA r.1 s.1) → NeA q.1 r.1) → Post r P' → Q r ⟨h', gens, dr, tk', os⟩) :
    wpAny (model pw w) (top dp un gd (env :: outer)) (call (.ref f) args) Q E ⟨hp, gens, dr, tk, os⟩ := by
  have hmem : ∀ q, q ∈ news.filter (fun q => P.all fun r => decide (q.1 ≠ r.1)) ↔ q ∈ news ∧ ∀ r ∈ P, NeA q.1 r.1 := fun q => by
    rw [List.mem_filter, List.all_eq_true]
    exact ⟨fun h => ⟨h.1, fun r hr => by have h2 := of_decide_eq_true (h.2 r hr); exact h2⟩, fun h => ⟨h.1, fun r hr => by have := (h.2 r hr).out; exact decide_eq_true this⟩⟩
  refine call_fs (R := news.filter fun q => P.all fun r => decide (q.1 ≠ r.1)) S B F X N T hf hke hP (fun q hq => ⟨((hmem q).mp hq).1, fun r hr => (((hmem q).mp hq).2 r hr).out⟩) hd hu (fun g h1 h2 => hpre g (fun q hq ha => h1 q ((hmem q).mpr ⟨hq, ha⟩)) h2) ?_
  intro r h' tk' P' F' N' ap _ hp
  refine ret r h' tk' P' F' (fun l hl => news_sub N' fun q hq => (hl q hq).elim (fun h => List.mem_append_left _ h) fun h => List.mem_append_right _ ((hmem q).mpr h)) (fun q hq r hr ha => ap q hq r ((hmem r).mpr ⟨hr, ha⟩)) hp
theorem total_call {ax : Addr} {vs : List Value} {ns : List Int} (hi : IntsAre vs ns) (hlen : ns.length ≤ 1048576) (hl : g₀.IsList ax vs.toArray) (hk : ∀ b o, g₀.get? b = some o → h₀.get? b = some o)
    (B : Below A₀ base outer h₀) (F : Fr h₀ L hp m) (X : (Mine.hd.heap_39 w.params).In h₀) (N : News h₀ L hp news) (T : Top p loose mean mg mb h₀)
    (hf : env.frame = some L) (hke : env.scope.kind = .function) (hd : dp + 3 < 900) (hu : un + 5 * 3 < 3000)
    (ret : ∀ n t h' tk', 0 ≤ n → Fr h₀ L h' m → News h₀ L h' news → Q (.int n t) ⟨h', gens, dr, tk', os⟩) :
    wpAny (model pw w) (top dp un gd (env :: outer)) (call (.ref 352) [.ref ax]) Q E ⟨hp, gens, dr, tk, os⟩ := by
  refine fs_pure (total_fs ax vs ns hi hlen) B F X N T (fun g' hk' _ => hl.at fun o e => hk' _ _ (hk _ _ e)) hf hke hd hu ?_
  rintro r h' tk' F' N' ⟨n, t, rfl, hn⟩
  exact ret n t h' tk' hn F' N'
theorem ord_led {v : Value} {t : T} (hr : RT (inL news) v t) (hw : t.wf 0) (hs : t.size ≤ 100)
    (B : Below A₀ base outer h₀) (F : Fr h₀ L hp m) (X : (Mine.hd.heap_39 w.params).In h₀) (N : News h₀ L hp news) (T : Top p loose mean mg mb h₀)
    (hf : env.frame = some L) (hke : env.scope.kind = .function) (hd : dp + 400 < 900) (hu : un + 5 * 400 < 3000)
    (ret : ∀ a its k h' tk' P', Fr h₀ L h' m → News h₀ L h' (P' ++ news) → (∀ q ∈ P', ∀ r ∈ news, NeA q.1 r.1) → (a, W.listOf its k) ∈ P' → ROs (inL P') its.toList (ords 0 t) → its.size ≤ 400 → its.size = (ords 0 t).length → Q (.ref a) ⟨h', gens, dr, tk', os⟩) :
    wpAny (model pw w) (top dp un gd (env :: outer)) (call (.ref 296) [v]) Q E ⟨hp, gens, dr, tk, os⟩ := by
  refine call_fsA (ord_fs (w := w) (t.size + 1) (by omega) t v (Nat.lt_succ_self _) hw) B F X N T hf hke (fun q hq => nomatch hq) (by omega) (by omega) (fun g' h1 _ => hr.mono fun a o h => h1 _ h fun _ h => nomatch h) ?_
  intro r h' tk' P' F' N' ap hp
  obtain ⟨a, its, k, rfl, h1, h2, h3⟩ := hp
  exact ret a its k h' tk' P' F' (N' _ fun q hq => (List.mem_append.mp hq).elim .inl fun h => .inr ⟨h, fun _ h => nomatch h⟩) (fun q hq r hr => ap q hq r hr fun _ h => nomatch h) h1 h2 (by omega) (by rw [← Array.length_toList]; exact h2.length)
theorem neg_led {v : Value} {t : T} (hr : RT (inL news) v t) (hs : t.size ≤ 100)
    (B : Below A₀ base outer h₀) (F : Fr h₀ L hp m) (X : (Mine.hd.heap_39 w.params).In h₀) (N : News h₀ L hp news) (T : Top p loose mean mg mb h₀)
    (hf : env.frame = some L) (hke : env.scope.kind = .function) (hd : dp + 101 < 900) (hu : un + 5 * 101 < 3000)
    (ret : ∀ u h' tk', Fr h₀ L h' m → News h₀ L h' news → Q (.int (t.negs : Nat) u) ⟨h', gens, dr, tk', os⟩) :
    wpAny (model pw w) (top dp un gd (env :: outer)) (call (.ref 362) [v]) Q E ⟨hp, gens, dr, tk, os⟩ := by
  refine fs_pure (neg_fs t v) B F X N T (fun g' _ h => hr.mono fun a o e => h _ e) hf hke (by omega) (by omega) ?_
  rintro r h' tk' F' N' ⟨u, rfl⟩
  exact ret u h' tk' F' N'
theorem depth_led {a : Addr} {its : Array Value} {k : Nat} {ol : List O} (hl : (a, W.listOf its k) ∈ news) (hr : ROs (inL news) its.toList ol)
    (B : Below A₀ base outer h₀) (F : Fr h₀ L hp m) (X : (Mine.hd.heap_39 w.params).In h₀) (N : News h₀ L hp news) (T : Top p loose mean mg mb h₀)
    (hf : env.frame = some L) (hke : env.scope.kind = .function) (hd : dp + 2 < 900) (hu : un + 5 * 2 < 3000)
    (ret : ∀ u h' tk', Fr h₀ L h' m → News h₀ L h' news → Q (.int (depthP ol).2 u) ⟨h', gens, dr, tk', os⟩) :
    wpAny (model pw w) (top dp un gd (env :: outer)) (call (.ref 331) [.ref a]) Q E ⟨hp, gens, dr, tk, os⟩ := by
  refine fs_pure (depth_fs ol (.ref a)) B F X N T (fun g' _ h => ⟨a, its, rfl, ⟨_, h _ hl, rfl, _, rfl⟩, hr.mono fun a o e => h _ e⟩) hf hke hd hu ?_
  rintro r h' tk' F' N' ⟨u, rfl⟩
  exact ret u h' tk' F' N'
theorem heights_led {a : Addr} {its : Array Value} {k : Nat} {ol : List O} {Y Pt : List (Addr × Obj)} (hpl : Plain ol) (hn : ol.length < 80000) (hPt : TabP Pt) (hl : (a, W.listOf its k) ∈ Y) (hr : ROs (inL Y) its.toList ol) (hcd : CodeHd h₀ 368 364) (hY : ∀ q ∈ Y, q ∈ news ∧ ∀ r ∈ Pt, NeA q.1 r.1)
    (B : Below A₀ base outer h₀) (F : Fr h₀ L hp m) (X : (Mine.hd.heap_39 w.params).In h₀) (N : News h₀ L hp news) (T : Top p loose mean mg mb h₀)
    (hf : env.frame = some L) (hke : env.scope.kind = .function) (hP : ∀ q ∈ Pt, q ∈ news) (hd : dp + 20 < 900) (hu : un + 5 * 20 < 3000)
    (ret : ∀ u h' tk' Pt', TabP Pt' → Fr h₀ L h' m → (∀ l, (∀ q ∈ l, q ∈ Pt' ∨ (q ∈ news ∧ ∀ r ∈ Pt, NeA q.1 r.1)) → News h₀ L h' l) → (∀ q ∈ Pt', ∀ r ∈ news, (∀ s ∈ Pt, NeA r.1 s.1) → NeA q.1 r.1) → Q (.int (depthP ol).2 u) ⟨h', gens, dr, tk', os⟩) :
    wpAny (model pw w) (top dp un gd (env :: outer)) (call (.ref 376) [.ref a]) Q E ⟨hp, gens, dr, tk, os⟩ := by
  refine call_fsA (heights_fs ol hpl hn (.ref a) Pt hPt) B F X N T hf hke hP hd hu (fun g' h1 h2 => ⟨⟨a, its, rfl, ⟨_, h1 _ (hY _ hl).1 (hY _ hl).2, rfl, _, rfl⟩, hr.mono fun b o e => h1 _ (hY _ e).1 (hY _ e).2⟩, hcd.keeps h2⟩) ?_
  rintro r h' tk' P' F' N' ap ⟨h1, u, rfl⟩
  exact ret u h' tk' P' h1 F' N' ap
theorem run_led {K : Hk} {a : Addr} {its as : Array Value} {k ka : Nat} {ol : List O} {Y : List (Addr × Obj)} {r : Option M × Nat} (OK : K.Ok w) (hrun : Run K.bad ol ol.length 0 ⟨[], [], as.size⟩ r) (hsa : as.size + ol.length < 90000) (hl : (a, W.listOf its k) ∈ Y) (hr : ROs (inL Y) its.toList ol)
    (hY : ∀ q ∈ Y, q ∈ news ∧ NeA q.1 K.H ∧ NeA q.1 K.HD ∧ NeA q.1 K.al) (hT : ∀ q ∈ K.HT, q ∈ Y) (hbl : (K.bl, W.listOf K.bs.toArray K.kb) ∈ Y)
    (B : Below A₀ base outer h₀) (F : Fr h₀ L hp m) (X : (Mine.hd.heap_39 w.params).In h₀) (N : News h₀ L hp news) (T : Top p loose mean mg mb h₀)
    (hf : env.frame = some L) (hke : env.scope.kind = .function) (hP : ∀ q ∈ K.led w as ka, q ∈ news) (hd : dp + 7 < 900) (hu : un + 5 * 7 < 3000)
    (ret : ∀ v h' tk' P', RunPost w K r v P' → Fr h₀ L h' m → (∀ l, (∀ q ∈ l, q ∈ P' ∨ (q ∈ news ∧ NeA q.1 K.H ∧ NeA q.1 K.HD ∧ NeA q.1 K.al)) → News h₀ L h' l) → (∀ q ∈ P', ∀ r ∈ news, NeA r.1 K.H → NeA r.1 K.HD → NeA r.1 K.al → NeA q.1 r.1) → Q v ⟨h', gens, dr, tk', os⟩) :
    wpAny (model pw w) (top dp un gd (env :: outer)) (call (.ref 261) [.ref a, .ref K.H]) Q E ⟨hp, gens, dr, tk, os⟩ := by
  have led : ∀ {q : Addr × Obj}, NeA q.1 K.H → NeA q.1 K.HD → NeA q.1 K.al → ∀ r ∈ K.led w as ka, NeA q.1 r.1 := fun h1 h2 h3 r hr => by
    simp only [Hk.led, List.mem_cons, List.not_mem_nil, or_false] at hr
    rcases hr with rfl | rfl | rfl <;> assumption
  refine call_fsA (run_fs K OK ol (.ref a) as ka r hrun hsa) B F X N T hf hke hP hd hu (fun g' h1 h2 => ?_) ?_
  · have h3 : ∀ q ∈ Y, g'.get? q.1 = some q.2 := fun q hq => h1 _ (hY _ hq).1 (led (hY _ hq).2.1 (hY _ hq).2.2.1 (hY _ hq).2.2.2)
    exact ⟨⟨a, its, rfl, ⟨_, h3 _ hl, rfl, _, rfl⟩, hr.mono fun b o e => h3 _ e⟩, fun q hq => h3 q (hT q hq), h3 _ hbl⟩
  · intro v h' tk' P' F' N' ap hp
    exact ret v h' tk' P' hp F' (fun l hl => N' l fun q hq => (hl q hq).elim .inl fun h => .inr ⟨h.1, led h.2.1 h.2.2.1 h.2.2.2⟩) (fun q hq r hr a1 a2 a3 => ap q hq r hr (led a1 a2 a3))
end
theorem run_n1 {x : Str} {n : Nat} : Run [] (ords 0 (.neg (.name x))) (ords 0 (.neg (.name x))).length 0 ⟨[], [], n⟩ (none, n + 1) := by
  show Run [] [.guard 4, .var, .unguard, .fail, .push (.s (Str.ofString ""))] 5 0 ⟨[], [], n⟩ (none, n + 1)
  refine .guard (n := 4) rfl ?_
  refine .ok (o := .var) rfl rfl (Nat.zero_le _) (fun e => by cases e) rfl ?_
  refine .ok (o := .unguard) rfl rfl (Nat.zero_le _) (fun _ => by simp [doO, askM]) rfl ?_
  exact .fall (o := .fail) rfl rfl (Nat.zero_le _) (fun e => by cases e) rfl rfl
theorem run_n2 {x : Str} {n : Nat} : Run [] (ords 0 (.neg (.neg (.name x)))) (ords 0 (.neg (.neg (.name x)))).length 0 ⟨[], [], n⟩ (some ⟨[.s (Str.ofString "")], [], n + 1⟩, n + 1) := by
  show Run [] [.guard 8, .guard 4, .var, .unguard, .fail, .push (.s (Str.ofString "")), .unguard, .fail, .push (.s (Str.ofString ""))] 9 0 ⟨[], [], n⟩ (some ⟨[.s (Str.ofString "")], [], n + 1⟩, n + 1)
  refine .guard (n := 8) rfl ?_
  refine .guard (n := 4) rfl ?_
  refine .ok (o := .var) rfl rfl (Nat.zero_le _) (fun e => by cases e) rfl ?_
  refine .ok (o := .unguard) rfl rfl (Nat.zero_le _) (fun _ => by simp [doO, askM]) rfl ?_
  refine .back (o := .fail) (g := []) (p := 8) (h := 0) rfl rfl (Nat.zero_le _) (fun e => by cases e) rfl rfl ?_
  refine .ok (o := .push (.s (Str.ofString ""))) rfl rfl (Nat.zero_le _) (fun e => by cases e) rfl ?_
  exact .done (Nat.le_refl _)
theorem rss_one {st : Array Value} {x : Str} (h : RSs st.toList [.s x]) : ∃ t, st = #[.str x t] := by
  obtain ⟨l⟩ := st
  cases h with
  | cons h1 h2 =>
    cases h2; cases h1
    exact ⟨_, rfl⟩
theorem store_cell {M : Model} {A : Around} {E : Value → Shared → Prop} {hp h₀ : Heap} {gs : Array GenState} {dr : Drawn} {tk : Nat} {os : OsState} {L c : Addr} {m : Str → Option Value} {env : Env} {x : Str} {v : Value} {news : List (Addr × Obj)} {fN : Obj → List (Addr × Obj)} {o : Obj} {v₀ : Option Value} {Q : Unit → Shared → Prop}
    (F : Fr h₀ L hp m) (N : News h₀ L hp news) (hc : env.cells.lookup x = some c) (U : UpdF c o news fN) (hd : o.data = .cell v₀) (hk : env.scope.kind = .function) (hx : env.kindOf x = some .cell)
    (h : ∀ h' o', Fr h₀ L h' m → News h₀ L h' (fN o') → o'.data = .cell (some v) → Q () ⟨h', gs, dr, tk, os⟩) : wpAny M A (storeName env x v) Q E ⟨hp, gs, dr, tk, os⟩ := by
  obtain ⟨own, rest, rfl, hg, h1, h2⟩ := U.split
  have hmem := N (c, o) (List.mem_append_right _ (.head _))
  refine wpAny_storeName_cell (s := ⟨hp, gs, dr, tk, os⟩) hk hx hc ⟨o, hmem.1, hd⟩ fun h' hv hs => ?_
  obtain ⟨o', ho', hd'⟩ := hv
  refine h h' o' ⟨F.ns.sameBut hs (Ne.symm hmem.2.1), fun b ob e => (hs.2 b (fun q => ?_)).trans (F.keep b ob e), F.above⟩ (hg o' ▸ N.setAt h1 h2 hs ho') hd'
  rw [q, hmem.2.2] at e; cases e
/-- between the turns of the law's loop -/
noncomputable def LawJ (b L : Addr) (i : Nat) (_m : Str → Option Value) (news : List (Addr × Obj)) : Prop :=
  ∃ x0 x1 t0 t1 n oa ob Pt, news = (b, W.listOf #[.int x0 t0, .int x1 t1] n) :: (L + 1 + 1, oa) :: (L + 1, ob) :: Pt ∧ ob.data = .cell (some (.ref b)) ∧ (∃ v₀, oa.data = .cell v₀) ∧ TabP Pt ∧
    (∀ q ∈ Pt, q.1 ≠ b) ∧ (∀ q ∈ Pt, q.1 ≠ L + 1 + 1) ∧ (∀ q ∈ Pt, q.1 ≠ L + 1) ∧ 0 ≤ x0 ∧ 0 ≤ x1 ∧ x1 ≤ 40 * (i : Int)
theorem off1_mem {D : Addr} : ∀ {l : List (Addr × Obj)}, LCg.Off1 D l → ∀ p ∈ l, p.1 ≠ D
  | [], _, p, hp => nomatch hp
  | q :: r, h, p, hp => by
    rcases List.mem_cons.mp hp with rfl | hp
    · exact h.1
    · exact off1_mem h.2 p hp
theorem arr_one {st : Array Value} (h : st.size = 1) : ∃ v, st = #[v] := by
  obtain ⟨l⟩ := st
  match l, h with
  | [v], _ => exact ⟨v, rfl⟩
theorem arr_nil {st : Array Value} (h : st.size = 0) : st = #[] := by
  obtain ⟨l⟩ := st
  match l, h with
  | [], _ => rfl
theorem run_n {bad : List Int} {os : List O} {k i : Nat} {σ : M} {r : Option M × Nat} (h : Run bad os k i σ r) : r.2 ≤ σ.n + k := by
  induction h with
  | done h => exact Nat.le_add_right _ _
  | @guard k i σ n r _ _ ih => exact Nat.le_trans ih (by show σ.n + _ ≤ _; omega)
  | @ok k i σ o r _ _ _ _ _ _ ih => have := doO_n (bad := bad) (o := o) (σ := σ); omega
  | @back k i σ o g p h r _ _ _ _ _ _ _ ih => have := doO_n (bad := bad) (o := o) (σ := σ); exact Nat.le_trans ih (by show (doO bad o σ).2.n + _ ≤ _; omega)
  | @fall k i σ o _ _ _ _ _ _ => have := doO_n (bad := bad) (o := o) (σ := σ); show (doO bad o σ).2.n ≤ _; omega
section
variable {prog : Program} {w : World} {A : Around} {E : Value → Shared → Prop} {hp h₀ : Heap} {gs : Array GenState} {dr : Drawn} {tk : Nat} {os : OsState} {L D l : Addr} {m : Str → Option Value} {news : List (Addr × Obj)} {ys : List Value}
theorem ne_nilT {Q : Value → Shared → Prop} (N : News h₀ L hp news) (h1 : (D, LCg.lst ys) ∈ news) (h2 : (l, W.listOf #[] 0) ∈ news) (hy : ys ≠ []) (hu : A.units < 9900) (h : Q (.bool true) ⟨hp, gs, dr, tk, os⟩) :
    wpAny (model prog w) A (compareOp .NotEq (.ref D) (.ref l)) Q E ⟨hp, gs, dr, tk, os⟩ :=
  SeqAt.RcNeAt.lists_lengths (s := ⟨hp, gs, dr, tk, os⟩) (N.isList h1) (N.isList h2) (by cases ys with | nil => exact absurd rfl hy | cons v r => simp) hu prog w E Q h
theorem ne_nilF {Q : Value → Shared → Prop} (N : News h₀ L hp news) (h1 : (D, LCg.lst []) ∈ news) (h2 : (l, W.listOf #[] 0) ∈ news) (hu : A.units < 9900) (h : Q (.bool false) ⟨hp, gs, dr, tk, os⟩) :
    wpAny (model prog w) A (compareOp .NotEq (.ref D) (.ref l)) Q E ⟨hp, gs, dr, tk, os⟩ :=
  SeqAt.RcNeAt.lists (s := ⟨hp, gs, dr, tk, os⟩) (e := fun _ => true) (N.isList h1) (N.isList h2) rfl hu (fun j h1 h2 => absurd h2 (Nat.not_lt_zero _)) prog w E Q h
theorem notin_ints {bs : List Value} {kb : Nat} {bad : List Int} {k : Int} {t : Tok} {Q : Value → Shared → Prop} (N : News h₀ L hp news) (hm : (D, W.listOf bs.toArray kb) ∈ news) (hi : IntsAre bs bad) (hk : k ∈ bad)
    (h : Q (.bool false) ⟨hp, gs, dr, tk, os⟩) : wpAny (model prog w) A (compareOp .NotIn (.int k t) (.ref D)) Q E ⟨hp, gs, dr, tk, os⟩ :=
  notin_list_ints (s := ⟨hp, gs, dr, tk, os⟩) (N.isList hm) hi (by rw [show bad.any (· == k) = true from List.any_eq_true.mpr ⟨k, hk, beq_self_eq_true k⟩]; exact h)
theorem eq_intB {k j : Int} {t u : Tok} {Q : Value → Shared → Prop} (b : Bool) (hb : (k == j) = b) (h : Q (.bool b) ⟨hp, gs, dr, tk, os⟩) : wpAny (model prog w) A (compareOp .Eq (.int k t) (.int j u)) Q E ⟨hp, gs, dr, tk, os⟩ :=
  SeqAt.RcAt.int_int (s := ⟨hp, gs, dr, tk, os⟩) k t j u prog w E Q (by rw [hb]; exact h)
theorem ne_self {k : Int} {t u : Tok} {Q : Value → Shared → Prop} (h : Q (.bool false) ⟨hp, gs, dr, tk, os⟩) : wpAny (model prog w) A (compareOp .NotEq (.int k t) (.int k u)) Q E ⟨hp, gs, dr, tk, os⟩ :=
  SeqAt.RcNeAt.int_int (s := ⟨hp, gs, dr, tk, os⟩) k t k u prog w E Q (by rw [show (k == k) = true from beq_self_eq_true k]; exact h)
end
/-- a turn's end -/
theorem law_end {g h : Heap} {L b I : Addr} {o oa ob : Obj} {m : Str → Option Value} {news Tb : List (Addr × Obj)} {gs : Array GenState} {dr : Drawn} {tk : Nat} {os : OsState} {Q : Flow → Shared → Prop} {i : Nat} {x0 x1 : Int} {t0 t1 : Tok} {n : Nat} {v₀ : Option Value}
    (F : Fr g L h m) (N : News g L h news) (hm : ∀ q ∈ (I, o) :: (L + 1 + 1, oa) :: (L + 1, ob) :: (b, W.listOf #[.int x0 t0, .int x1 t1] n) :: Tb, q ∈ news)
    (hb1 : b ≠ I) (hb2 : L + 1 + 1 ≠ I) (hb3 : L + 1 ≠ I) (hob : ob.data = .cell (some (.ref b))) (hoa : oa.data = .cell v₀) (hT : TabP Tb)
    (ap : ∀ q ∈ [(I, o), (L + 1 + 1, oa), (L + 1, ob), (b, W.listOf #[.int x0 t0, .int x1 t1] n)], ∀ r ∈ Tb, NeA q.1 r.1) (h0 : 0 ≤ x0) (h1 : 0 ≤ x1) (h2 : x1 ≤ 40 * ((i + 1 : Nat) : Int)) :
    Turn g L I o (LawJ b L (i + 1)) gs dr os Q .next ⟨h, gs, dr, tk, os⟩ := by
  refine ⟨h, tk, m, (b, W.listOf #[.int x0 t0, .int x1 t1] n) :: (L + 1 + 1, oa) :: (L + 1, ob) :: Tb, rfl, F, news_sub N fun q hq => hm q ?_, fun q hq => ?_, x0, x1, t0, t1, n, oa, ob, Tb, rfl, hob, ⟨_, hoa⟩, hT, fun q hq => ?_, fun q hq => ?_, fun q hq => ?_, h0, h1, h2⟩
  · simp only [List.mem_cons] at hq ⊢
    rcases hq with h | h | h | h | h <;> simp only [h, true_or, or_true]
  · simp only [List.mem_cons] at hq
    rcases hq with rfl | rfl | rfl | hq
    · exact hb1
    · exact hb2
    · exact hb3
    · exact (ap (I, o) (.head _) q hq).symm
  · exact (ap (b, W.listOf #[.int x0 t0, .int x1 t1] n) (.tail _ (.tail _ (.tail _ (.head _)))) q hq).symm
  · exact (ap (L + 1 + 1, oa) (.tail _ (.head _)) q hq).symm
  · exact (ap (L + 1, ob) (.tail _ (.tail _ (.head _))) q hq).symm
theorem run_is (bad : List Int) (t : T) (hw : t.wf 0) : ∃ r n', Run bad (ords 0 t) (ords 0 t).length 0 ⟨[], [], 0⟩ (r, n') ∧
    (((∃ x, r = some ⟨[x], [], n'⟩) ∧ (t.negs = 0 → Free bad 0 n')) ∨ (r = none ∧ (t.negs = 0 → ∃ j : Nat, n' = j + 1 ∧ (j : Int) ∈ bad))) := by
  rcases runs_tree bad t hw 0 with ⟨n', x, hf, _, hr⟩ | ⟨n', hp, hr⟩
  · exact ⟨_, n', hr, .inl ⟨⟨x, rfl⟩, hf⟩⟩
  · refine ⟨_, n', hr, .inr ⟨rfl, fun hn => ?_⟩⟩
    obtain ⟨j, h1, _, h2, _⟩ := hp hn
    exact ⟨j, h1, h2⟩
/-- the machine's objects, where the row came to its end -/
noncomputable def Opt (w : World) (O : List (Addr × Obj)) (v : Value) : Prop :=
  (v = .none ∧ O = []) ∨ ∃ (V : Wk) (S : Addr) (sv : Value) (ks kg : Nat), v = .ref V.W ∧ O = [(V.W, instObj 103 V.D), (V.D, wdict w S V.G V.k1 V.k2 V.k3 V.k4), (S, W.listOf #[sv] ks), (V.G, W.listOf #[] kg)]
theorem law_run {w : World} {K : Hk} {bad : List Int} {t : T} {r : Option M} {n' : Nat} {v : Value} {P' : List (Addr × Obj)} (h : RunPost w K (r, n') v P')
    (hr : ((∃ x, r = some ⟨[x], [], n'⟩) ∧ (t.negs = 0 → Free bad 0 n')) ∨ (r = none ∧ (t.negs = 0 → ∃ j : Nat, n' = j + 1 ∧ (j : Int) ∈ bad))) :
    ∃ as ka O, (∀ q ∈ O ++ [(K.al, W.listOf as ka)], q ∈ P') ∧ as.size = n' ∧ Opt w O v ∧ ((v = .none ∧ (t.negs = 0 → ∃ j : Nat, n' = j + 1 ∧ (j : Int) ∈ bad)) ∨ ((∃ a, v = .ref a) ∧ (t.negs = 0 → Free bad 0 n'))) := by
  rcases hr with ⟨⟨x, rfl⟩, hf⟩ | ⟨rfl, hp⟩
  · obtain ⟨V, S, st, gs, as, ks, kg, ka, rfl, rfl, AP, hst, hgs, has⟩ := h
    obtain ⟨sv, rfl⟩ := arr_one (show st.size = 1 by rw [← Array.length_toList]; exact hst.length)
    obtain rfl := arr_nil hgs
    refine ⟨as, ka, _, fun q hq => ?_, has, .inr ⟨V, S, sv, ks, kg, rfl, rfl⟩, .inr ⟨⟨_, rfl⟩, hf⟩⟩
    simp only [dled, List.mem_cons, List.cons_append, List.nil_append, List.not_mem_nil, or_false] at hq ⊢
    rcases hq with h | h | h | h | h <;> simp only [h, true_or, or_true]
  · obtain ⟨rfl, as, ka, rfl, has⟩ := h
    refine ⟨as, ka, [], fun q hq => ?_, has, .inl ⟨rfl, rfl⟩, .inl ⟨rfl, hp⟩⟩
    rw [List.nil_append] at hq
    exact .tail _ (.tail _ hq)
/-- behind a statement that leaves the frame as it was -/
noncomputable def LawP (g : Heap) (L : Addr) (s : Shared) (m : Str → Option Value) (news : List (Addr × Obj)) (f : Flow) (s₂ : Shared) : Prop :=
  f = .next ∧ ∃ h' tk', s₂ = ⟨h', s.gens, s.drawn, tk', s.os⟩ ∧ Fr g L h' m ∧ News g L h' news
theorem law_join {M : Model} {A : Around} {st : Stmt} {rest : List Stmt} {env : Env} {Q : Flow → Shared → Prop} {E : Value → Shared → Prop} {g h : Heap} {L : Addr} {s : Shared} {tk : Nat} {m : Str → Option Value} {news news' : List (Addr × Obj)}
    (_F : Fr g L h m) (_N : News g L h news) (h1 : wpAny M A (exec st env) (LawP g L s m news') E ⟨h, s.gens, s.drawn, tk, s.os⟩)
    (h2 : ∀ h' tk', Fr g L h' m → News g L h' news' → wpAny M A (execs rest env) Q E ⟨h', s.gens, s.drawn, tk', s.os⟩) : wpAny M A (execs (st :: rest) env) Q E ⟨h, s.gens, s.drawn, tk, s.os⟩ :=
  wpAny_execs_cons (wpAny_mono h1 (fun f s₂ ⟨hf, h', tk', e, F, N⟩ => by subst hf; subst e; exact h2 h' tk' F N) fun _ _ e => e)
theorem ne_nilB {prog : Program} {w : World} {A : Around} {E : Value → Shared → Prop} {hp h₀ : Heap} {gs : Array GenState} {dr : Drawn} {tk : Nat} {os : OsState} {L D l : Addr} {news : List (Addr × Obj)} {ys : List Value}
    {Q : Value → Shared → Prop} (N : News h₀ L hp news) (h1 : (D, LCg.lst ys) ∈ news) (h2 : (l, W.listOf #[] 0) ∈ news) (hu : A.units < 9900) (h : ∀ b, (b = true ↔ ys ≠ []) → Q (.bool b) ⟨hp, gs, dr, tk, os⟩) :
    wpAny (model prog w) A (compareOp .NotEq (.ref D) (.ref l)) Q E ⟨hp, gs, dr, tk, os⟩ := by
  by_cases hy : ys = []
  · subst hy; exact ne_nilF N h1 h2 hu (h false ⟨fun e => Bool.noConfusion e, fun e => absurd rfl e⟩)
  · exact ne_nilT N h1 h2 hy hu (h true ⟨fun _ => hy, fun _ => rfl⟩)
end Mine
set_option maxHeartbeats 40000000 in
theorem Mine.law_fs {w : World} (ax : Addr) (vs : List Value) (ns : List Int) (hi : IntsAre vs ns) (hlen : ns.length ≤ 1048576) :
    FS w 381 450 [.ref ax] (fun g => g.IsList ax vs.toArray ∧ CodeHd g 368 364) [(364, tabObj #[])] (fun r P' => r = .bool true ∧ TabP P') := by
  w_top off
  k_with_none
  k_with "callWith ref" => (k_here; k_dflt (first | (refine' callWith_K ?k1z1 ?k2z1 ?_; (case k1z1 => k_asm); (case k2z1 => k_is); k_whole) | (refine' callWith_K0 ?k1z1 ?k2z1 ?_; (case k1z1 => k_in); (case k2z1 => k_is); k_whole)))
  k_with "binaryOp Add ref ref" => (k_here; with_reducible refine' Mine.add_mem ?Fz2 ?Nz2 ?az2 ?bz2 ?zz2 ?_; (case Fz2 => k_asm); (case Nz2 => k_asm); (case az2 => k_dflt k_mem); (case bz2 => k_dflt k_mem); (case zz2 => ((try dsimp only [Mine.T.size] at *); (try simp only [Array.size_append, List.size_toArray, List.length_cons, List.length_nil]); omega)); intro _ _ _ _ l1zz; (try k_lt l1zz); (try (revert l1zz; intro _)); (try k_sweep))
  k_with "call builtin:len" => (k_here; with_reducible refine' Mine.len_mem ?Nz3 ?mz3 ?ez3 ?zz3 ?_; (case Nz3 => k_asm); (case mz3 => k_dflt k_mem); (case ez3 => first | with_reducible assumption | exact rfl); (case zz3 => ((try dsimp only [Mine.T.size] at *); (try simp only [Array.size_push]); omega)); intro _ _)
  k_with "call builtin:len" => (k_here; with_reducible refine' Mine.len_tupN ?Tz4 ?ez4 ?zz4 ?_; (case Tz4 => k_dflt is_tup); (case ez4 => first | with_reducible assumption | exact rfl); (case zz4 => first | (k_dflt decide) | ((try dsimp only [Mine.T.size] at *); omega)); intro _ _)
  k_with "call builtin:list.extend" => (k_here; with_reducible refine' Mine.ext_mem ?Fz5 ?Nz5 ?bz5 ?Uz5 ?zz5 ?_; (case Fz5 => k_asm); (case Nz5 => k_asm); (case bz5 => k_dflt k_mem); (case Uz5 => k_dflt k_updF); (case zz5 => ((try dsimp only [Mine.T.size] at *); (try simp only [Array.size_append, List.size_toArray, List.length_cons, List.length_nil]); omega)); intro _ _ _ Nqzz; (try dsimp only at Nqzz); (try (revert Nqzz; intro _)); (try k_sweep))
  k_with "call ref" => (k_here; (with_reducible show wpAny _ _ (PySem.call (Value.ref 296) _) _ _ _); k_dflt (refine' Mine.ord_call ?Iz6 ?Bz6 ?Fz6 ?Xz6 ?Nz6 ?Tz6 ?rz6 ?kz6 ?fz6 ?ez6 ?sz6 ?wz6 ?dz6 ?uz6 ?_; (case Iz6 => assumption); (case Bz6 => k_asm); (case Fz6 => k_asm); (case Xz6 => k_asm); (case Nz6 => k_asm); (case Tz6 => k_asm); (case rz6 => assumption); (case kz6 => first | exact fun _ _ e => e | exact Fr.keep (by assumption) | exact fun _ _ e => Fr.keep (by assumption) _ _ (Fr.keep (by assumption) _ _ e)); (case fz6 => exact rfl); (case ez6 => exact rfl); (case sz6 => ((try dsimp only [Mine.T.size] at *); omega)); (case wz6 => first | assumption | exact And.left (by assumption) | exact And.right (by assumption)); (case dz6 => ((try dsimp only [Mine.T.size] at *); (try dsimp only [depth_deeper, Mine.top]); (first | exact Mine.rm2 (by assumption) rfl | exact Mine.rm_tree (by assumption) | exact Mine.rm_ord (by assumption) (Nat.succ_le_succ (Nat.le_add_right _ _)) | exact Mine.rm_ord (by assumption) (Nat.succ_le_succ (Nat.le_add_left _ _)) | exact Mine.rm_ord (by assumption) (Nat.le_refl _) | omega))); (case uz6 => ((try dsimp only [Mine.T.size] at *); (try dsimp only [units_deeper, units_in1, Mine.top]); (first | exact Mine.rm2 (by assumption) rfl | exact Mine.rm_treeu (by assumption) | exact Mine.rm_ordu (by assumption) (Nat.succ_le_succ (Nat.le_add_right _ _)) | exact Mine.rm_ordu (by assumption) (Nat.succ_le_succ (Nat.le_add_left _ _)) | exact Mine.rm_ordu (by assumption) (Nat.le_refl _) | omega)))); intro _ _ _ _ _ _ _ _ _ _ _ _ _; (try k_sweep))
  k_with "call ref" => (k_here; (with_reducible show wpAny _ _ (PySem.call (Value.ref 303) _) _ _ _); k_dflt (refine' Mine.fs_call0 (mo := 2) ?Iz7 ?Bz7 ?Fz7 ?Xz7 ?Nz7 ?Tz7 ?rz7 ?kz7 ?fz7 ?ez7 ?dz7 ?uz7 ?_; (case Iz7 => assumption); (case Bz7 => k_asm); (case Fz7 => k_asm); (case Xz7 => k_asm); (case Nz7 => k_asm); (case Tz7 => k_asm); (case rz7 => assumption); (case kz7 => first | exact fun _ _ e => e | exact Fr.keep (by assumption) | exact fun _ _ e => Fr.keep (by assumption) _ _ (Fr.keep (by assumption) _ _ e)); (case fz7 => exact rfl); (case ez7 => exact rfl); (case dz7 => ((try dsimp only [Mine.T.size] at *); (try dsimp only [depth_deeper, Mine.top]); (first | exact Mine.rm2 (by assumption) rfl | exact Mine.rm_tree (by assumption) | exact Mine.rm_ord (by assumption) (Nat.succ_le_succ (Nat.le_add_right _ _)) | exact Mine.rm_ord (by assumption) (Nat.succ_le_succ (Nat.le_add_left _ _)) | exact Mine.rm_ord (by assumption) (Nat.le_refl _) | omega))); (case uz7 => ((try dsimp only [Mine.T.size] at *); (try dsimp only [units_deeper, units_in1, Mine.top]); (first | exact Mine.rm2 (by assumption) rfl | exact Mine.rm_treeu (by assumption) | exact Mine.rm_ordu (by assumption) (Nat.succ_le_succ (Nat.le_add_right _ _)) | exact Mine.rm_ordu (by assumption) (Nat.succ_le_succ (Nat.le_add_left _ _)) | exact Mine.rm_ordu (by assumption) (Nat.le_refl _) | omega)))); intro _ _ _ _ _ _ _ _ _ _ _ _ _; (try k_sweep))
  k_with "call ref" => (k_here; (with_reducible show wpAny _ _ (PySem.call (Value.ref 338) _) _ _ _); k_dflt (refine' Mine.fs_pure ?Iz8 ?Bz8 ?Fz8 ?Xz8 ?Nz8 ?Tz8 ?rz8 ?fz8 ?ez8 ?dz8 ?uz8 ?_; (case Iz8 => assumption); (case Bz8 => k_asm); (case Fz8 => k_asm); (case Xz8 => k_asm); (case Nz8 => k_asm); (case Tz8 => k_asm); (case rz8 => exact fun g' hk _ => Mine.RO.mono (by assumption) hk); (case fz8 => exact rfl); (case ez8 => exact rfl); (case dz8 => ((try dsimp only [depth_deeper, Mine.top]); (first | exact Mine.rm2 (by assumption) rfl | exact Mine.rm_tree (by assumption) | exact Mine.rm_ord (by assumption) (Nat.succ_le_succ (Nat.le_add_right _ _)) | exact Mine.rm_ord (by assumption) (Nat.succ_le_succ (Nat.le_add_left _ _)) | exact Mine.rm_ord (by assumption) (Nat.le_refl _) | omega))); (case uz8 => ((try dsimp only [units_deeper, units_in1, Mine.top]); (first | exact Mine.rm2 (by assumption) rfl | exact Mine.rm_treeu (by assumption) | exact Mine.rm_ordu (by assumption) (Nat.succ_le_succ (Nat.le_add_right _ _)) | exact Mine.rm_ordu (by assumption) (Nat.succ_le_succ (Nat.le_add_left _ _)) | exact Mine.rm_ordu (by assumption) (Nat.le_refl _) | omega)))); intro _ _ _ _ _ eqzz; (obtain ⟨tqzz, eqzz⟩ := eqzz; subst eqzz); (try (revert tqzz; intro _)); (try k_sweep))
  k_with "call builtin:isinstance" => (k_here; with_reducible refine' Mine.isi_tup ?Tz9 ?_; (case Tz9 => k_dflt is_tup); intro _)
  k_with "execs cons" => (k_here; first | (with_reducible refine' Mine.skip_if0 ?Fz10 ?vz10 ?bz10 ?_ ?x1z10 ?x2z10 ?x3z10; (case Fz10 => k_asm); (case vz10 => k_dflt exact rfl); (case bz10 => k_dflt decide); (case x1z10 => k_dflt exact rfl); (case x2z10 => k_dflt exact rfl); (case x3z10 => k_dflt decide); intro _) | (with_reducible refine' Mine.skip_or0 ?Fz10 ?vz10 ?bz10 ?b2z10 ?_ ?x1z10 ?x2z10 ?x3z10; (case Fz10 => k_asm); (case vz10 => k_dflt exact rfl); (case bz10 => k_dflt decide); (case b2z10 => k_dflt decide); (case x1z10 => k_dflt exact rfl); (case x2z10 => k_dflt exact rfl); (case x3z10 => k_dflt decide); intro _) | (with_reducible refine' Mine.take_if0 ?Fz10 ?vz10 ?bz10 ?_ ?x1z10 ?x2z10 ?x3z10; (case Fz10 => k_asm); (case vz10 => k_dflt exact rfl); (case bz10 => k_dflt decide); (case x1z10 => k_dflt exact rfl); (case x2z10 => k_dflt exact rfl); (case x3z10 => k_dflt decide); intro _))
  k_with "execs cons" => (k_here; first | (with_reducible refine' Mine.skip_in0 ?Fz11 ?Nz11 ?vz11 ?sz11 ?nz11 ?bz11 ?mz11 ?_ ?x1z11 ?x2z11 ?x3z11; (case Fz11 => k_asm); (case Nz11 => k_asm); (case vz11 => k_dflt exact rfl); (case sz11 => k_dflt exact rfl); (case nz11 => k_dflt decide); (case bz11 => k_dflt decide); (case mz11 => k_dflt exact rfl); (case x1z11 => k_dflt exact rfl); (case x2z11 => k_dflt exact rfl); (case x3z11 => k_dflt decide); intro _ _ _ _; (try k_sweep)) | (with_reducible refine' Mine.take_in0 ?Fz11 ?Nz11 ?vz11 ?sz11 ?nz11 ?bz11 ?mz11 ?_ ?x1z11 ?x2z11 ?x3z11; (case Fz11 => k_asm); (case Nz11 => k_asm); (case vz11 => k_dflt exact rfl); (case sz11 => k_dflt exact rfl); (case nz11 => k_dflt decide); (case bz11 => k_dflt decide); (case mz11 => k_dflt exact rfl); (case x1z11 => k_dflt exact rfl); (case x2z11 => k_dflt exact rfl); (case x3z11 => k_dflt decide); intro _ _ _ _; (try k_sweep)))
  k_with "eval Subscript Name Constant" => (k_here; with_reducible refine' Mine.item_tup0 ?Fz12 ?vz12 ?tz12 ?loz12 ?hiz12 ?jz12 ?uz12 ?_ ?x1z12 ?x2z12 ?x3z12; (case Fz12 => k_asm); (case vz12 => k_dflt exact rfl); (case tz12 => k_dflt is_tup); (case loz12 => k_dflt decide); (case hiz12 => k_dflt decide); (case jz12 => k_dflt exact rfl); (case uz12 => k_dflt exact rfl); (case x1z12 => k_dflt exact rfl); (case x2z12 => k_dflt exact rfl); (case x3z12 => k_dflt decide); intro _)
  k_with "call ref" => (k_here; (with_reducible show wpAny _ _ (PySem.call (Value.ref 352) _) _ _ _); k_dflt (refine' Mine.total_call ?Iz69 ?lz69 ?hlz69 ?hkz69 ?Bz69 ?Fz69 ?Xz69 ?Nz69 ?Tz69 ?fz69 ?ez69 ?dz69 ?uz69 ?_; (case hlz69 => assumption); (case Iz69 => assumption); (case lz69 => assumption); (case hkz69 => exact fun _ _ e => e); (case Bz69 => k_asm); (case Fz69 => k_asm); (case Xz69 => k_asm); (case Nz69 => k_asm); (case Tz69 => k_asm); (case fz69 => exact rfl); (case ez69 => exact rfl); (case dz69 => ((try dsimp only [Mine.top]); (first | exact Mine.rm2 (by assumption) rfl | exact Mine.rm_tree (by assumption) | exact Mine.rm_ord (by assumption) (Nat.succ_le_succ (Nat.le_add_right _ _)) | exact Mine.rm_ord (by assumption) (Nat.succ_le_succ (Nat.le_add_left _ _)) | exact Mine.rm_ord (by assumption) (Nat.le_refl _) | omega))); (case uz69 => ((try dsimp only [Mine.top]); (first | exact Mine.rm2 (by assumption) rfl | exact Mine.rm_treeu (by assumption) | exact Mine.rm_ordu (by assumption) (Nat.succ_le_succ (Nat.le_add_right _ _)) | exact Mine.rm_ordu (by assumption) (Nat.succ_le_succ (Nat.le_add_left _ _)) | exact Mine.rm_ordu (by assumption) (Nat.le_refl _) | omega)))); intro _ _ _ _ _ _ _; (try k_sweep))
  k_with "call ref" => (k_here; (with_reducible show wpAny _ _ (PySem.call (Value.ref 250) _) _ _ _); k_dflt (refine' Mine.new_hooks ?Bz70 ?Fz70 ?Xz70 ?Nz70 ?Tz70 ?hfz70 ?hkez70 ?hdz70 ?huz70 ?_; (case Bz70 => k_asm); (case Fz70 => k_asm); (case Xz70 => k_asm); (case Nz70 => k_asm); (case Tz70 => k_asm); (case hfz70 => exact rfl); (case hkez70 => exact rfl); (case hdz70 => ((try dsimp only [Mine.top]); (first | exact Mine.rm2 (by assumption) rfl | exact Mine.rm_tree (by assumption) | exact Mine.rm_ord (by assumption) (Nat.succ_le_succ (Nat.le_add_right _ _)) | exact Mine.rm_ord (by assumption) (Nat.succ_le_succ (Nat.le_add_left _ _)) | exact Mine.rm_ord (by assumption) (Nat.le_refl _) | omega))); (case huz70 => ((try dsimp only [Mine.top]); (first | exact Mine.rm2 (by assumption) rfl | exact Mine.rm_treeu (by assumption) | exact Mine.rm_ordu (by assumption) (Nat.succ_le_succ (Nat.le_add_right _ _)) | exact Mine.rm_ordu (by assumption) (Nat.succ_le_succ (Nat.le_add_left _ _)) | exact Mine.rm_ordu (by assumption) (Nat.le_refl _) | omega)))); intro _ _ _ _ _ _ _ _ _ _ _ _; (try k_sweep))
  k_with "call ref" => (k_here; (with_reducible show wpAny _ _ (PySem.call (Value.ref 296) _) _ _ _); k_dflt (refine' Mine.ord_led ?rz71 ?wz71 ?sz71 ?Bz71 ?Fz71 ?Xz71 ?Nz71 ?Tz71 ?fz71 ?ez71 ?dz71 ?uz71 ?_; (case Bz71 => k_asm); (case Fz71 => k_asm); (case Xz71 => k_asm); (case Nz71 => k_asm); (case Tz71 => k_asm); (case rz71 => first | assumption | exact Mine.RT.neg (by k_mem) (Mine.RT.name (by k_mem)) | exact Mine.RT.neg (by k_mem) (Mine.RT.neg (by k_mem) (Mine.RT.name (by k_mem)))); (case wz71 => first | assumption | exact True.intro); (case sz71 => first | assumption | exact Nat.le_of_ble_eq_true rfl); (case fz71 => exact rfl); (case ez71 => exact rfl); (case dz71 => ((try dsimp only [Mine.top]); (first | exact Mine.rm2 (by assumption) rfl | exact Mine.rm_tree (by assumption) | exact Mine.rm_ord (by assumption) (Nat.succ_le_succ (Nat.le_add_right _ _)) | exact Mine.rm_ord (by assumption) (Nat.succ_le_succ (Nat.le_add_left _ _)) | exact Mine.rm_ord (by assumption) (Nat.le_refl _) | omega))); (case uz71 => ((try dsimp only [Mine.top]); (first | exact Mine.rm2 (by assumption) rfl | exact Mine.rm_treeu (by assumption) | exact Mine.rm_ordu (by assumption) (Nat.succ_le_succ (Nat.le_add_right _ _)) | exact Mine.rm_ordu (by assumption) (Nat.succ_le_succ (Nat.le_add_left _ _)) | exact Mine.rm_ordu (by assumption) (Nat.le_refl _) | omega)))); intro _ _ _ _ _ _ _ _ _ _ _ _ _; (try k_sweep))
  k_with "storeName" => (k_here; k_dflt (refine' Mine.store_cell ?Fz72 ?Nz72 ?cz72 ?Uz72 ?dz72 ?kz72 ?xz72 ?_; (case Fz72 => k_asm); (case Nz72 => k_asm); (case cz72 => exact rfl); (case Uz72 => k_dflt k_updF); (case dz72 => assumption); (case kz72 => exact rfl); (case xz72 => exact rfl)); intro _ _ _ Nqzz dqzz; (try dsimp only at Nqzz); (try (revert Nqzz dqzz; intro _ _)); (try k_sweep))
  refine' Mine.fs_cells (binds := [(Str.ofString "script", .ref ax)]) ?ho ?hcd ?hb ?hl ?hn ?h ?c2 ?c3 ?c4
  case ho => (intro P; k_dflt k_is)
  case hcd => (intro P; k_dflt k_is)
  case hb => (intro s; exact BindsTo.of_eq rfl)
  case hl => exact rfl
  case hn => decide +kernel
  case c2 => exact rfl
  case c3 => exact rfl
  case c4 => exact rfl
  case h =>
  intro dp un gd outer base g s p loose mean mg mb L' h' tk cells B' X' T' F' N' Y' l1 pre hd hu
  obtain ⟨hls, hcd⟩ := pre
  k_cells Y'
  k_lt l1
  simp only [List.cons_append, List.nil_append] at N'
  try dsimp only
  with_reducible show wpAny _ _ _ _ _ _
  k_fold
  repeat' ((fail_if_success (with_reducible show wpAny _ _ (PySem.call (Value.ref 369) _) _ _ _)); first | (k_unfold; (try dsimp only)) | (k_end; wrow_close) | walk1 | (dsimp only; walk1) | (leave1; walk_say "STEP leave1"; try dsimp only) | fail "no step")
  rename_i oa ob da db x00 tx _ tk0 hx00 b _ lb al _ la bl _ F1 N1 lbl
  refine' rep_call (Pt := [(364, tabObj #[])]) (R := [(bl, W.listOf #[] 0), (al, W.listOf #[] 0), (b, W.listOf #[.int x00 tx, .int 0 tk0] 0), (L' + 1 + 1, oa), (L' + 1, ob)]) (.inl rfl) hcd B' F1 X' N1 T' rfl rfl ?hP ?hR ?hd ?hu ?_
  case hP => exact fun q h => .tail _ (.tail _ (.tail _ (.tail _ (.tail _ h))))
  case hR =>
    intro q hq
    simp only [List.mem_cons, List.not_mem_nil, or_false] at hq
    refine ⟨?_, fun r hr => ?_⟩
    · simp only [List.mem_cons]
      rcases hq with h | h | h | h | h <;> simp only [h, true_or, or_true]
    · rw [List.mem_singleton.mp hr]
      rcases hq with rfl | rfl | rfl | rfl | rfl <;> exact NeA.gt (by show (364 : Nat) < _; omega)
  case hd => (show dp + 1 + 2 < 900); exact rm2 hd rfl
  case hu => (show un + _ + 5 * 2 < 3000); exact rm2 hu rfl
  clear F1 N1
  intro f fo cc oc c1 o1 c2 o2 h1 tk1 F2 N2 hPt2 rep ap2
  obtain ⟨Z, hZ⟩ : ∃ Z : List (Addr × Obj), Z = [(f, fo), (cc, oc), (c1, o1), (c2, o2), ((364 : Addr), tabOne cc)] := ⟨_, rfl⟩
  have N3 : News g L' h1 (Z ++ [(bl, W.listOf #[] 0), (al, W.listOf #[] 0), (b, W.listOf #[.int x00 tx, .int 0 tk0] 0), (L' + 1 + 1, oa), (L' + 1, ob)]) := by rw [hZ]; exact N2
  have zbl : ∀ q ∈ Z, q.1 ≠ bl := fun q h => (ap2 q (hZ ▸ h) _ (.head _)).out
  have zal : ∀ q ∈ Z, q.1 ≠ al := fun q h => (ap2 q (hZ ▸ h) _ (.tail _ (.head _))).out
  have zb : ∀ q ∈ Z, q.1 ≠ b := fun q h => (ap2 q (hZ ▸ h) _ (.tail _ (.tail _ (.head _)))).out
  have zca : ∀ q ∈ Z, q.1 ≠ L' + 1 + 1 := fun q h => (ap2 q (hZ ▸ h) _ (.tail _ (.tail _ (.tail _ (.head _))))).out
  have zcb : ∀ q ∈ Z, q.1 ≠ L' + 1 := fun q h => (ap2 q (hZ ▸ h) _ (.tail _ (.tail _ (.tail _ (.tail _ (.head _)))))).out
  have zT : ∀ q ∈ [((364 : Addr), tabOne cc), (cc, oc)], q ∈ Z := by
    rw [hZ]; intro q hq
    simp only [List.mem_cons, List.not_mem_nil, or_false] at hq ⊢
    rcases hq with h | h <;> simp only [h, true_or, or_true]
  have zH : ∀ q ∈ [(f, fo), (cc, oc), (c1, o1), (c2, o2)], q ∈ Z := by
    rw [hZ]; intro q hq; exact List.mem_append_left [((364 : Addr), tabOne cc)] hq
  clear hZ ap2 N2
  repeat' ((fail_if_success (with_reducible show wpAny _ _ (PySem.storeName _ _ _) _ _ _)); first | (k_unfold; (try dsimp only)) | (k_end; wrow_close) | walk1 | (dsimp only; walk1) | (leave1; walk_say "STEP leave1"; try dsimp only) | fail "no step")
  rename_i dd _ od _ _ _ _ _ ldd x d nts q1 q2 q3 _ _ nxd apx D _ lD _ F3 N4
  have xcb := (apx (L' + 1, ob) (by k_mem)).1.symm; have dcb := (apx (L' + 1, ob) (by k_mem)).2.symm
  repeat' ((fail_if_success (with_reducible show wpAny _ _ (PySem.call (Value.ref 261) _) _ _ _)); first | (k_unfold; (try dsimp only)) | (k_end; wrow_close) | walk1 | (dsimp only; walk1) | (leave1; walk_say "STEP leave1"; try dsimp only) | fail "no step")
  rename_i _ ob1 dob1 _ D1 _ lD1 D2 _ lD2 a1 its1 k1 _ _ P1 F5 N5 ap5 me5 ro5 sz5 ln5
  have hxal : NeA x al := (apx (al, W.listOf #[] 0) (by k_mem)).1.symm
  have hdal : NeA d al := (apx (al, W.listOf #[] 0) (by k_mem)).2.symm
  have hxbl : NeA bl x := (apx (bl, W.listOf #[] 0) (by k_mem)).1
  have hdbl : NeA bl d := (apx (bl, W.listOf #[] 0) (by k_mem)).2
  have hblal : NeA bl al := NeA.gt (by omega)
  have OK : Hk.Ok ⟨x, d, f, al, bl, .ref dd, nts, q1, q2, q3, [(f, fo), (cc, oc), (c1, o1), (c2, o2)], [], 0, []⟩ w := ⟨rep, .nil, nxd, hxal, hdal⟩
  have zx : ∀ q ∈ Z, NeA q.1 x ∧ NeA q.1 d := fun q h => apx q (.tail _ (List.mem_append_left _ h))
  refine' run_led (K := ⟨x, d, f, al, bl, .ref dd, nts, q1, q2, q3, [(f, fo), (cc, oc), (c1, o1), (c2, o2)], [], 0, []⟩) (Y := P1 ++ (Z ++ [(bl, W.listOf #[] 0)])) (r := (none, 0 + 1)) (as := #[]) (ka := 0) OK run_n1 (by decide) (List.mem_append_left _ me5) (ro5.mono fun _ _ h => List.mem_append_left _ h) ?hY ?hT ?hbl B' F5 X' N5 T' rfl rfl ?hP ?hd ?hu ?_
  case hY =>
    intro q hq
    rcases List.mem_append.mp hq with hq | hq
    · exact ⟨List.mem_append_left _ hq, ap5 q hq (x, instObj 250 d) (by k_mem), ap5 q hq (d, hdict w f (.ref dd) nts q1 q2 q3) (by k_mem), ap5 q hq (al, W.listOf #[] 0) (by k_mem)⟩
    · rcases List.mem_append.mp hq with hq | hq
      · exact ⟨List.mem_append_right _ (.tail _ (.tail _ (.tail _ (.tail _ (.tail _ (.tail _ (List.mem_append_left _ hq))))))), (zx q hq).1, (zx q hq).2, zal q hq⟩
      · rw [List.mem_singleton.mp hq]; exact ⟨by k_mem, hxbl, hdbl, hblal⟩
  case hT => exact fun q hq => List.mem_append_right _ (List.mem_append_left _ (zH q hq))
  case hbl => exact List.mem_append_right _ (List.mem_append_right _ (.head _))
  case hP =>
    intro q hq
    simp only [Hk.led, List.mem_cons, List.not_mem_nil, or_false] at hq
    rcases hq with rfl | rfl | rfl
    · k_mem
    · k_mem
    · k_mem
  case hd => (show dp + 1 + 7 < 900); exact rm2 hd rfl
  case hu => (show un + _ + 5 * 7 < 3000); exact rm2 hu rfl
  rintro v1 h6 tk6 P6 ⟨rfl, as1, ka1, rfl, has1⟩ F6 N6 ap6
  have N7 : News g L' h6 ((x, instObj 250 d) :: (d, hdict w f (.ref dd) nts q1 q2 q3) :: (Z ++ [(bl, W.listOf #[] 0), (al, W.listOf as1 ka1), (b, W.listOf #[.int x00 tx, .int 0 tk0] 0), (L' + 1 + 1, oa), (L' + 1, ob1)])) := by
    refine N6 _ fun q hq => ?_
    simp only [List.mem_cons, List.mem_append, List.not_mem_nil, or_false] at hq
    rcases hq with rfl | rfl | hq | rfl | rfl | rfl | rfl | rfl
    · exact .inl (.head _)
    · exact .inl (.tail _ (.head _))
    · exact .inr ⟨List.mem_append_right _ (.tail _ (.tail _ (.tail _ (.tail _ (.tail _ (.tail _ (List.mem_append_left _ hq))))))), (zx q hq).1, (zx q hq).2, zal q hq⟩
    · exact .inr ⟨by k_mem, hxbl, hdbl, hblal⟩
    · exact .inl (.tail _ (.tail _ (.head _)))
    · exact .inr ⟨by k_mem, (apx (b, W.listOf #[.int x00 tx, .int 0 tk0] 0) (by k_mem)).1, (apx (b, W.listOf #[.int x00 tx, .int 0 tk0] 0) (by k_mem)).2, (show NeA b al from NeA.lt (by omega))⟩
    · exact .inr ⟨by k_mem, (apx (L' + 1 + 1, oa) (by k_mem)).1, (apx (L' + 1 + 1, oa) (by k_mem)).2, (show NeA (L' + 1 + 1) al from NeA.lt (by omega))⟩
    · exact .inr ⟨by k_mem, (apx (L' + 1, ob) (by k_mem)).1, (apx (L' + 1, ob) (by k_mem)).2, (show NeA (L' + 1) al from NeA.lt (by omega))⟩
  clear N5 ap5 me5 ro5 sz5 ln5 N6 ap6 lD1 lD2 F5
  repeat' ((fail_if_success (with_reducible show wpAny _ _ (PySem.call (Value.ref 261) _) _ _ _)); first | (k_unfold; (try dsimp only)) | (k_end; wrow_close) | walk1 | (dsimp only; walk1) | (leave1; walk_say "STEP leave1"; try dsimp only) | fail "no step")
  rename_i D3 _ lD3 D4 _ lD4 D5 _ lD5 a2 its2 k2 _ _ P2 F8 N8 ap8 me8 ro8 sz8 ln8
  refine' run_led (K := ⟨x, d, f, al, bl, .ref dd, nts, q1, q2, q3, [(f, fo), (cc, oc), (c1, o1), (c2, o2)], [], 0, []⟩) (Y := P2 ++ (Z ++ [(bl, W.listOf #[] 0)])) (r := (some ⟨[.s (Str.ofString "")], [], as1.size + 1⟩, as1.size + 1)) (as := as1) (ka := ka1) OK run_n2 (by rw [has1]; decide) (List.mem_append_left _ me8) (ro8.mono fun _ _ h => List.mem_append_left _ h) ?hY ?hT ?hbl B' F8 X' N8 T' rfl rfl ?hP ?hd ?hu ?_
  case hY =>
    intro q hq
    rcases List.mem_append.mp hq with hq | hq
    · exact ⟨List.mem_append_left _ hq, ap8 q hq (x, instObj 250 d) (by k_mem), ap8 q hq (d, hdict w f (.ref dd) nts q1 q2 q3) (by k_mem), ap8 q hq (al, W.listOf as1 ka1) (by k_mem)⟩
    · rcases List.mem_append.mp hq with hq | hq
      · exact ⟨List.mem_append_right _ (.tail _ (.tail _ (.tail _ (.tail _ (.tail _ (List.mem_append_left _ hq)))))), (zx q hq).1, (zx q hq).2, zal q hq⟩
      · rw [List.mem_singleton.mp hq]; exact ⟨by k_mem, hxbl, hdbl, hblal⟩
  case hT => exact fun q hq => List.mem_append_right _ (List.mem_append_left _ (zH q hq))
  case hbl => exact List.mem_append_right _ (List.mem_append_right _ (.head _))
  case hP =>
    intro q hq
    simp only [Hk.led, List.mem_cons, List.not_mem_nil, or_false] at hq
    rcases hq with rfl | rfl | rfl
    · k_mem
    · k_mem
    · k_mem
  case hd => (show dp + 1 + 7 < 900); exact rm2 hd rfl
  case hu => (show un + _ + 5 * 7 < 3000); exact rm2 hu rfl
  rintro v2 h9 tk9 P9 ⟨V, S, st, gst, as2, ks, kg, ka2, rfl, rfl, APV, hst, hgs, has2⟩ F9 N9 ap9
  obtain ⟨tst, rfl⟩ := rss_one hst
  obtain ⟨Pt, hPt⟩ : ∃ Pt : List (Addr × Obj), Pt = [((364 : Addr), tabOne cc), (cc, oc)] := ⟨_, rfl⟩
  have N10 : News g L' h9 ((V.W, instObj 103 V.D) :: (V.D, wdict w S V.G V.k1 V.k2 V.k3 V.k4) :: (S, W.listOf #[.str (Str.ofString "") tst] ks) :: (b, W.listOf #[.int x00 tx, .int 0 tk0] 0) :: (L' + 1 + 1, oa) :: (L' + 1, ob1) :: Pt) := by
    refine N9 _ fun q hq => ?_
    simp only [List.mem_cons] at hq
    rcases hq with rfl | rfl | rfl | rfl | rfl | rfl | hq
    · exact .inl (.head _)
    · exact .inl (.tail _ (.head _))
    · exact .inl (.tail _ (.tail _ (.head _)))
    · exact .inr ⟨by k_mem, (apx (b, W.listOf #[.int x00 tx, .int 0 tk0] 0) (by k_mem)).1, (apx (b, W.listOf #[.int x00 tx, .int 0 tk0] 0) (by k_mem)).2, (show NeA b al from NeA.lt (by omega))⟩
    · exact .inr ⟨by k_mem, (apx (L' + 1 + 1, oa) (by k_mem)).1, (apx (L' + 1 + 1, oa) (by k_mem)).2, (show NeA (L' + 1 + 1) al from NeA.lt (by omega))⟩
    · exact .inr ⟨by k_mem, (apx (L' + 1, ob) (by k_mem)).1, (apx (L' + 1, ob) (by k_mem)).2, (show NeA (L' + 1) al from NeA.lt (by omega))⟩
    · have hq := zT q (hPt ▸ hq)
      exact .inr ⟨List.mem_append_right _ (.tail _ (.tail _ (.tail _ (.tail _ (.tail _ (List.mem_append_left _ hq)))))), (zx q hq).1, (zx q hq).2, zal q hq⟩
  have ptb : ∀ q ∈ Pt, q.1 ≠ b := fun q h => zb q (zT q (hPt ▸ h))
  have ptca : ∀ q ∈ Pt, q.1 ≠ L' + 1 + 1 := fun q h => zca q (zT q (hPt ▸ h))
  have ptcb : ∀ q ∈ Pt, q.1 ≠ L' + 1 := fun q h => zcb q (zT q (hPt ▸ h))
  rw [← hPt] at hPt2
  clear N9 ap9 F8 N8 ap8 me8 ro8 sz8 ln8 zx OK hPt zT zH zal zbl zb zca zcb apx rep APV hst hgs has2 has1 hxal hdal hxbl hdbl hblal nxd xcb dcb
  repeat' ((fail_if_success (with_reducible show wpAny _ _ (PySem.exec (PySem.Stmt.For _ _ _ _ _) _) _ _ _)); first | (k_unfold; (try dsimp only)) | (k_end; wrow_close) | walk1 | (dsimp only; walk1) | (leave1; walk_say "STEP leave1"; try dsimp only) | fail "no step")
  rename_i lst _ F11 N11 lL
  obtain ⟨m0, F12⟩ : ∃ m0, Fr g L' _ m0 := ⟨_, F11⟩
  have N12 : News g L' _ ((b, W.listOf #[.int x00 tx, .int 0 tk0] 0) :: (L' + 1 + 1, oa) :: (L' + 1, ob1) :: Pt) := news_sub N11 fun q hq => .tail _ (.tail _ (.tail _ (.tail _ hq)))
  have hJ0 : LawJ b L' 0 m0 ((b, W.listOf #[.int x00 tx, .int 0 tk0] 0) :: (L' + 1 + 1, oa) :: (L' + 1, ob1) :: Pt) := ⟨x00, 0, tx, tk0, 0, oa, ob1, Pt, rfl, dob1, ⟨_, da⟩, hPt2, ptb, ptca, ptcb, hx00, Int.le_refl _, Int.le_refl _⟩
  have hb1 : (L' + 1 : Nat) < b := lb.2.1
  have hb2 : (L' + 1 + 1 : Nat) < b := lb.1
  clear F11 N11 lL lD3 lD4 lD5 lD ldd la lbl lb hx00 ptb ptca ptcb hPt2 dob1 da db
  refine For_turns (h₀ := g) F12 ?_ (by intro _; rfl) (by passes_own)
  repeat' ((fail_if_success (with_reducible show wpAny _ _ (PySem.pyIter _) _ _ _)); first | (k_unfold; (try dsimp only)) | (k_end; wrow_close) | walk1 | (dsimp only; walk1) | (leave1; walk_say "STEP leave1"; try dsimp only) | fail "no step")
  rename_i _ _ _ hrg F13 N13 _
  have IT : TreeIH w 3 := tree_fs 3 (by decide)
  refine iter_range (n := 4) rfl hrg (by decide) (by decide) F13 N13 (LawJ b L') hJ0 ?_ ?_
  · clear F13 N13 hJ0 hrg
    intro i tt m₁ news₁ h₁ tk₁ I o hi hJ hap F₁ N₁
    obtain ⟨x0, x1, t0, t1, n, oa, ob, Pt, rfl, hob, ⟨v₀, hoa⟩, hPt, ptb, ptca, ptcb, hx0, hx1, hx2⟩ := hJ
    have Ib : b ≠ I := hap _ (.head _)
    have Ica : L' + 1 + 1 ≠ I := hap _ (.tail _ (.head _))
    have Icb : L' + 1 ≠ I := hap _ (.tail _ (.tail _ (.head _)))
    have Ipt : ∀ q ∈ Pt, q.1 ≠ I := fun q h => hap q (.tail _ (.tail _ (.tail _ h)))
    clear hap
    have hbr : ∀ q ∈ (L' + 1 + 1, oa) :: (L' + 1, ob) :: Pt, q.1 ≠ b := fun q hq => by
      rcases List.mem_cons.mp hq with rfl | hq
      · exact Nat.ne_of_lt hb2
      · rcases List.mem_cons.mp hq with rfl | hq
        · exact Nat.ne_of_lt hb1
        · exact ptb q hq
    repeat' ((fail_if_success (with_reducible show wpAny _ _ (PySem.call (Value.ref 357) _) _ _ _)); first | (k_unfold; (try dsimp only)) | (k_end; wrow_close) | walk1 | (dsimp only; walk1) | (leave1; walk_say "STEP leave1"; try dsimp only) | fail "no step")
    rename_i F2 N2
    clear F₁ N₁
    refine' tree_call IT (UpdF.tail Ib.symm (UpdF.head hbr)) hx0 hx1 (by simp only [cost]; omega) B' F2 X' N2 T' rfl rfl rfl ?hd ?hu ?_
    case hd => (show dp + 1 + _ < 900); exact rm2 hd rfl
    case hu => (show un + _ + _ < 3000); exact rm2 hu rfl
    intro rt t xx0 xx1 tt0 tt1 nn XT h3 tk3 rt3 wf3 sz3 q0 q1 q2 xb F3 N3 xap
    clear F2 N2
    try dsimp only at N3
    try dsimp only at xap
    repeat' ((fail_if_success (with_reducible show wpAny _ _ (PySem.call (Value.ref 296) _) _ _ _)); first | (k_unfold; (try dsimp only)) | (k_end; wrow_close) | walk1 | (dsimp only; walk1) | (leave1; walk_say "STEP leave1"; try dsimp only) | fail "no step")
    rename_i F4 N4
    refine' ord_led (t := t) (rt3.mono fun a o h => List.mem_append_left _ h) wf3 (Nat.le_trans sz3 (by decide)) B' F4 X' N4 T' rfl rfl ?hd ?hu ?_
    case hd => (show dp + 1 + _ < 900); exact rm2 hd rfl
    case hu => (show un + _ + _ < 3000); exact rm2 hu rfl
    intro ao its ko h5 tk5 PO F5 N5 oap ome oro osz oln
    clear F4 N4
    obtain ⟨Y, hY⟩ : ∃ Y, Y = PO ++ XT := ⟨_, rfl⟩
    have yap : ∀ q ∈ Y, ∀ r ∈ (I, o) :: (b, W.listOf #[.int xx0 tt0, .int xx1 tt1] nn) :: (L' + 1 + 1, oa) :: (L' + 1, ob) :: Pt, NeA q.1 r.1 := fun q hq r hr => by
      rcases List.mem_append.mp (hY ▸ hq) with hq | hq
      · exact oap q hq r (List.mem_append_right _ hr)
      · exact xap q hq r hr
    have yt : RT (inL Y) rt t := rt3.mono fun a o h => hY ▸ List.mem_append_right _ h
    have yo : ROs (inL Y) its.toList (ords 0 t) := oro.mono fun a o h => hY ▸ List.mem_append_left _ h
    have ya : (ao, W.listOf its ko) ∈ Y := hY ▸ List.mem_append_left _ ome
    have N6 : News g L' h5 ((b, W.listOf #[.int xx0 tt0, .int xx1 tt1] nn) :: (I, o) :: (L' + 1 + 1, oa) :: (L' + 1, ob) :: (Y ++ Pt)) := news_sub N5 fun q hq => by
      rw [hY] at hq
      simp only [List.mem_cons, List.mem_append] at hq ⊢
      rcases hq with h | h | h | h | (h | h) | h <;> simp only [h, true_or, or_true]
    have hR : ∀ q ∈ (I, o) :: (L' + 1 + 1, oa) :: (L' + 1, ob) :: (Y ++ Pt), q.1 ≠ b := fun q hq => by
      rcases List.mem_cons.mp hq with rfl | hq
      · exact Ib.symm
      · rcases List.mem_cons.mp hq with rfl | hq
        · exact Nat.ne_of_lt hb2
        · rcases List.mem_cons.mp hq with rfl | hq
          · exact Nat.ne_of_lt hb1
          · rcases List.mem_append.mp hq with hq | hq
            · exact yap q hq _ (.tail _ (.head _))
            · exact ptb q hq
    clear N5 oap xap rt3 oro ome hY xb hbr hx0
    repeat' ((fail_if_success (with_reducible show wpAny _ _ (PySem.call (Value.ref 345) _) _ _ _)); first | (k_unfold; (try dsimp only)) | (k_end; wrow_close) | walk1 | (dsimp only; walk1) | (leave1; walk_say "STEP leave1"; try dsimp only) | fail "no step")
    rename_i F7 N7
    have hx3 : 0 ≤ xx1 := by omega
    refine' tk_call (UpdF.head hR) q0 hx3 (by simp only [cost] at q2; omega) (by decide) (by decide) B' F7 X' N7 T' rfl rfl ?hd ?hu ?_
    case hd => (show dp + 1 + _ < 900); exact rm2 hd rfl
    case hu => (show un + _ + _ < 3000); exact rm2 hu rfl
    intro kd tkd y0 ty0 ty1 ny h8 tk8 kd0 kd3 hy0 F8 N8
    clear F7 N7
    try dsimp only at N8
    have N9 : News g L' h8 (((I, o) :: (L' + 1 + 1, oa) :: (L' + 1, ob) :: (Y ++ Pt)) ++ [(b, W.listOf #[.int y0 ty0, .int (xx1 + 1) ty1] ny)]) := news_sub N8 fun q hq => by
      simp only [List.mem_cons, List.mem_append, List.not_mem_nil, or_false] at hq ⊢
      rcases hq with (h | h | h | h | h) | h <;> simp only [h, true_or, or_true]
    clear N8
    repeat' ((fail_if_success (with_reducible show LCg.CompSrc _ _ _ _ _ _ _ _ _ _ _ _ _ _)); first | (k_unfold; (try dsimp only)) | (k_end; wrow_close) | walk1 | (dsimp only; walk1) | (leave1; walk_say "STEP leave1"; try dsimp only) | fail "no step")
    rename_i _ _ _ hrg9 F10 N10 _
    refine' take_src (Bs := (I, o) :: (L' + 1 + 1, oa) :: (L' + 1, ob) :: (Y ++ Pt)) B' F10 X' N10 T' hrg9 kd0 kd3 hy0 hR rfl rfl rfl (by k_is) (by k_is) rfl (.tail _ (.tail _ (.head _))) hob rfl (fun _ => rfl) (fun _ => rfl) ?hd ?hu ?h90 ?h00 ?_
    case hd => (show dp + 1 + _ < 900); exact rm2 hd rfl
    case hu => (show un + _ + _ < 3000); exact rm2 hu rfl
    case h90 => simp only [cost] at q2; omega
    case h00 => omega
    clear F10 N10 hrg9
    rintro s₂ ys bn z0 z1 tz0 tz1 nz ⟨h9, rfl⟩ hys hbn0 hbnl hz0 g1 g2
    have hz1n : 0 ≤ z1 := by omega
    have hz1b : z1 ≤ 40 * ((i + 1 : Nat) : Int) := by simp only [cost] at q2; omega
    try dsimp only
    repeat' ((fail_if_success (with_reducible show wpAny _ _ (PySem.storeName _ _ _) _ _ _)); first | (k_unfold; (try dsimp only)) | (k_end; wrow_close) | walk1 | (dsimp only; walk1) | (leave1; walk_say "STEP leave1"; try dsimp only) | fail "no step")
    rename_i D _ _ oD al _ F11 N11 lal
    have hoD := off1_mem oD
    obtain ⟨lal1, lal2, lal3, lal4, lal5⟩ := lal
    have hal5 := allLt_mem lal5
    clear lal5 oD
    try dsimp only
    refine' store_cell F11 N11 rfl (UpdF.tail (Nat.ne_of_gt lal3) (UpdF.tail (hoD _ (.tail _ (.head _))).symm (UpdF.tail Ica.symm (UpdF.head ?hrest)))) hoa rfl rfl ?_
    case hrest =>
      intro q hq
      rcases List.mem_cons.mp hq with rfl | hq
      · exact Nat.ne_of_lt (Nat.lt_succ_self _)
      · rcases List.mem_append.mp hq with hq | hq
        · rcases List.mem_append.mp hq with hq | hq
          · exact yap q hq _ (.tail _ (.tail _ (.head _)))
          · exact ptca q hq
        · rw [List.mem_singleton.mp hq]; exact Nat.ne_of_gt hb2
    intro h10 oa1 F12 N12 hoa1
    try dsimp only at N12
    clear F11 N11 hoa
    obtain ⟨R, hR2⟩ : ∃ R : List (Addr × Obj), R = (al, W.listOf #[] 0) :: (D, W.listOf ys.toArray ys.length) :: (I, o) :: (L' + 1 + 1, oa1) :: (L' + 1, ob) :: (b, W.listOf #[.int z0 tz0, .int z1 tz1] nz) :: Y := ⟨_, rfl⟩
    have N13 : News g L' h10 ((al, W.listOf #[] 0) :: (D, W.listOf ys.toArray ys.length) :: (I, o) :: (L' + 1 + 1, oa1) :: (L' + 1, ob) :: (b, W.listOf #[.int z0 tz0, .int z1 tz1] nz) :: (Y ++ Pt)) := news_sub N12 fun q hq => by
      simp only [List.mem_cons, List.mem_append, List.not_mem_nil, or_false] at hq ⊢
      rcases hq with h | h | h | h | h | h | h | h <;> simp only [h, true_or, or_true]
    have rpt : ∀ q ∈ R, ∀ r ∈ Pt, NeA q.1 r.1 := by
      rw [hR2]
      intro q hq r hr
      simp only [List.mem_cons] at hq
      rcases hq with rfl | rfl | rfl | rfl | rfl | rfl | hq
      · exact NeA.gt (hal5 r (List.mem_append_left _ (List.mem_append_right _ hr)))
      · exact (hoD r (List.mem_append_left _ (.tail _ (.tail _ (.tail _ (List.mem_append_right _ hr)))))).symm
      · exact (Ipt r hr).symm
      · exact (ptca r hr).symm
      · exact (ptcb r hr).symm
      · exact (ptb r hr).symm
      · exact yap q hq r (.tail _ (.tail _ (.tail _ (.tail _ hr))))
    clear N12
    repeat' ((fail_if_success (with_reducible show wpAny _ _ (PySem.call (Value.ref 369) _) _ _ _)); first | (k_unfold; (try dsimp only)) | (k_end; wrow_close) | walk1 | (dsimp only; walk1) | (leave1; walk_say "STEP leave1"; try dsimp only) | fail "no step")
    refine' rep_call (Pt := Pt) (R := R) hPt hcd B' F12 X' N13 T' rfl rfl ?hP ?hR ?hd ?hu ?_
    case hP => exact fun q h => .tail _ (.tail _ (.tail _ (.tail _ (.tail _ (.tail _ (List.mem_append_right _ h))))))
    case hR =>
      refine fun q hq => ⟨?_, rpt q hq⟩
      rw [hR2] at hq
      simp only [List.mem_cons, List.mem_append] at hq ⊢
      rcases hq with h | h | h | h | h | h | h <;> simp only [h, true_or, or_true]
    case hd => (show dp + 1 + 2 < 900); exact rm2 hd rfl
    case hu => (show un + _ + 5 * 2 < 3000); exact rm2 hu rfl
    clear F12 N13 hPt rpt
    intro f fo cc oc c1 o1 c2 o2 h11 tk11 F16 N16 hPt2 rep ap2
    obtain ⟨Z, hZ⟩ : ∃ Z : List (Addr × Obj), Z = (f, fo) :: (cc, oc) :: (c1, o1) :: (c2, o2) :: ((364 : Addr), tabOne cc) :: R := ⟨_, rfl⟩
    have N17 : News g L' h11 Z := by rw [hZ]; exact N16
    clear N16
    repeat' ((fail_if_success (with_reducible show wpAny _ _ (PySem.call (Value.ref 261) _) _ _ _)); first | (k_unfold; (try dsimp only)) | (k_end; wrow_close) | walk1 | (dsimp only; walk1) | (leave1; walk_say "STEP leave1"; try dsimp only) | fail "no step")
    rename_i dd _ od _ _ _ _ _ _ x d nts q1 q2 q3 _ _ F18 N18 nxd apx
    have zR : ∀ q ∈ R, q ∈ Z := fun q h => hZ ▸ List.mem_append_right [(f, fo), (cc, oc), (c1, o1), (c2, o2), ((364 : Addr), tabOne cc)] h
    have zH : ∀ q ∈ [(f, fo), (cc, oc), (c1, o1), (c2, o2), ((364 : Addr), tabOne cc)], q ∈ Z := fun q h => hZ ▸ List.mem_append_left R h
    have Ral : (al, W.listOf #[] 0) ∈ R := hR2 ▸ .head _
    have RY : ∀ q ∈ Y, q ∈ R := fun q h => hR2 ▸ .tail _ (.tail _ (.tail _ (.tail _ (.tail _ (.tail _ h)))))
    have RD : ∀ q ∈ [(D, W.listOf ys.toArray ys.length), (I, o), (L' + 1 + 1, oa1), (L' + 1, ob), (b, W.listOf #[.int z0 tz0, .int z1 tz1] nz)], q ∈ R := fun q h => hR2 ▸ .tail _ (List.mem_append_left Y h)
    have zx : ∀ q ∈ Z, NeA q.1 x ∧ NeA q.1 d := fun q h => apx q (.tail _ h)
    have Yal : ∀ q ∈ Y, NeA q.1 al := fun q h => NeA.lt (hal5 q (List.mem_append_left _ (List.mem_append_left _ h)))
    have Dal : ∀ q ∈ [(D, W.listOf ys.toArray ys.length), (I, o), (L' + 1 + 1, oa1), (L' + 1, ob), (b, W.listOf #[.int z0 tz0, .int z1 tz1] nz)], NeA q.1 al := fun q h => by
      simp only [List.mem_cons, List.not_mem_nil, or_false] at h
      rcases h with rfl | rfl | rfl | rfl | rfl
      · exact NeA.lt lal1
      · exact NeA.lt lal2
      · exact NeA.lt lal3
      · exact NeA.lt lal4
      · exact NeA.lt (hal5 (b, W.listOf #[.int z0 tz0, .int z1 tz1] nz) (List.mem_append_right _ (.head _)))
    have Hal : ∀ q ∈ [(f, fo), (cc, oc), (c1, o1), (c2, o2), ((364 : Addr), tabOne cc)], NeA q.1 al := fun q h => ap2 q h _ Ral
    obtain ⟨Tb, hTb⟩ : ∃ Tb : List (Addr × Obj), Tb = [((364 : Addr), tabOne cc), (cc, oc)] := ⟨_, rfl⟩
    have TbH : ∀ q ∈ Tb, q ∈ [(f, fo), (cc, oc), (c1, o1), (c2, o2), ((364 : Addr), tabOne cc)] := fun q h => by
      rw [hTb] at h
      simp only [List.mem_cons, List.not_mem_nil, or_false] at h ⊢
      rcases h with h | h <;> simp only [h, true_or, or_true]
    rw [← hTb] at hPt2
    have RTb : ∀ q ∈ R, ∀ r ∈ Tb, NeA q.1 r.1 := fun q h r hr => (ap2 r (TbH r hr) q h).symm
    have kept : ∀ q ∈ (D, W.listOf ys.toArray ys.length) :: (I, o) :: (L' + 1 + 1, oa1) :: (L' + 1, ob) :: (b, W.listOf #[.int z0 tz0, .int z1 tz1] nz) :: (Y ++ Tb), q ∈ Z ∧ NeA q.1 al := fun q hq => by
      rcases List.mem_append.mp (show q ∈ [(D, W.listOf ys.toArray ys.length), (I, o), (L' + 1 + 1, oa1), (L' + 1, ob), (b, W.listOf #[.int z0 tz0, .int z1 tz1] nz)] ++ (Y ++ Tb) from hq) with hq | hq
      · exact ⟨zR q (RD q hq), Dal q hq⟩
      · rcases List.mem_append.mp hq with hq | hq
        · exact ⟨zR q (RY q hq), Yal q hq⟩
        · exact ⟨zH q (TbH q hq), Hal q (TbH q hq)⟩
    obtain ⟨K, hK⟩ : ∃ K : Hk, K = ⟨x, d, f, al, D, .ref dd, nts, q1, q2, q3, [(f, fo), (cc, oc), (c1, o1), (c2, o2)], ys, ys.length, bn⟩ := ⟨_, rfl⟩
    have OK : K.Ok w := by subst hK; exact ⟨rep, hys, nxd, (zx _ (zR _ Ral)).1.symm, (zx _ (zR _ Ral)).2.symm⟩
    have eK : x = K.H ∧ K.bad = bn ∧ K.al = al := by subst hK; exact ⟨rfl, rfl, rfl⟩
    have hol : (ords 0 t).length < 80000 := by omega
    have kY : ∀ q ∈ Y ++ ([(f, fo), (cc, oc), (c1, o1), (c2, o2)] ++ [(D, W.listOf ys.toArray ys.length)]), q ∈ (x, instObj 250 d) :: (d, hdict w f (.ref dd) nts q1 q2 q3) :: (dd, od) :: Z ∧ NeA q.1 K.H ∧ NeA q.1 K.HD ∧ NeA q.1 K.al := by
      subst hK
      intro q hq
      rcases List.mem_append.mp hq with hq | hq
      · exact ⟨.tail _ (.tail _ (.tail _ (zR q (RY q hq)))), (zx q (zR q (RY q hq))).1, (zx q (zR q (RY q hq))).2, Yal q hq⟩
      · rcases List.mem_append.mp hq with hq | hq
        · have hq := List.mem_append_left [((364 : Addr), tabOne cc)] hq
          exact ⟨.tail _ (.tail _ (.tail _ (zH q hq))), (zx q (zH q hq)).1, (zx q (zH q hq)).2, Hal q hq⟩
        · have hq : q ∈ [(D, W.listOf ys.toArray ys.length), (I, o), (L' + 1 + 1, oa1), (L' + 1, ob), (b, W.listOf #[.int z0 tz0, .int z1 tz1] nz)] := by rw [List.mem_singleton.mp hq]; exact .head _
          exact ⟨.tail _ (.tail _ (.tail _ (zR q (RD q hq)))), (zx q (zR q (RD q hq))).1, (zx q (zR q (RD q hq))).2, Dal q hq⟩
    have kT : ∀ q ∈ K.HT, q ∈ Y ++ ([(f, fo), (cc, oc), (c1, o1), (c2, o2)] ++ [(D, W.listOf ys.toArray ys.length)]) := by subst hK; exact fun q hq => List.mem_append_right _ (List.mem_append_left _ hq)
    have kbl : (K.bl, W.listOf K.bs.toArray K.kb) ∈ Y ++ ([(f, fo), (cc, oc), (c1, o1), (c2, o2)] ++ [(D, W.listOf ys.toArray ys.length)]) := by subst hK; exact List.mem_append_right _ (List.mem_append_right _ (.head _))
    have kP : ∀ q ∈ K.led w #[] 0, q ∈ (x, instObj 250 d) :: (d, hdict w f (.ref dd) nts q1 q2 q3) :: (dd, od) :: Z := by
      subst hK
      intro q hq
      simp only [Hk.led, List.mem_cons, List.not_mem_nil, or_false] at hq
      rcases hq with rfl | rfl | rfl
      · exact .head _
      · exact .tail _ (.head _)
      · exact .tail _ (.tail _ (.tail _ (zR _ Ral)))
    have kept2 : ∀ q ∈ (D, W.listOf ys.toArray ys.length) :: (I, o) :: (L' + 1 + 1, oa1) :: (L' + 1, ob) :: (b, W.listOf #[.int z0 tz0, .int z1 tz1] nz) :: (Y ++ Tb), q ∈ (x, instObj 250 d) :: (d, hdict w f (.ref dd) nts q1 q2 q3) :: (dd, od) :: Z ∧ NeA q.1 K.H ∧ NeA q.1 K.HD ∧ NeA q.1 K.al := by
      subst hK
      exact fun q hq => ⟨.tail _ (.tail _ (.tail _ (kept q hq).1)), (zx q (kept q hq).1).1, (zx q (kept q hq).1).2, (kept q hq).2⟩
    have Kled : ∀ as k, K.led w as k = [(x, instObj 250 d), (d, hdict w f (.ref dd) nts q1 q2 q3), (al, W.listOf as k)] := by subst hK; exact fun _ _ => rfl
    obtain ⟨eH, ebad, eal⟩ := eK
    clear hK
    rw [eH]
    have yTb : ∀ q ∈ Y, ∀ r ∈ Tb, NeA q.1 r.1 := fun q h => RTb q (RY q h)
    have dTb : ∀ q ∈ [(D, W.listOf ys.toArray ys.length), (I, o), (L' + 1 + 1, oa1), (L' + 1, ob), (b, W.listOf #[.int z0 tz0, .int z1 tz1] nz)], ∀ r ∈ Tb, NeA q.1 r.1 := fun q h => RTb q (RD q h)
    clear hTb TbH RTb kept Hal Dal Yal zx RD RY Ral zH zR hZ hR2 ap2 apx nxd rep hal5 hoD
    obtain ⟨r, n', hrun, hris⟩ := run_is bn t wf3
    rw [← ebad] at hrun
    have hn1 : n' ≤ 400 := Nat.le_trans (run_n hrun) (by show 0 + _ ≤ _; omega)
    refine' run_led (K := K) (Y := Y ++ ([(f, fo), (cc, oc), (c1, o1), (c2, o2)] ++ [(D, W.listOf ys.toArray ys.length)])) (as := #[]) (ka := 0) OK hrun (by show 0 + _ < 90000; omega) (List.mem_append_left _ ya) (yo.mono fun _ _ h => List.mem_append_left _ h) kY kT kbl B' F18 X' N18 T' rfl rfl kP ?hd ?hu ?_
    case hd => (show dp + 1 + _ < 900); exact rm2 hd rfl
    case hu => (show un + _ + _ < 3000); exact rm2 hu rfl
    intro v h12 tk12 P12 hpost F19 N19 ap19
    obtain ⟨as, ka, O, hO, has, hopt, hv⟩ := law_run hpost hris
    have N20 : News g L' h12 (O ++ ((al, W.listOf as ka) :: (D, W.listOf ys.toArray ys.length) :: (I, o) :: (L' + 1 + 1, oa1) :: (L' + 1, ob) :: (b, W.listOf #[.int z0 tz0, .int z1 tz1] nz) :: (Y ++ Tb))) := N19 _ fun q hq => by
      rcases List.mem_append.mp hq with hq | hq
      · exact .inl (hO q (List.mem_append_left _ hq))
      · rcases List.mem_cons.mp hq with rfl | hq
        · exact .inl (hO _ (eal ▸ List.mem_append_right _ (.head _)))
        · exact .inr (kept2 q hq)
    clear F18 N18 ap19 hpost hO hris hrun N19 kept2 kP kbl kT kY Kled OK
    repeat' ((fail_if_success (with_reducible show wpAny _ _ (PySem.execs (PySem.Stmt.If (PySem.Expr.BoolOp _ _ _) _ _ _ :: _) _) _ _ _)); first | (k_unfold; (try dsimp only)) | (k_end; wrow_close) | walk1 | (dsimp only; walk1) | (leave1; walk_say "STEP leave1"; try dsimp only) | fail "no step")
    rename_i F20 N21
    refine law_join (news' := (al, W.listOf as ka) :: (D, W.listOf ys.toArray ys.length) :: (I, o) :: (L' + 1 + 1, oa1) :: (L' + 1, ob) :: (b, W.listOf #[.int z0 tz0, .int z1 tz1] nz) :: (Y ++ Tb)) F20 N21 ?ifs ?rest
    case ifs =>
      rcases hopt with ⟨rfl, rfl⟩ | ⟨V, S, sv, ks, kg, rfl, rfl⟩
      · rw [List.nil_append] at N21
        k_steps
        exact ⟨rfl, _, _, rfl, (by k_asm), (by k_asm)⟩
      · simp only [List.cons_append, List.nil_append] at N21
        k_steps
        rename_i F22 N22 _
        exact ⟨rfl, _, _, rfl, F22, news_sub N22 fun q hq => .tail _ (.tail _ (.tail _ (.tail _ (.tail _ (hq)))))⟩
    case rest =>
    clear F20 N21
    intro h13 tk13 F20 N20
    repeat' ((fail_if_success (with_reducible show wpAny _ _ (PySem.eval (PySem.Expr.ListComp _ _ _ _) _) _ _ _)); first | (k_unfold; (try dsimp only)) | (k_end; wrow_close) | walk1 | (dsimp only; walk1) | (leave1; walk_say "STEP leave1"; try dsimp only) | fail "no step")
    refine LCt.ListComp_T (F₀ := F20) (by with_unfolding_all rfl) (by decide) (by rfl) (by decide) (by rfl) ?_
    repeat' ((fail_if_success (with_reducible show LCt.CompSrcT _ _ _ _ _ _ _ _ _ _ _ _ _ _ _)); first | (k_unfold; (try dsimp only)) | (k_end; wrow_close) | walk1 | (dsimp only; walk1) | (leave1; walk_say "STEP leave1"; try dsimp only) | fail "no step")
    refine LCt.CompSrcT.ledger (k := ys.length) rfl F20 N20 (.tail _ (.head _)) (by rw [List.size_toArray, hys.length, sizeLine_eq]; omega) ?_
    intro g'
    refine filt_rest (N := n') (ns := bn) rfl (.inr ⟨_, .tail _ (.head _), rfl, _, rfl⟩) (by simpa using hys) rfl (fun _ => rfl) (by decide) ?test ?hFin _ 0 [] (Nat.zero_add _) (by simp)
    case test =>
      clear F20 N20
      intro k tk0 I2 oI2 C2 oC2 D2 m2 h20 tk20 E2 ys2 hkn hC2 hv2 F22 N23 off3 ne3 Q hQ
      k_steps
      exact hQ _ _ F22 N23
    case hFin =>
    intro ys2 hys2
    try dsimp only
    intro D3 h21 tk21 F23 N24 oD3
    clear oD3 F20 N20
    try dsimp only
    repeat' ((fail_if_success (with_reducible show wpAny _ _ (PySem.compareOp PySem.CmpOp.NotEq _ _) _ _ _)); first | (k_unfold; (try dsimp only)) | (k_end; wrow_close) | walk1 | (dsimp only; walk1) | (leave1; walk_say "STEP leave1"; try dsimp only) | fail "no step")
    rename_i l2 _ F25 N25 _
    have N26 : News g L' _ ((al, W.listOf as ka) :: (D, W.listOf ys.toArray ys.length) :: (I, o) :: (L' + 1 + 1, oa1) :: (L' + 1, ob) :: (b, W.listOf #[.int z0 tz0, .int z1 tz1] nz) :: (Y ++ Tb)) := news_sub N25 fun q hq => .tail _ (.tail _ hq)
    refine ne_nilB N25 (.tail _ (.head _)) (.head _) ?hu9 ?_
    case hu9 => show un + _ < 9900; omega
    clear N25
    intro fb hfb
    repeat' ((fail_if_success (with_reducible show wpAny _ _ (PySem.call (Value.ref 362) _) _ _ _)); first | (k_unfold; (try dsimp only)) | (k_end; wrow_close) | walk1 | (dsimp only; walk1) | (leave1; walk_say "STEP leave1"; try dsimp only) | fail "no step")
    rename_i F27 N27
    refine' neg_led (t := t) (yt.mono fun a o h => .tail _ (.tail _ (.tail _ (.tail _ (.tail _ (.tail _ (List.mem_append_left _ h))))))) (Nat.le_trans sz3 (by decide)) B' F27 X' N27 T' rfl rfl ?hd ?hu ?_
    case hd => (show dp + 1 + _ < 900); exact rm2 hd rfl
    case hu => (show un + _ + _ < 3000); exact rm2 hu rfl
    intro u h22 tk22 F28 N28
    clear F27 N27
    repeat' ((fail_if_success (with_reducible show wpAny _ _ (PySem.compareOp PySem.CmpOp.Eq _ _) _ _ _)); first | (k_unfold; (try dsimp only)) | (k_end; wrow_close) | walk1 | (dsimp only; walk1) | (leave1; walk_say "STEP leave1"; try dsimp only) | fail "no step")
    by_cases hn : t.negs = 0
    · rw [hn]
      refine eq_intB true rfl ?_
      repeat' ((fail_if_success (with_reducible show wpAny _ _ (PySem.execs (PySem.Stmt.If (PySem.Expr.BoolOp _ _ _) _ _ _ :: _) _) _ _ _)); first | (k_unfold; (try dsimp only)) | (k_end; wrow_close) | walk1 | (dsimp only; walk1) | (leave1; walk_say "STEP leave1"; try dsimp only) | fail "no step")
      refine law_join (news' := (al, W.listOf as ka) :: (D, W.listOf ys.toArray ys.length) :: (I, o) :: (L' + 1 + 1, oa1) :: (L' + 1, ob) :: (b, W.listOf #[.int z0 tz0, .int z1 tz1] nz) :: (Y ++ Tb)) F28 N28 ?ifs ?rest
      case ifs =>
        rcases hv with ⟨rfl, hp⟩ | ⟨⟨a, rfl⟩, hfr⟩
        · obtain ⟨j, ej, hj⟩ := hp hn
          have e1 : fb = true := hfb.mpr fun e => hys2.mp e j hj (by omega)
          subst e1
          repeat' ((fail_if_success (with_reducible show wpAny _ _ (PySem.compareOp PySem.CmpOp.NotIn _ _) _ _ _)); first | (k_unfold; (try dsimp only)) | (k_end; wrow_close) | walk1 | (dsimp only; walk1) | (leave1; walk_say "STEP leave1"; try dsimp only) | fail "no step")
          refine notin_ints N28 (.tail _ (.head _)) hys (by have e : ((n' : Nat) : Int) - 1 = (j : Int) := by { rw [ej]; omega }; rw [e]; exact hj) ?_
          k_steps
          exact ⟨rfl, _, _, rfl, F28, N28⟩
        · have e1 : fb = false := by
            cases fb with
            | false => rfl
            | true => exact absurd (hys2.mpr fun k hk hlt => hfr hn k.toNat (Nat.zero_le _) (by have := hbn0 k hk; omega) (by rw [Int.toNat_of_nonneg (hbn0 k hk)]; exact hk)) (hfb.mp rfl)
          subst e1
          k_steps
          exact ⟨rfl, _, _, rfl, F28, N28⟩
      case rest =>
      clear F28 N28
      intro h26 tk26 F28 N28
      repeat' ((fail_if_success (with_reducible show wpAny _ _ (PySem.call (Value.ref 376) _) _ _ _)); first | (k_unfold; (try dsimp only)) | (k_end; wrow_close) | walk1 | (dsimp only; walk1) | (leave1; walk_say "STEP leave1"; try dsimp only) | fail "no step")
      refine' heights_led (plain_ords t wf3 hn) hol hPt2 ya yo hcd (fun q h => ⟨.tail _ (.tail _ (.tail _ (.tail _ (.tail _ (.tail _ (List.mem_append_left _ h)))))), yTb q h⟩) B' F28 X' N28 T' rfl rfl (fun q h => .tail _ (.tail _ (.tail _ (.tail _ (.tail _ (.tail _ (List.mem_append_right _ h))))))) ?hd ?hu ?_
      case hd => (show dp + 1 + _ < 900); exact rm2 hd rfl
      case hu => (show un + _ + _ < 3000); exact rm2 hu rfl
      intro u2 h23 tk23 Pt3 hPt3 F29 N29 ap3
      have N30 : News g L' h23 ((I, o) :: (L' + 1 + 1, oa1) :: (L' + 1, ob) :: (b, W.listOf #[.int z0 tz0, .int z1 tz1] nz) :: (Y ++ Pt3)) := N29 _ fun q hq => by
        rcases List.mem_append.mp (show q ∈ [(I, o), (L' + 1 + 1, oa1), (L' + 1, ob), (b, W.listOf #[.int z0 tz0, .int z1 tz1] nz)] ++ (Y ++ Pt3) from hq) with hq | hq
        · exact .inr ⟨.tail _ (.tail _ (List.mem_append_left _ hq)), dTb q (.tail _ hq)⟩
        · rcases List.mem_append.mp hq with hq | hq
          · exact .inr ⟨.tail _ (.tail _ (.tail _ (.tail _ (.tail _ (.tail _ (List.mem_append_left _ hq)))))), yTb q hq⟩
          · exact .inl hq
      have dPt : ∀ q ∈ [(I, o), (L' + 1 + 1, oa1), (L' + 1, ob), (b, W.listOf #[.int z0 tz0, .int z1 tz1] nz)], ∀ r ∈ Pt3, NeA q.1 r.1 := fun q hq r hr => (ap3 r hr q (.tail _ (.tail _ (List.mem_append_left _ hq))) (dTb q (.tail _ hq))).symm
      clear N29 ap3 F28 N28
      repeat' ((fail_if_success (with_reducible show wpAny _ _ (PySem.call (Value.ref 331) _) _ _ _)); first | (k_unfold; (try dsimp only)) | (k_end; wrow_close) | walk1 | (dsimp only; walk1) | (leave1; walk_say "STEP leave1"; try dsimp only) | fail "no step")
      refine' depth_led (news := (I, o) :: (L' + 1 + 1, oa1) :: (L' + 1, ob) :: (b, W.listOf #[.int z0 tz0, .int z1 tz1] nz) :: (Y ++ Pt3)) (.tail _ (.tail _ (.tail _ (.tail _ (List.mem_append_left _ ya))))) (yo.mono fun a o h => .tail _ (.tail _ (.tail _ (.tail _ (List.mem_append_left _ h))))) B' F29 X' N30 T' rfl rfl ?hd ?hu ?_
      case hd => (show dp + 1 + _ < 900); exact rm2 hd rfl
      case hu => (show un + _ + _ < 3000); exact rm2 hu rfl
      intro u3 h24 tk24 F31 N31
      repeat' ((fail_if_success (with_reducible show wpAny _ _ (PySem.compareOp PySem.CmpOp.NotEq (Value.int _ _) (Value.int _ _)) _ _ _)); first | (k_unfold; (try dsimp only)) | (k_end; wrow_close) | walk1 | (dsimp only; walk1) | (leave1; walk_say "STEP leave1"; try dsimp only) | fail "no step")
      refine ne_self ?_
      k_steps
      exact law_end (L := L') F31 N31 (fun q hq => (List.mem_append.mp (show q ∈ [(I, o), (L' + 1 + 1, oa1), (L' + 1, ob), (b, W.listOf #[.int z0 tz0, .int z1 tz1] nz)] ++ Pt3 from hq)).elim (fun hq => List.mem_append_left _ hq) (fun hq => .tail _ (.tail _ (.tail _ (.tail _ (List.mem_append_right _ hq)))))) Ib Ica Icb hob hoa1 hPt3 dPt hz0 hz1n hz1b
    · refine eq_intB false (beq_eq_false_iff_ne.mpr (by omega)) ?_
      k_steps
      exact law_end (L := L') F28 N28 (fun q hq => (List.mem_append.mp (show q ∈ [(I, o), (L' + 1 + 1, oa1), (L' + 1, ob), (b, W.listOf #[.int z0 tz0, .int z1 tz1] nz)] ++ Tb from hq)).elim (fun hq => .tail _ (.tail _ (List.mem_append_left _ hq))) (fun hq => .tail _ (.tail _ (.tail _ (.tail _ (.tail _ (.tail _ (List.mem_append_right _ hq)))))))) Ib Ica Icb hob hoa1 hPt2 (fun q hq => dTb q (.tail _ hq)) hz0 hz1n hz1b
  · intro h' tk' m' news' F' N' hJ
    obtain ⟨x0, x1, t0, t1, n, oa, ob, Pt, rfl, _, _, hPt, _⟩ := hJ
    clear hJ0 IT
    have N4 : News g L' h' Pt := news_sub N' fun q hq => .tail _ (.tail _ (.tail _ hq))
    clear N'
    k_steps
    (show Done _ _ _ _ _)
    exact ⟨_, _, _, (by k_asm), (by k_asm), ⟨rfl, hPt⟩, rfl⟩
set_option maxHeartbeats 40000000 in
theorem Mine.law_holds : PySem.Challenge.rw_nz0409_01.Holds := Mine.hd (by
  k_fill
  intro w s₀ s₁ mg mb G Y fa o pm cd doc dV kV ho hd hcd hD hmg hg args vals as hpre hlay hrd hwl hlo
  have KX := km_in_of Y
  km_tabs Y
  have X := (Ground.X G).1
  have V := (Ground.X G).2
  refine Ground.open G ?_
  intro T B D TE TW
  try (refine guard_noD D (by decide +kernel) ?_; clear D)
  km_lay T hmg ho hd cd
  clear hcd hd ho
  wrow_args hpre hlay hrd hwl hlo
  all_goals (
    first | refine callC_kw (enter_call ?_) | refine enter_call ?_)
  w_top on
  clear hD G Y
  rename_i ns _ _ _ _ _ _ _ ax vs _ hls _ _ _ hi _ hlen _
  obtain rfl : fa = 381 := by
    have e1 := mg_of KX T.g (show nsIn (Mine.hd.heap_39 w.params) mainGlobals (Str.ofString "law") = some (some (.ref 381)) by k_is)
    have e2 := hmg
    rw [show mg _ = some (.ref 381) from e1] at e2
    cases e2; rfl
  clear hmg
  have FSL := law_fs (w := w) ax vs ns hi (by omega)
  refine kn_post (tabs := [(368, 364)]) hT9 (fun _ _ => rfl) ?_
  refine FSL (1 + claimMargin) 4 (some []) [] (ghostOf s₁.heap [(368, 364)]) (ghostOf s₁.heap [(368, 364)]) s₁ _ ?rd ⟨ghost_list hT9 hls, (ghost_code hT9).1⟩ ?d1 ?d2 ?back
  case d1 => show 1 + 300 + 450 < 900; decide
  case d2 => decide
  case rd =>
    refine ⟨ghost_below hT9, ghost_K hT9 KX (by kernel_rfl), ⟨_, _, _, _, _, ghost_top hT9 T⟩, fun b o e => of_hideAll _ e, Nat.le_of_eq (hideAll_size _ _), fun q hq => ?_⟩
    rw [List.mem_singleton.mp hq]; exact ⟨(hT9 _ (.head _)).2, hideAll_none _ (.head _)⟩
  case back =>
    rintro r h' tk' P' hk hl ⟨rfl, hPt⟩
    refine ⟨⟨.inl ⟨_, .bool true, [], rfl, fun _ => rfl, .bool true, ?post, unshared_nil⟩, hk, rfl, hg⟩, ?_, trivial⟩
    case post => first | exact postW_of rfl rfl rfl | exact postW_of (by rfl) (by wtm_val) (by rfl) | rfl
    · rcases hPt with rfl | ⟨cc, oc, vs, t, rfl, _⟩
      · exact ⟨_, (hl _ (.head _)).1⟩
      · exact ⟨_, (hl _ (.head _)).1⟩)
theorem PySem.Challenge.cw_nz0409_01_holds : PySem.Challenge.rw_nz0409_01.Holds :=
  Mine.law_holds
