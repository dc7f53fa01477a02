import PyProof.Rows.All
import Wide.All
import OpenK.AllK
import Wide.FinOn
import Lean
import PySem.Challenge.RW_nz0481_01
open PySem PySem.W PyProof.Rows PySem.Spec PySem.Calls
set_option Elab.async false
set_option maxRecDepth 100000
set_option maxHeartbeats 8000000
set_option linter.unusedVariables false
set_option linter.unusedSimpArgs false
namespace Mine
end Mine
theorem PySem.W.Fast.tw11588390666370768167 : True := trivial
theorem PySem.W.Fast.tw2644678379406271605 : True := trivial
theorem PySem.W.Fast.tw10073347824450446311 : True := trivial
theorem PySem.W.Fast.tw13640514254501968386 : True := trivial
theorem PySem.W.Fast.tw16593013826814733010 : True := trivial
theorem PySem.W.Fast.tw16439824349840649037 : True := trivial
theorem PySem.W.Fast.tw13678640442995254988 : True := trivial
theorem PySem.W.Fast.tw10887116778572429059 : True := trivial
theorem PySem.W.Fast.tw17672482021469178181 : True := trivial
theorem PySem.W.Fast.tw17018628822417861297 : True := trivial
theorem PySem.W.Fast.tw17730448691065144110 : True := trivial
theorem PySem.W.Fast.tw6792406925840432001 : True := trivial
theorem PySem.W.Fast.tw6363645014702824404 : True := trivial
theorem PySem.W.Fast.tw6380047634161181297 : True := trivial
theorem PySem.W.Fast.tw9908251947323293946 : True := trivial
theorem PySem.W.Fast.tw3362959441861295915 : True := trivial
theorem PySem.W.Fast.tw9951705424602377420 : True := trivial
theorem PySem.W.Fast.tw14224011070414065920 : True := trivial
theorem PySem.W.Fast.tw7401281599722004195 : True := trivial
theorem PySem.W.Fast.tw17279654841073493023 : True := trivial
theorem PySem.W.Fast.tw3093977132361051618 : True := trivial
theorem PySem.W.Fast.tw4039474712603431140 : True := trivial
theorem PySem.W.Fast.tw11566699232636054958 : True := trivial
theorem PySem.W.Fast.tw17001327861769816259 : True := trivial
theorem PySem.W.Fast.tw2315820567201803617 : True := trivial
theorem PySem.W.Fast.tw9626621113073979434 : True := trivial
theorem PySem.W.Fast.tw1772237422875290029 : True := trivial
theorem PySem.W.Fast.tw470574548607681690 : True := trivial
theorem PySem.W.Fast.tw10323183001455561277 : True := trivial
theorem PySem.W.Fast.tw9862997608875712007 : True := trivial
theorem PySem.W.Fast.tw3094477031063562474 : True := trivial
theorem PySem.W.Fast.tw17274371674624000324 : True := trivial
theorem PySem.W.Fast.tw14896874001708588922 : True := trivial
theorem PySem.W.Fast.tw16413264400604254196 : True := trivial
theorem PySem.W.Fast.tw3282434896037501709 : True := trivial
theorem PySem.W.Fast.tw1414301608579184545 : True := trivial
theorem PySem.W.Fast.tw12945451867199242903 : True := trivial
theorem PySem.W.Fast.tw14537914154153760125 : True := trivial
theorem PySem.W.Fast.tw1735497430108182060 : True := trivial
theorem PySem.W.Fast.tw17863021456227041891 : True := trivial
theorem PySem.W.Fast.tw12371321757623732685 : True := trivial
theorem PySem.W.Fast.tw1333364371103165705 : True := trivial
theorem PySem.W.Fast.tw3470799630455053000 : True := trivial
theorem PySem.W.Fast.tw16018607276475445134 : True := trivial
theorem PySem.W.Fast.tw1829445100760108279 : True := trivial
theorem PySem.W.Fast.tw8075568018651887793 : True := trivial
theorem PySem.W.Fast.tw14553827428707814869 : True := trivial
theorem PySem.W.Fast.tw5557055217656661889 : True := trivial
theorem PySem.W.Fast.tw15079194523842364033 : True := trivial
theorem PySem.W.Fast.tw15376083050721069600 : True := trivial
theorem PySem.W.Fast.tw10528696920762540405 : True := trivial
theorem PySem.W.Fast.tw5721027456603625697 : True := trivial
theorem PySem.W.Fast.tw3560238982266916124 : True := trivial
theorem PySem.W.Fast.tw9676229304581654039 : True := trivial
theorem PySem.W.Fast.tw5529568453561195837 : True := trivial
theorem PySem.W.Fast.tw15450981722951097364 : True := trivial
theorem PySem.W.Fast.tw6711915476519705758 : True := trivial
theorem PySem.W.Fast.tw5701610774189311196 : True := trivial
theorem PySem.W.Fast.tw8376752744543775738 : True := trivial
theorem PySem.W.Fast.tw1620339239838986703 : True := trivial
theorem PySem.W.Fast.tw9467589175468403638 : True := trivial
theorem PySem.W.Fast.tw17846936440860909165 : True := trivial
theorem PySem.W.Fast.tw951843321253372498 : True := trivial
theorem PySem.W.Fast.tw5823794197072137003 : True := trivial
theorem PySem.W.Fast.tw6135381517318000843 : True := trivial
theorem PySem.W.Fast.tw4933834842325187142 : True := trivial
theorem PySem.W.Fast.tw11788150170368784547 : True := trivial
theorem PySem.W.Fast.tw11420187438672877268 : True := trivial
theorem PySem.W.Fast.tw9396933662098498411 : True := trivial
theorem PySem.W.Fast.tw17164873540382356111 : True := trivial
theorem PySem.W.Fast.tw1617757218408452269 : True := trivial
theorem PySem.W.Fast.tw9376109419431680627 : True := trivial
theorem PySem.W.Fast.tw13912434898499826684 : True := trivial
theorem PySem.W.Fast.tw11277716924127702174 : True := trivial
theorem PySem.W.Fast.tw4319705520415482375 : True := trivial
theorem PySem.W.Fast.tw16494616584097029746 : True := trivial
theorem PySem.W.Fast.tw13981391230805400906 : True := trivial
theorem PySem.W.Fast.tw608726401823008365 : True := trivial
theorem PySem.W.Fast.tw7269565832213808900 : True := trivial
theorem PySem.W.Fast.tw10948738476641704880 : True := trivial
theorem PySem.W.Fast.tw8206430501311747189 : True := trivial
theorem PySem.W.Fast.tw15348362524478657138 : True := trivial
theorem PySem.W.Fast.tw6122645084068987007 : True := trivial
theorem PySem.W.Fast.tw3105397867545767578 : True := trivial
theorem PySem.W.Fast.tw11180087187355611001 : True := trivial
theorem PySem.W.Fast.tw16643706677886111943 : True := trivial
theorem PySem.W.Fast.tw7783732958741208154 : True := trivial
theorem PySem.W.Fast.tw7581352650102555174 : True := trivial
theorem PySem.W.Fast.tw11636919720809706868 : True := trivial
theorem PySem.W.Fast.tw2670528217467546775 : True := trivial
theorem PySem.W.Fast.tw15919542637913265678 : True := trivial
theorem PySem.W.Fast.tw13607416678640721797 : True := trivial
theorem PySem.W.Fast.tw15806122291839087668 : True := trivial
theorem PySem.W.Fast.tw8555734327229750603 : True := trivial
theorem PySem.W.Fast.tw18345786424863182364 : True := trivial
theorem PySem.W.Fast.tw17537794083376710389 : True := trivial
theorem PySem.W.Fast.tw5706481520468235054 : True := trivial
theorem PySem.W.Fast.tw14326252917377295143 : True := trivial
theorem PySem.W.Fast.tw7250012664060256230 : True := trivial
theorem PySem.W.Fast.tw18260038339965228139 : True := trivial
theorem PySem.W.Fast.tw8727135674562949291 : True := trivial
theorem PySem.W.Fast.tw12177639751122801600 : True := trivial
theorem PySem.W.Fast.tw6448080314894763839 : True := trivial
theorem PySem.W.Fast.tw13789449189825218787 : True := trivial
theorem PySem.W.Fast.tw2334299552400917057 : True := trivial
theorem PySem.W.Fast.tw2210778516479634661 : True := trivial
theorem PySem.W.Fast.tw18220123701641295943 : True := trivial
theorem PySem.W.Fast.tw15195428891847259777 : True := trivial
theorem PySem.W.Fast.tw7098571738820278039 : True := trivial
theorem PySem.W.Fast.tw18211773271919218964 : True := trivial
theorem PySem.W.Fast.tw8579058602437062094 : True := trivial
theorem PySem.W.Fast.tw15112985482279097393 : True := trivial
theorem PySem.W.Fast.tw17532718790514356516 : True := trivial
theorem PySem.W.Fast.tw5357591511691535388 : True := trivial
theorem PySem.W.Fast.tw6679490504615227074 : True := trivial
theorem PySem.W.Fast.tw5032809538720368765 : True := trivial
theorem PySem.W.Fast.tw3039592710220408265 : True := trivial
theorem PySem.W.Fast.tw9800571698397750058 : True := trivial
theorem PySem.W.Fast.tw9787463984185863102 : True := trivial
theorem PySem.W.Fast.tw2611137233208623240 : True := trivial
theorem PySem.W.Fast.tw11705733892432689576 : True := trivial
theorem PySem.W.Fast.tw13512673800721320934 : True := trivial
theorem PySem.W.Fast.tw5189142188285759775 : True := trivial
theorem PySem.W.Fast.tw17476080006546285661 : True := trivial
theorem PySem.W.Fast.tw9011979029575296479 : True := trivial
theorem PySem.W.Fast.tw2660918139993853925 : True := trivial
theorem PySem.W.Fast.tw2862820112641550484 : True := trivial
theorem PySem.W.Fast.tw8860024209350480642 : True := trivial
theorem PySem.W.Fast.tw2599325451414397859 : True := trivial
theorem PySem.W.Fast.tw17434858337260393937 : True := trivial
theorem PySem.W.Fast.tw11013792430000457035 : True := trivial
theorem PySem.W.Fast.tw6059929106960060952 : True := trivial
theorem PySem.W.Fast.tw11892598404827812706 : True := trivial
theorem PySem.W.Fast.tw932993149863042379 : True := trivial
theorem PySem.W.Fast.tw8719427161674164953 : True := trivial
theorem PySem.W.Fast.tw9529234661008812162 : True := trivial
theorem PySem.W.Fast.tw5396446701170858492 : True := trivial
theorem PySem.W.Fast.tw3424931102881643321 : True := trivial
theorem PySem.W.Fast.tw1537898542681612871 : True := trivial
theorem PySem.W.Fast.tw15034313371233782410 : True := trivial
theorem PySem.W.Fast.tw6683783046931543321 : True := trivial
theorem PySem.W.Fast.tw9315938663221665524 : True := trivial
theorem PySem.W.Fast.tw11306939235166856333 : True := trivial
theorem PySem.W.Fast.tw9407582987413476825 : True := trivial
theorem PySem.W.Fast.tw7299303143086499733 : True := trivial
theorem PySem.W.Fast.tw2354101950205528012 : True := trivial
theorem PySem.W.Fast.tw4658958612460137192 : True := trivial
theorem PySem.W.Fast.tw10996506086634736982 : True := trivial
theorem PySem.W.Fast.tw1156252341971683116 : True := trivial
theorem PySem.W.Fast.tw15894407043143930727 : True := trivial
theorem PySem.W.Fast.tw12635813782599140982 : True := trivial
theorem PySem.W.Fast.tw16916688483869632129 : True := trivial
theorem PySem.W.Fast.tw5978237884098788730 : True := trivial
theorem PySem.W.Fast.tw5076957145309523181 : True := trivial
theorem PySem.W.Fast.tw11108263761283441063 : True := trivial
theorem PySem.W.Fast.tw8693227569615203950 : True := trivial
theorem PySem.W.Fast.tw12237943961548833269 : True := trivial
theorem PySem.W.Fast.tw8450942572126056277 : True := trivial
theorem PySem.W.Fast.tw9931943479562821362 : True := trivial
theorem PySem.W.Fast.tw8603108125212654177 : True := trivial
theorem PySem.W.Fast.tw16519947266957812712 : True := trivial
theorem PySem.W.Fast.tw6662432510661729299 : True := trivial
theorem PySem.W.Fast.tw16241802466949684156 : True := trivial
theorem PySem.W.Fast.tw18101931140130867144 : True := trivial
theorem PySem.W.Fast.tw7009043117176579089 : True := trivial
theorem PySem.W.Fast.tw11964429278604863157 : True := trivial
theorem PySem.W.Fast.tw9674257727999782656 : True := trivial
theorem PySem.W.Fast.tw8753696776887207221 : True := trivial
theorem PySem.W.Fast.tw10007627690174824804 : True := trivial
theorem PySem.W.Fast.tw10833955939284561965 : True := trivial
theorem PySem.W.Fast.tw7275051467321613617 : True := trivial
theorem PySem.W.Fast.tw6817277305950994716 : True := trivial
theorem PySem.W.Fast.tw1370275717833778536 : True := trivial
theorem PySem.W.Fast.tw14979626087600564940 : True := trivial
theorem PySem.W.Fast.tw387338674003428930 : True := trivial
theorem PySem.W.Fast.tw13215998728584607739 : True := trivial
theorem PySem.W.Fast.tw5200128776193632040 : True := trivial
theorem PySem.W.Fast.tw8796240567053077481 : True := trivial
theorem PySem.W.Fast.tw14311459727803291754 : True := trivial
theorem PySem.W.Fast.tw4011157648589011858 : True := trivial
theorem PySem.W.Fast.tw8595292554425487202 : True := trivial
theorem PySem.W.Fast.tw460243522976405022 : True := trivial
theorem PySem.W.Fast.tw6434138532213402376 : True := trivial
theorem PySem.W.Fast.tw11853533878840232495 : True := trivial
theorem PySem.W.Fast.tw15423634916342008072 : True := trivial
theorem PySem.W.Fast.tw15823609455315575823 : True := trivial
theorem PySem.W.Fast.tw558745408833754511 : True := trivial
theorem PySem.W.Fast.tw17069979004554194336 : True := trivial
theorem PySem.W.Fast.tw14073706353221006472 : True := trivial
theorem PySem.W.Fast.tw3209381107111851631 : True := trivial
theorem PySem.W.Fast.tw11333186260410459676 : True := trivial
theorem PySem.W.Fast.tw12659028871203227004 : True := trivial
theorem PySem.W.Fast.tw7286323032743288035 : True := trivial
theorem PySem.W.Fast.tw4679858250743294509 : True := trivial
theorem PySem.W.Fast.tw4636218855388986860 : True := trivial
theorem PySem.W.Fast.tw13759679279233594173 : True := trivial
theorem PySem.W.Fast.tw11452132507678324671 : True := trivial
theorem PySem.W.Fast.tw10919533547850550483 : True := trivial
theorem PySem.W.Fast.tw13776390136698705113 : True := trivial
theorem PySem.W.Fast.tw7232422423428716515 : True := trivial
theorem PySem.W.Fast.tw7892128664451923741 : True := trivial
theorem PySem.W.Fast.tw2711585505577850959 : True := trivial
theorem PySem.W.Fast.tw2478078296215019888 : True := trivial
theorem PySem.W.Fast.tw17300597898927385350 : True := trivial
theorem PySem.W.Fast.tw378412475510648054 : True := trivial
theorem PySem.W.Fast.tw11863081143760314161 : True := trivial
theorem PySem.W.Fast.tw4527066259768149269 : True := trivial
theorem PySem.W.Fast.tw682011567655089306 : True := trivial
theorem PySem.W.Fast.tw16869277618539721502 : True := trivial
theorem PySem.W.Fast.tw11445135464325071761 : True := trivial
theorem PySem.W.Fast.tw1055568401681811165 : True := trivial
theorem PySem.W.Fast.tw16846860572762119324 : True := trivial
theorem PySem.W.Fast.tw17532440430192770315 : True := trivial
theorem PySem.W.Fast.tw6722154040420286063 : True := trivial
theorem PySem.W.Fast.tw13987355940573415152 : True := trivial
theorem PySem.W.Fast.tw3315324234476444515 : True := trivial
theorem PySem.W.Fast.tw313226197891681235 : True := trivial
theorem PySem.W.Fast.tw3152983702415266003 : True := trivial
theorem PySem.W.Fast.tw5882768191206486792 : True := trivial
theorem PySem.W.Fast.tw1402947280878808549 : True := trivial
theorem PySem.W.Fast.tw12450158673883907302 : True := trivial
theorem PySem.W.Fast.tw12233582284571471492 : True := trivial
theorem PySem.W.Fast.tw3172643391324946463 : True := trivial
theorem PySem.W.Fast.tw4302124980754421698 : True := trivial
theorem PySem.W.Fast.tw11682084944484805031 : True := trivial
theorem PySem.W.Fast.tw3442601649717412197 : True := trivial
theorem PySem.W.Fast.tw721709456127091705 : True := trivial
theorem PySem.W.Fast.tw5135500740108067664 : True := trivial
theorem PySem.W.Fast.tw14210447440969649564 : True := trivial
theorem PySem.W.Fast.tw4978915544186085027 : True := trivial
theorem PySem.W.Fast.tw11462045893675790159 : True := trivial
theorem PySem.W.Fast.tw2719445374943340272 : True := trivial
theorem PySem.W.Fast.tw14333388528381170442 : True := trivial
theorem PySem.W.Fast.tw16966814322356759819 : True := trivial
theorem PySem.W.Fast.tw1218959903707654005 : True := trivial
theorem PySem.W.Fast.tw17730428716208468724 : True := trivial
theorem PySem.W.Fast.tw9151444980202551346 : True := trivial
theorem PySem.W.Fast.tw11707433790658880453 : True := trivial
theorem PySem.W.Fast.tw5925582254088234700 : True := trivial
theorem PySem.W.Fast.tw12393455550290869266 : True := trivial
theorem PySem.W.Fast.tw11729385059970357855 : True := trivial
theorem PySem.W.Fast.tw11994158751524154303 : True := trivial
theorem PySem.W.Fast.tw4980102563643897964 : True := trivial
theorem PySem.W.Fast.tw6009246885244113885 : True := trivial
theorem PySem.W.Fast.tw15323854079317868165 : True := trivial
theorem PySem.W.Fast.tw1291980286583624508 : True := trivial
theorem PySem.W.Fast.tw667198328695590252 : True := trivial
theorem PySem.W.Fast.tw15766043655864335149 : True := trivial
theorem PySem.W.Fast.tw4552823106982906706 : True := trivial
theorem PySem.W.Fast.tw15542503528162795033 : True := trivial
theorem PySem.W.Fast.tw6550987210724342151 : True := trivial
theorem PySem.W.Fast.tw17057272898397164401 : True := trivial
theorem PySem.W.Fast.tw7788680626742099145 : True := trivial
theorem PySem.W.Fast.tw10205541121877940668 : True := trivial
theorem PySem.W.Fast.tw15480198773659482676 : True := trivial
theorem PySem.W.Fast.tw724751600484774222 : True := trivial
theorem PySem.W.Fast.tw6654550962395885724 : True := trivial
theorem PySem.W.Fast.tw7276740287692124622 : True := trivial
theorem PySem.W.Fast.tw1258717718454355964 : True := trivial
theorem PySem.W.Fast.tw8703263022893421829 : True := trivial
theorem PySem.W.Fast.tw392140993173905013 : True := trivial
theorem PySem.W.Fast.tw15475462885187679331 : True := trivial
theorem PySem.W.Fast.tw6245536207120538393 : True := trivial
theorem PySem.W.Fast.tw3118938333895590913 : True := trivial
theorem PySem.W.Fast.tw6434265647005701932 : True := trivial
theorem PySem.W.Fast.tw15560500314895047343 : True := trivial
theorem PySem.W.Fast.tw18340240734955500558 : True := trivial
theorem PySem.W.Fast.tw662354867322794072 : True := trivial
theorem PySem.W.Fast.tw2460228577881660442 : True := trivial
theorem PySem.W.Fast.tw5518745428033880147 : True := trivial
theorem PySem.W.Fast.tw17100903815162463580 : True := trivial
theorem PySem.W.Fast.tw16792545251062261874 : True := trivial
theorem PySem.W.Fast.tw3636048126100218174 : True := trivial
theorem PySem.W.Fast.tw18056578402003937789 : True := trivial
theorem PySem.W.Fast.tw5697894365363955025 : True := trivial
theorem PySem.W.Fast.tw9759809726879904816 : True := trivial
theorem PySem.W.Fast.tw282004115355043989 : True := trivial
theorem PySem.W.Fast.tw14714103240675001986 : True := trivial
theorem PySem.W.Fast.tw1962928258387122110 : True := trivial
theorem PySem.W.Fast.tw14112274594779413971 : True := trivial
theorem PySem.W.Fast.tw17828083071136270317 : True := trivial
theorem PySem.W.Fast.tw13002492023102617099 : True := trivial
theorem PySem.W.Fast.tw9763268239775435451 : True := trivial
theorem PySem.W.Fast.tw4407734736301137906 : True := trivial
theorem PySem.W.Fast.tw6589095468515690095 : True := trivial
theorem PySem.W.Fast.tw1706496860858754268 : True := trivial
theorem PySem.W.Fast.tw12329403913580668285 : True := trivial
theorem PySem.W.Fast.tw16817318245366136608 : True := trivial
theorem PySem.W.Fast.tw16414604833108395602 : True := trivial
theorem PySem.W.Fast.tw10029231156530900338 : True := trivial
theorem PySem.W.Fast.tw10453232257043877786 : True := trivial
theorem PySem.W.Fast.tw7504490480230193789 : True := trivial
theorem PySem.W.Fast.tw7094674258960923220 : True := trivial
theorem PySem.W.Fast.tw8376441433122354887 : True := trivial
theorem PySem.W.Fast.tw8424611434330503625 : True := trivial
theorem PySem.W.Fast.tw11939915149646268982 : True := trivial
theorem PySem.W.Fast.tw16741492637210864865 : True := trivial
theorem PySem.W.Fast.tw3577408171920636059 : True := trivial
theorem PySem.W.Fast.tw8989982439271903415 : True := trivial
theorem PySem.W.Fast.tw12813236842856870187 : True := trivial
theorem PySem.W.Fast.tw3264259588550801142 : True := trivial
theorem PySem.W.Fast.tw13145125596335152023 : True := trivial
theorem PySem.W.Fast.tw11838138170533393997 : True := trivial
theorem PySem.W.Fast.tw10314498396905981064 : True := trivial
theorem PySem.W.Fast.tw13254397897704925713 : True := trivial
theorem PySem.W.Fast.tw13141144453892091621 : True := trivial
theorem PySem.W.Fast.tw1092655722715705105 : True := trivial
theorem PySem.W.Fast.tw7323676302269181137 : True := trivial
theorem PySem.W.Fast.tw7650934615059315214 : True := trivial
theorem PySem.W.Fast.tw4071324889030633612 : True := trivial
theorem PySem.W.Fast.tw4392076818467891588 : True := trivial
theorem PySem.W.Fast.tw9564595351457756722 : True := trivial
theorem PySem.W.Fast.tw15263041282635125899 : True := trivial
theorem PySem.W.Fast.tw6929956602132211858 : True := trivial
theorem PySem.W.Fast.tw17988542015724977305 : True := trivial
theorem PySem.W.Fast.tw14108194823987119177 : True := trivial
theorem PySem.W.Fast.tw14821650378409806113 : True := trivial
theorem PySem.W.Fast.tw13036272033356848781 : True := trivial
theorem PySem.W.Fast.tw17517737089405305841 : True := trivial
theorem PySem.W.Fast.tw16049961110935095269 : True := trivial
theorem PySem.W.Fast.tw3856783459128436802 : True := trivial
theorem PySem.W.Fast.tw16752143609539240740 : True := trivial
theorem PySem.W.Fast.tw7745614565497352828 : True := trivial
theorem PySem.W.Fast.tw5626521722763996951 : True := trivial
theorem PySem.W.Fast.tw3131671291697673992 : True := trivial
theorem PySem.W.Fast.tw2664551874359636763 : True := trivial
theorem PySem.W.Fast.tw12898947447245864913 : True := trivial
theorem PySem.W.Fast.tw219737044198020058 : True := trivial
theorem PySem.W.Fast.tw12850107946570832962 : True := trivial
theorem PySem.W.Fast.tw16876326002717526237 : True := trivial
theorem PySem.W.Fast.tw10010936943081839664 : True := trivial
theorem PySem.W.Fast.tw8119918657739134586 : True := trivial
theorem PySem.W.Fast.tw3764465048917985505 : True := trivial
theorem PySem.W.Fast.tw3766158894648301139 : True := trivial
theorem PySem.W.Fast.tw16350708796919097252 : True := trivial
theorem PySem.W.Fast.tw16979880578912567463 : True := trivial
theorem PySem.W.Fast.tw1749818173716722547 : True := trivial
theorem PySem.W.Fast.tw3820604794100220378 : True := trivial
theorem PySem.W.Fast.tw6714822604882049554 : True := trivial
theorem PySem.W.Fast.tw3916196269025109296 : True := trivial
theorem PySem.W.Fast.tw15980859228951719591 : True := trivial
theorem PySem.W.Fast.tw14023627001141898710 : True := trivial
theorem PySem.W.Fast.tw2408619945344806742 : True := trivial
theorem PySem.W.Fast.tw3891137856419664920 : True := trivial
theorem PySem.W.Fast.tw1419416864934026935 : True := trivial
theorem PySem.W.Fast.tw11519604305632133818 : True := trivial
theorem PySem.W.Fast.tw1523951592034530338 : True := trivial
theorem PySem.W.Fast.tw3972328310683599613 : True := trivial
theorem PySem.W.Fast.tw16374537267813192141 : True := trivial
theorem PySem.W.Fast.tw15066959818950650227 : True := trivial
theorem PySem.W.Fast.tw5770868932273138760 : True := trivial
theorem PySem.W.Fast.tw912392155897948271 : True := trivial
theorem PySem.W.Fast.tw16349804527192203551 : True := trivial
theorem PySem.W.Fast.tw15261043813070345055 : True := trivial
theorem PySem.W.Fast.tw16180582048198870337 : True := trivial
theorem PySem.W.Fast.tw16643379632663270332 : True := trivial
theorem PySem.W.Fast.tw1638017585896720355 : True := trivial
theorem PySem.W.Fast.tw4549333791460862111 : True := trivial
theorem PySem.W.Fast.tw4558998842232669794 : True := trivial
theorem PySem.W.Fast.tw17111948838632640456 : True := trivial
theorem PySem.W.Fast.tw11310463157757771331 : True := trivial
theorem PySem.W.Fast.tw900395245841561262 : True := trivial
theorem PySem.W.Fast.tw16406328271908756883 : True := trivial
theorem PySem.W.Fast.tw13016732220969518872 : True := trivial
theorem PySem.W.Fast.tw10470071008263537045 : True := trivial
theorem PySem.W.Fast.tw15007238320947547705 : True := trivial
theorem PySem.W.Fast.tw11796506867022685745 : True := trivial
theorem PySem.W.Fast.tw16697116713213952808 : True := trivial
theorem PySem.W.Fast.tw505943868828395459 : True := trivial
theorem PySem.W.Fast.tw3698559305507148144 : True := trivial
theorem PySem.W.Fast.tw183835017167291270 : True := trivial
theorem PySem.W.Fast.tw11317593695737139937 : True := trivial
theorem PySem.W.Fast.tw14884601019740666482 : True := trivial
theorem PySem.W.Fast.tw10500077913531017323 : True := trivial
theorem PySem.W.Fast.tw43969757491396457 : True := trivial
theorem PySem.W.Fast.tw6967401301877209104 : True := trivial
theorem PySem.W.Fast.tw17964007177503468958 : True := trivial
theorem PySem.W.Fast.tw5268983451555188008 : True := trivial
theorem PySem.W.Fast.tw3386650904741475044 : True := trivial
theorem PySem.W.Fast.tw9136488742655976645 : True := trivial
theorem PySem.W.Fast.tw12268644228514654432 : True := trivial
theorem PySem.W.Fast.tw9305782018832362445 : True := trivial
theorem PySem.W.Fast.tw4075660801711882420 : True := trivial
theorem PySem.W.Fast.tw12727119793665545969 : True := trivial
theorem PySem.W.Fast.tw2951486255847992690 : True := trivial
theorem PySem.W.Fast.tw6004533443673955352 : True := trivial
theorem PySem.W.Fast.tw9285146279643344392 : True := trivial
theorem PySem.W.Fast.tw14386061602966655976 : True := trivial
theorem PySem.W.Fast.tw12172078356533094185 : True := trivial
theorem PySem.W.Fast.tw11985326045990495214 : True := trivial
theorem PySem.W.Fast.tw16947794391021106201 : True := trivial
theorem PySem.W.Fast.tw11186114360453789277 : True := trivial
theorem PySem.W.Fast.tw8047484207015712433 : True := trivial
theorem PySem.W.Fast.tw2283851925072248500 : True := trivial
theorem PySem.W.Fast.tw16296994325663420285 : True := trivial
theorem PySem.W.Fast.tw10942035263794033107 : True := trivial
theorem PySem.W.Fast.tw8400853705098224536 : True := trivial
theorem PySem.W.Fast.tw14126943448341045398 : True := trivial
theorem PySem.W.Fast.tw5345256250457102556 : True := trivial
theorem PySem.W.Fast.tw13559156169165276386 : True := trivial
theorem PySem.W.Fast.tw9979284746773624096 : True := trivial
theorem PySem.W.Fast.tw6019396324639902685 : True := trivial
theorem PySem.W.Fast.tw16349216596472256690 : True := trivial
theorem PySem.W.Fast.tw7365555872484859036 : True := trivial
theorem PySem.W.Fast.tw13317431791736044220 : True := trivial
theorem PySem.W.Fast.tw441327347791068078 : True := trivial
theorem PySem.W.Fast.tw4748654258956052638 : True := trivial
theorem PySem.W.Fast.tw8032284361305108907 : True := trivial
theorem PySem.W.Fast.tw6426273055680023932 : True := trivial
theorem PySem.W.Fast.tw16548257151911338427 : True := trivial
theorem PySem.W.Fast.tw14223099787259518943 : True := trivial
theorem PySem.W.Fast.tw8537084889766193716 : True := trivial
theorem PySem.W.Fast.tw3880421473898291048 : True := trivial
theorem PySem.W.Fast.tw15278061642289888581 : True := trivial
theorem PySem.W.Fast.tw14168537005229113720 : True := trivial
theorem PySem.W.Fast.tw2422670821966735624 : True := trivial
theorem PySem.W.Fast.tw12392613427281201732 : True := trivial
theorem PySem.W.Fast.tw2193789692954389824 : True := trivial
theorem PySem.W.Fast.tw17552769576498331613 : True := trivial
theorem PySem.W.Fast.tw7581816359482902497 : True := trivial
theorem PySem.W.Fast.tw5111356299099525756 : True := trivial
theorem PySem.W.Fast.tw10424941004445345732 : True := trivial
theorem PySem.W.Fast.tw7397068168572129948 : True := trivial
theorem PySem.W.Fast.tw7730924829282135592 : True := trivial
theorem PySem.W.Fast.tw8708707556590381134 : True := trivial
theorem PySem.W.Fast.tw9948023125614773506 : True := trivial
theorem PySem.W.Fast.tw12981051755390344553 : True := trivial
theorem PySem.W.Fast.tw8253183596043897158 : True := trivial
theorem PySem.W.Fast.tw12825359941727978080 : True := trivial
theorem PySem.W.Fast.tw15587867472590373358 : True := trivial
theorem PySem.W.Fast.tw8017206721242287953 : True := trivial
theorem PySem.W.Fast.tw13335737130258781183 : True := trivial
theorem PySem.W.Fast.tw2968979199505139716 : True := trivial
theorem PySem.W.Fast.tw17954471519018878134 : True := trivial
theorem PySem.W.Fast.tw16487347958798203451 : True := trivial
theorem PySem.W.Fast.tw17497748084772794779 : True := trivial
theorem PySem.W.Fast.tw5732905514179830355 : True := trivial
theorem PySem.W.Fast.tw10753579090125970612 : True := trivial
theorem PySem.W.Fast.tw14956549838072327282 : True := trivial
theorem PySem.W.Fast.tw7244113946720332995 : True := trivial
theorem PySem.W.Fast.tw17975652961387846372 : True := trivial
theorem PySem.W.Fast.tw10406617859236724533 : True := trivial
theorem PySem.W.Fast.tw10706342367453228570 : True := trivial
theorem PySem.W.Fast.tw3436264866546951355 : True := trivial
theorem PySem.W.Fast.tw15168306246750427876 : True := trivial
theorem PySem.W.Fast.tw347637069881736656 : True := trivial
theorem PySem.W.Fast.tw4996365947174573946 : True := trivial
theorem PySem.W.Fast.tw12835720964997663042 : True := trivial
theorem PySem.W.Fast.tw11625766737575182897 : True := trivial
theorem PySem.W.Fast.tw14530364306720264245 : True := trivial
theorem PySem.W.Fast.tw7198390536060210744 : True := trivial
theorem PySem.W.Fast.tw1258299570235058372 : True := trivial
theorem PySem.W.Fast.tw7210653913260312092 : True := trivial
theorem PySem.W.Fast.tw4797165386629745026 : True := trivial
theorem PySem.W.Fast.tw16176465441171805009 : True := trivial
theorem PySem.W.Fast.tw1377046205977697930 : True := trivial
theorem PySem.W.Fast.tw11543547407058413889 : True := trivial
theorem PySem.W.Fast.tw7299951869573292228 : True := trivial
theorem PySem.W.Fast.tw13809362725867891129 : True := trivial
theorem PySem.W.Fast.tw117213463901210413 : True := trivial
theorem PySem.W.Fast.tw1355338860687761863 : True := trivial
theorem PySem.W.Fast.tw15900120412870309639 : True := trivial
theorem PySem.W.Fast.tw1574873078441994576 : True := trivial
theorem PySem.W.Fast.tw4275521005467322725 : True := trivial
theorem PySem.W.Fast.tw12635297910168745909 : True := trivial
theorem PySem.W.Fast.tw15630934235859915674 : True := trivial
namespace Mine
open_top hd for PySem.Challenge.rw_nz0481_01

noncomputable abbrev PR : Program := PySem.Challenge.rw_nz0481_01.row.prog
noncomputable abbrev VW : Program := Mine.hd.view_39
noncomputable abbrev LO : List Str := looseW Mine.hd.view_39 [Str.ofString "match_names", Str.ofString "bind_formals"]
noncomputable abbrev KK (w : World) : Frag := Mine.hd.heap_39 w.params
noncomputable abbrev Led := List (Addr × Obj)
theorem fill_all : PySem.Challenge.rw_nz0481_01 = PySem.Challenge.rw_nz0481_01 ∧ Mine.hd.heap_39 = Mine.hd.heap_39 := by
  k_fill
  exact ⟨rfl, rfl⟩
section SATell
theorem memTail {a b : Addr × Obj} {l : List (Addr × Obj)} (h : a ∈ l) : a ∈ b :: l := List.Mem.tail _ h
noncomputable def Tell (w : World) (mean : ExcName → Option Value) (mg mb : Str → Option Value) (n : Nat) (f : Addr) (vs : List Value) (news : Led) (Post : Value → Led → Prop) : Prop :=
  ∀ (dp un : Nat) (gd : Option (List Code)) (cn : Str) (cs : Scope) (a : Addr) (ccd : Value) (cl : List (Str × Addr)) (outer : List Env) (A₀ : Around) (base h₀ : Heap) (L : Addr) (m : Str → Option Value) (s : Shared) (Q E : Value → Shared → Prop),
    Below A₀ base outer h₀ → Fr h₀ L s.heap m → (Mine.hd.heap_39 w.params).In h₀ → News h₀ L s.heap news → Top VW LO mean mg mb h₀ → cs.kind = .function → dp + n < recursionLimit → un + 8 * n < cLine →
    (∀ r news' h' tk', Fr h₀ L h' m → News h₀ L h' news' → Post r news' → Q r { s with heap := h', toks := tk' }) →
    wpAny (model PR w) (ktrTop dp un gd cn cs L a ccd cl outer) (call (.ref f) vs) Q E s

noncomputable def TellC (w : World) (mean : ExcName → Option Value) (mg mb : Str → Option Value) (n : Nat) (f : Addr) (vs : List Value) (news : Led) (Post : Value → Led → Prop) : Prop :=
  ∀ (dp un : Nat) (gd : Option (List Code)) (cn : Str) (cs : Scope) (a : Addr) (ccd : Value) (cl : List (Str × Addr)) (outer : List Env) (A₀ : Around) (base h₀ : Heap) (L : Addr) (m : Str → Option Value) (s : Shared) (R : Result → Shared → Prop),
    Below A₀ base outer h₀ → Fr h₀ L s.heap m → (Mine.hd.heap_39 w.params).In h₀ → News h₀ L s.heap news → Top VW LO mean mg mb h₀ → cs.kind = .function → dp + n < recursionLimit → un + 8 * n < cLine →
    (∀ r news' h' tk', Fr h₀ L h' m → News h₀ L h' news' → Post r news' → R (.ok (.ret r)) { s with heap := h', toks := tk' }) →
    codeAny (model PR w) (ktrTop dp un gd cn cs L a ccd cl outer) (.call (.ref f) ⟨vs, []⟩) R s
theorem TellC.tell {w : World} {mean : ExcName → Option Value} {mg mb : Str → Option Value} {n : Nat} {f : Addr} {vs : List Value} {news : Led} {Post : Value → Led → Prop} (C : TellC w mean mg mb n f vs news Post) : Tell w mean mg mb n f vs news Post :=
  fun dp un gd cn cs a ccd cl outer A₀ base h₀ L m s Q E B F X N T hk hd hu ret => wpAny_call (C dp un gd cn cs a ccd cl outer A₀ base h₀ L m s _ B F X N T hk hd hu ret)

noncomputable def RunEnd (g : Heap) (L : Addr) (Post : Flow → (Str → Option Value) → Led → Prop) (s : Shared) (fl : Flow) (s' : Shared) : Prop :=
  ∃ h' tk' m' news', s' = { s with heap := h', toks := tk' } ∧ Fr g L h' m' ∧ News g L h' news' ∧ Post fl m' news'
theorem RunEnd.intro {g h' : Heap} {L : Addr} {Post : Flow → (Str → Option Value) → Led → Prop} {s : Shared} {fl : Flow} {m' : Str → Option Value} {news' : Led} {tk' : Nat} (F : Fr g L h' m') (N : News g L h' news') (p : Post fl m' news') :
    RunEnd g L Post s fl { s with heap := h', toks := tk' } := ⟨h', tk', m', news', rfl, F, N, p⟩

noncomputable def Run (w : World) (mean : ExcName → Option Value) (mg mb : Str → Option Value) (n : Nat) (cn : Str) (cs : Scope) (fa : Addr) (cd : Value) (cl : List (Str × Addr)) (m : Str → Option Value) (news : Led) (body : List Stmt) (Post : Flow → (Str → Option Value) → Led → Prop) : Prop :=
  ∀ (dp un : Nat) (gd : Option (List Code)) (outer : List Env) (A₀ : Around) (base g : Heap) (L : Addr) (s : Shared),
    Below A₀ base outer g → Fr g L s.heap m → (Mine.hd.heap_39 w.params).In g → News g L s.heap news → Top VW LO mean mg mb g → dp + n < recursionLimit → un + 8 * n < cLine →
    wpAny (model PR w) (ktrTop dp un gd cn cs L fa cd cl outer) (execs body (envX cn cs L fa cd cl)) (RunEnd g L Post s) (fun _ _ => False) s

noncomputable def retOf : Flow → Value
  | .ret v => v
  | _ => .none

noncomputable def frm : List Str → List (Option Value) → Str → Option Value
  | k :: ks, v :: vs => fun y => if y = k then v else frm ks vs y
  | _, _ => fun _ => none
inductive Slot {α : Type} : List Str → List α → Str → α → Prop
  | here {k ks v vs} : Slot (k :: ks) (v :: vs) k v
  | there {k ks u vs x v} : Slot ks vs x v → Slot (k :: ks) (u :: vs) x v
inductive Put {α : Type} : List Str → List α → Str → α → List α → Prop
  | here {k ks u v vs} : Put (k :: ks) (u :: vs) k v (v :: vs)
  | there {k ks u vs x v vs'} : Put ks vs x v vs' → Put (k :: ks) (u :: vs) x v (u :: vs')
theorem Slot.mem {α : Type} {ks : List Str} {vs : List α} {x : Str} {v : α} (h : Slot ks vs x v) : x ∈ ks := by
  induction h with
  | here => exact List.mem_cons_self
  | there _ ih => exact List.mem_cons_of_mem _ ih
theorem Put.mem {α : Type} {ks : List Str} {vs vs' : List α} {x : Str} {v : α} (h : Put ks vs x v vs') : x ∈ ks := by
  induction h with
  | here => exact List.mem_cons_self
  | there _ ih => exact List.mem_cons_of_mem _ ih
theorem frm_slot {ks : List Str} {vs : List (Option Value)} {x : Str} {v : Option Value} (hn : ks.Nodup) (h : Slot ks vs x v) : frm ks vs x = v := by
  induction h with
  | here => exact if_pos rfl
  | @there k ks u vs x v h ih =>
    have ⟨h1, h2⟩ := List.nodup_cons.mp hn
    have hne : ¬ x = k := fun e => h1 (e ▸ h.mem)
    exact (if_neg hne).trans (ih h2)
theorem frm_put {ks : List Str} {vs vs' : List (Option Value)} {x : Str} {v : Value} (hn : ks.Nodup) (h : Put ks vs x (some v) vs') : (fun y => if y = x then some v else frm ks vs y) = frm ks vs' := by
  generalize hv : some v = o at h
  induction h with
  | here =>
    subst hv
    funext y
    simp only [frm]
    split <;> rfl
  | @there k ks u vs x o vs' h ih =>
    have ⟨h1, h2⟩ := List.nodup_cons.mp hn
    have ih' := ih h2 hv
    funext y
    have e := congrFun ih' y
    simp only [frm]
    by_cases hy : y = x
    · subst hy
      rw [if_pos rfl] at e ⊢
      rw [if_neg (fun q : y = k => h1 (q ▸ h.mem))]
      exact e
    · rw [if_neg hy] at e ⊢
      by_cases hk : y = k
      · rw [if_pos hk, if_pos hk]
      · rw [if_neg hk, if_neg hk]; exact e
theorem frm_none : ∀ (ks : List Str) (y : Str), frm ks (ks.map fun _ => none) y = none
  | [], _ => rfl
  | k :: ks, y => by
    simp only [frm, List.map_cons]
    split
    · rfl
    · exact frm_none ks y
theorem frm_binds : ∀ (ps : List Str) (vals : List Value) (rest : List Str), ps.Nodup → ps.length = vals.length →
    (fun y => (ps.zip vals).reverse.lookup y) = frm (ps ++ rest) (vals.map some ++ rest.map fun _ => none)
  | [], [], rest, _, _ => by funext y; simp [frm_none]
  | p :: ps, v :: vals, rest, hn, hl => by
    have ⟨h1, h2⟩ := List.nodup_cons.mp hn
    have ih := frm_binds ps vals rest h2 (Nat.succ.inj hl)
    funext y
    have e := congrFun ih y
    simp only [List.zip_cons_cons, List.reverse_cons, List.lookup_append, List.cons_append, List.map_cons, frm]
    by_cases hy : y = p
    · subst hy
      rw [if_pos rfl]
      have hno : (ps.zip vals).reverse.lookup y = none := by
        rw [List.lookup_eq_none_iff]
        intro q hq
        have := (List.of_mem_zip (List.mem_reverse.mp hq)).1
        simp only [ne_eq, bne_iff_ne]
        intro e; exact h1 (e ▸ this)
      rw [hno]; simp [List.lookup]
    · rw [if_neg hy, ← e]
      have : (y == p) = false := by simpa using hy
      simp [List.lookup, this]
  | [], _ :: _, _, _, hl => by cases hl
  | _ :: _, [], _, _, hl => by cases hl

noncomputable def strNe (a b : Str) : Bool := !(a == b)
noncomputable def locTab (cs : Scope) (ks : List Str) : Bool := cs.kind == .function && ks.all (fun x => cs.names.lookup x == some .local && !(x == ("__debug__" : Str))) && decide ks.Nodup
structure LocTab (cs : Scope) (ks : List Str) : Prop where
  kind : cs.kind = .function
  loc : ∀ x ∈ ks, cs.names.lookup x = some .local
  nod : ∀ x ∈ ks, (x == ("__debug__" : Str)) = false
  dup : ks.Nodup
theorem LocTab.of {cs : Scope} {ks : List Str} (h : locTab cs ks = true) : LocTab cs ks := by
  simp only [locTab, Bool.and_eq_true, decide_eq_true_eq, List.all_eq_true, Bool.not_eq_true'] at h
  exact ⟨eq_of_beq h.1.1, fun x hx => eq_of_beq (h.1.2 x hx).1, fun x hx => (h.1.2 x hx).2, h.2⟩
noncomputable def globTab (cs : Scope) (gs : List Str) : Bool := cs.kind == .function && gs.all (fun x => cs.names.lookup x == some .globalImplicit && !(x == ("__debug__" : Str)))
structure GlobTab (cs : Scope) (gs : List Str) : Prop where
  kind : cs.kind = .function
  glob : ∀ x ∈ gs, cs.names.lookup x = some .globalImplicit
  nod : ∀ x ∈ gs, (x == ("__debug__" : Str)) = false
theorem GlobTab.of {cs : Scope} {ks : List Str} (h : globTab cs ks = true) : GlobTab cs ks := by
  simp only [globTab, Bool.and_eq_true, List.all_eq_true, Bool.not_eq_true'] at h
  exact ⟨eq_of_beq h.1, fun x hx => eq_of_beq (h.2 x hx).1, fun x hx => (h.2 x hx).2⟩
noncomputable def GV (w : World) (x : Str) (v : Value) : Prop :=
  nsIn (Mine.hd.heap_39 w.params) mainGlobals x = some (some v) ∨ (nsIn (Mine.hd.heap_39 w.params) mainGlobals x = some none ∧ bootBuiltins x = some v ∧ x ≠ "__name__")

section
variable {w : World} {mean : ExcName → Option Value} {mg mb : Str → Option Value} {n : Nat} {f : Addr} {vs : List Value} {news : Led} {Post : Value → Led → Prop}
theorem tellC_of {name qual : Str} {params : Arguments} {body : List Stmt} {scope : Scope} {dV kV doc pm cdv ct oc : Value} {an od : Option Addr} {osl : Array (Option Value)} (ps : List Str) (vals : List Value) (rest gs : List Str)
    (ho : (Mine.hd.heap_39 w.params).lookup f = some ⟨oc, od, .func (fnX name qual params body scope [] dV kV doc pm an cdv ct), osl⟩) (hcd : codeIn (Mine.hd.heap_39 w.params) cdv qual = true)
    (hbind : ∀ h : Heap, (Mine.hd.heap_39 w.params).In h → ∀ s : Shared, s.heap = h → BindsTo s (fnX name qual params body scope [] dV kV doc pm an cdv ct) ⟨vs, []⟩ (ps.zip vals))
    (hlen : ps.length = vals.length) (hloc : locTab scope (ps ++ rest) = true) (hglob : globTab scope gs = true)
    (hcell : (scope.names.all fun x => x.2 != .cell) = true) (hco : scope.isCoroutine = false) (hgen : scope.isGenerator = false)
    (R : LocTab scope (ps ++ rest) → GlobTab scope gs → Run w mean mg mb n qual scope f cdv [] (frm (ps ++ rest) (vals.map some ++ rest.map fun _ => none)) news body (fun fl _ news' => Post (retOf fl) news')) :
    TellC w mean mg mb (n + 1) f vs news Post := by
  intro dp un gd cn cs a ccd cl outer A₀ base h₀ L m s Q B F X N T hkf hd hu hret
  have LT := LocTab.of hloc
  have GT := GlobTab.of hglob
  have hX := X.keeps F.keep
  refine callX_plain (cl := []) B F N T.nolimit rfl rfl hkf (hX _ _ ho) rfl (codeRec_of hX hcd) (show dp < recursionLimit by omega) (hbind _ hX s rfl)
    (fun y hy => LT.loc y.1 (List.mem_append_left _ (List.of_mem_zip (show (y.1, y.2) ∈ ps.zip vals from hy)).1)) (fun g L' h₁ FG F' N' B' st _ => ?_) (fun x hx => by simpa using List.all_eq_true.mp hcell x hx) hco hgen LT.kind
  rw [frm_binds ps vals rest (List.nodup_append.mp LT.dup).1 hlen] at F'
  refine wpAny_mono (R LT GT (dp + 1) (un + 3) gd (envX cn cs L a ccd cl :: outer) _ base g L' _ B' F' (X.keeps st) N' (T.keeps st) (by omega) (by omega)) (fun fl s' he => ?_) fun _ _ y => y.elim
  obtain ⟨h', tk', m', news', e, F₂, N₂, p⟩ := he
  subst e
  refine leaveK_ F₂ N₂ fun F₃ N₃ => ?_
  refine hret _ _ _ _ F₃ N₃ ?_
  cases fl <;> exact p
end

section
variable {w : World} {A : Around} {E : Value → Shared → Prop} {s : Shared} {h₀ : Heap} {L a : Addr} {m : Str → Option Value} {cn : Str} {cs : Scope} {ccd : Value} {cl : List (Str × Addr)}
  {x : Str} {pos : Pos} {v : Value} {ks gs : List Str} {vs vs' : List (Option Value)} {mean : ExcName → Option Value} {mg mb : Str → Option Value} {news : Led}
theorem nm_S {Q : Value → Shared → Prop} (T : LocTab cs ks) (F : Fr h₀ L s.heap (frm ks vs)) (hv : Slot ks vs x (some v)) (h : Q v s) :
    wpAny (model PR w) A (eval (.Name x pos) (envX cn cs L a ccd cl)) Q E s :=
  nameX_L F (frm_slot T.dup hv) h T.kind (T.loc x hv.mem) (T.nod x hv.mem)
theorem nm_G {Q : Value → Shared → Prop} (T : GlobTab cs gs) (hx : x ∈ gs) (gv : GV w x v) (F : Fr h₀ L s.heap m) (X : (Mine.hd.heap_39 w.params).In h₀) (Tp : Top VW LO mean mg mb h₀) (h : Q v s) :
    wpAny (model PR w) A (eval (.Name x pos) (envX cn cs L a ccd cl)) Q E s := by
  rcases gv with e | ⟨e, e1, e2⟩
  · exact nameX_K F X (topRead_of Tp) e h T.kind (T.glob x hx) (T.nod x hx)
  · exact nameX_B F X (topRead_of Tp) e e1 e2 h T.kind (T.glob x hx) (T.nod x hx)
theorem st_S {Q : Unit → Shared → Prop} {h : Heap} {ge : Array GenState} {dr : Drawn} {t : Nat} {os : OsState} (T : LocTab cs ks) (F : Fr h₀ L h (frm ks vs)) (N : News h₀ L h news) (hp : Put ks vs x (some v) vs')
    (k : ∀ h', Fr h₀ L h' (frm ks vs') → News h₀ L h' news → Q () ⟨h', ge, dr, t + 1, os⟩) : wpAny (model PR w) A (storeName (envX cn cs L a ccd cl) x v) Q E ⟨h, ge, dr, t, os⟩ :=
  storeX_L (s := ⟨h, ge, dr, t, os⟩) F N (fun h' F' N' => k h' (frm_put T.dup hp ▸ F') N') T.kind (T.loc x hp.mem)
theorem c_int {M : Model} {env : Env} {i : Int} {k : Nat} {Q : Value → Shared → Prop} {h : Heap} {ge : Array GenState} {dr : Drawn} {t : Nat} {os : OsState} (q : Q (.int i t) ⟨h, ge, dr, t + 1, os⟩) :
    wpAny M A (eval (.Constant (.int i) k pos) env) Q E ⟨h, ge, dr, t, os⟩ := wpAny_Constant_int (s := ⟨h, ge, dr, t, os⟩) q
theorem c_str {M : Model} {env : Env} {y : Str} {k : Nat} {Q : Value → Shared → Prop} {h : Heap} {ge : Array GenState} {dr : Drawn} {t : Nat} {os : OsState} (q : Q (.str y t) ⟨h, ge, dr, t + 1, os⟩) :
    wpAny M A (eval (.Constant (.str y) k pos) env) Q E ⟨h, ge, dr, t, os⟩ := wpAny_Constant_str (s := ⟨h, ge, dr, t, os⟩) q
end

noncomputable def ents (P : Params) : List Str → List (Tok × Value) → List DictEntry
  | k :: ks, (t, v) :: r => ⟨PyData.keyHash P k, .str k t, v⟩ :: ents P ks r
  | _, _ => []
theorem getL_ents {P : Params} {ks : List Str} {tvs : List (Tok × Value)} {x : Str} {t : Tok} {v : Value} (hn : ks.Nodup) (h : Slot ks tvs x (t, v)) : getL x (ents P ks tvs) = some (some v) := by
  generalize hp : (t, v) = p at h
  induction h with
  | here =>
    subst hp
    simp [getL, ents, Value.isStr]
  | @there k ks u vs x p h ih =>
    obtain ⟨u1, u2⟩ := u
    have ⟨h1, h2⟩ := List.nodup_cons.mp hn
    have hne : (k == x) = false := by
      simp only [beq_eq_false_iff_ne, ne_eq]; intro e; exact h1 (e ▸ h.mem)
    have ih' := ih h2 hp
    unfold getL at ih' ⊢
    simp only [ents, List.find?_cons, Value.isStr, hne]
    simp only [Value.isStr] at ih'
    split at ih'
    · rename_i e he; simp only [he]; exact ih'
    · rename_i he; simp only [he]
      split at ih' <;> first | cases ih' | (injection ih' with ih'; cases ih')

section
variable {w : World} {A : Around} {E : Value → Shared → Prop} {s : Shared} {h₀ h : Heap} {L a : Addr} {m : Str → Option Value} {cn : Str} {cs : Scope} {ccd : Value} {cl : List (Str × Addr)}
  {ge : Array GenState} {dr : Drawn} {tk : Nat} {os : OsState} {mean : ExcName → Option Value} {mg mb : Str → Option Value} {news : Led}
theorem sub_lit {value slice : PySem.Expr} {l : Addr} {vs : List Value} {n : Nat} {k : Int} {u : Tok} {v : Value} {Q : Value → Shared → Prop} (N : News h₀ L s.heap news) (hm : (l, listOf vs.toArray n) ∈ news) (h0 : 0 ≤ k) (hhi : k < 2 ^ 63) (hx : vs[k.toNat]? = some v) (q : Q v s)
    (hs : subscripted slice false (.ref l) (.int k u) = operate [.ref l, .int k u] (getItem (.ref l) (.int k u))) :
    wpAny (model PR w) A (subscriptTail value slice (.ref l) (.int k u)) Q E s :=
  item_litK (News.isList N hm) h0 hhi hx q hs
theorem call_nm {M : Model} {env : Env} {id : Str} {p pos : Pos} {args : List Expr} {Q : Value → Shared → Prop}
    (q : wpAny M A (eval (.Name id p) env) (fun f s₁ => wpAny M A (callWith pos f [] (backTo pos (starEach args env)) []) Q E s₁) E s) : wpAny M A (eval (.Call (.Name id p) args [] pos) env) Q E s :=
  wpAny_Call_Name_kw q
theorem Tell.use {n : Nat} {f : Addr} {vs : List Value} {news₂ : Led} {Post : Value → Led → Prop} (C : Tell w mean mg mb n f vs news Post) {dp un : Nat} {gd : Option (List Code)} {outer : List Env} {A₀ : Around} {base : Heap} {Q : Value → Shared → Prop}
    (B : Below A₀ base outer h₀) (F : Fr h₀ L h m) (X : (Mine.hd.heap_39 w.params).In h₀) (N : News h₀ L h news₂) (sub : ∀ p ∈ news, p ∈ news₂) (T : Top VW LO mean mg mb h₀) (hk : cs.kind = .function) (hd : dp + n < recursionLimit) (hu : un + 8 * n < cLine)
    (ret : ∀ r news' h' tk', Fr h₀ L h' m → News h₀ L h' news' → Post r news' → Q r ⟨h', ge, dr, tk', os⟩) :
    wpAny (model PR w) (ktrTop dp un gd cn cs L a ccd cl outer) (call (.ref f) vs) Q E ⟨h, ge, dr, tk, os⟩ :=
  C dp un gd cn cs a ccd cl outer A₀ base h₀ L m ⟨h, ge, dr, tk, os⟩ Q E B F X (fun p hp => N p (sub p hp)) T hk hd hu ret
end
noncomputable def Rec (w : World) (news : Led) (x C : Addr) (ks : List Str) (tvs : List (Tok × Value)) : Prop :=
  ∃ dx n, (x, instObj C dx) ∈ news ∧ (dx, dictOf (ents w.params ks tvs) n) ∈ news
theorem Rec.mono {w : World} {news news' : Led} {x C : Addr} {ks : List Str} {tvs : List (Tok × Value)} (h : Rec w news x C ks tvs) (hs : ∀ p ∈ news, p ∈ news') : Rec w news' x C ks tvs :=
  let ⟨dx, n, h1, h2⟩ := h; ⟨dx, n, hs _ h1, hs _ h2⟩

theorem under_make (dp un : Nat) (gd : Option (List Code)) (cn : Str) (cs : Scope) (L a : Addr) (ccd : Value) (cl : List (Str × Addr)) (outer : List Env) (C : Addr) (pos : List Value) :
    (ktrTop dp un gd cn cs L a ccd cl outer).under (.builtin "type.__call__" ⟨.ref C :: pos, []⟩) = ktrTop (dp + 1) (un + 1) gd cn cs L a ccd cl outer := by kernel_rfl
theorem make_of {w : World} {mean : ExcName → Option Value} {mg mb : Str → Option Value} {n : Nat} {C fI : Addr} {pos : List Value} {news : Led} {Post : Value → Led → Prop}
    (hm : makesIn (Mine.hd.heap_39 w.params) C = true) (hi : findIn (Mine.hd.heap_39 w.params) (.ref C) "__init__" = some (some (.ref fI))) (hf : isFn (Mine.hd.heap_39 w.params) (.ref fI) = true)
    (I : ∀ x dx, (∀ p ∈ news, p.1 < dx) → dx < x → TellC w mean mg mb n fI (.ref x :: pos) ((x, instObj C dx) :: (dx, dictOf (ents w.params [] []) 0) :: news) (fun r news' => r = .none ∧ Post (.ref x) news')) :
    Tell w mean mg mb (n + 1) C pos news Post := by
  intro dp un gd cn cs a ccd cl outer A₀ base h₀ L m s Q E B F X N T hkf hd hu hret
  refine call_cls F X N hm hi hf fun x dx h' F' N' l1 l2 => ?_
  rw [under_make]
  refine I x dx l1 l2 (dp + 1) (un + 1) gd cn cs a ccd cl outer A₀ base h₀ L m { s with heap := h' } _ B F' X N' T hkf (by omega) (by omega) fun r news' h₂ tk' F₂ N₂ p => ?_
  exact ⟨p.1, hret _ _ _ _ F₂ N₂ p.2⟩

theorem getL_new {P : Params} {x : Str} : ∀ {ks : List Str} {tvs : List (Tok × Value)}, ks.length = tvs.length → x ∉ ks → getL x (ents P ks tvs) = some none
  | [], [], _, _ => rfl
  | k :: ks, (t, v) :: r, hl, hn => by
    have ih := getL_new (P := P) (ks := ks) (tvs := r) (Nat.succ.inj hl) (fun h => hn (List.mem_cons_of_mem _ h))
    have hne : (k == x) = false := by
      simp only [beq_eq_false_iff_ne, ne_eq]; intro e; exact hn (e ▸ List.mem_cons_self)
    unfold getL at ih ⊢
    simp only [ents, List.find?_cons, List.any_cons, DictEntry.refKey, Value.isStr, hne, Bool.false_or]
    exact ih
  | [], _ :: _, h, _ => nomatch h
  | _ :: _, [], h, _ => nomatch h
theorem putL_new {P : Params} {x : Str} {t : Tok} {v : Value} : ∀ {ks : List Str} {tvs : List (Tok × Value)}, ks.length = tvs.length → x ∉ ks →
    putL x (PyData.keyHash P x) (.str x t) v (ents P ks tvs) = ents P (ks ++ [x]) (tvs ++ [(t, v)]) ∧ ∀ n, putN x (ents P ks tvs) n = n + 1
  | [], [], _, _ => ⟨rfl, fun _ => rfl⟩
  | k :: ks, (t', v') :: r, hl, hn => by
    have ⟨i1, i2⟩ := putL_new (P := P) (t := t) (v := v) (ks := ks) (tvs := r) (Nat.succ.inj hl) (fun h => hn (List.mem_cons_of_mem _ h))
    have hne : (k == x) = false := by
      simp only [beq_eq_false_iff_ne, ne_eq]; intro e; exact hn (e ▸ List.mem_cons_self)
    refine ⟨?_, fun n => ?_⟩
    · simp only [ents, putL, Value.isStr, hne, List.cons_append]
      simp only [Bool.false_eq_true, if_false, i1]
    · have := i2 n
      unfold putN at this ⊢
      simp only [ents, List.any_cons, Value.isStr, hne, Bool.false_or]
      exact this
  | [], _ :: _, h, _ => nomatch h
  | _ :: _, [], h, _ => nomatch h

theorem ents_len {P : Params} : ∀ (ks : List Str) (tvs : List (Tok × Value)), (ents P ks tvs).length ≤ ks.length
  | [], _ => Nat.le_refl _
  | _ :: _, [] => Nat.zero_le _
  | _ :: ks, _ :: r => Nat.succ_le_succ (ents_len ks r)
structure ClsOk (w : World) (C : Addr) : Prop where
  set : findIn (Mine.hd.heap_39 w.params) (.ref C) "__setattr__" = some (some (.builtin "object.__setattr__"))
  plain : plainOver (Mine.hd.heap_39 w.params) C = true
  dict : hasDictIn (Mine.hd.heap_39 w.params) C = true
  get : plainGet (Mine.hd.heap_39 w.params) C "" = true
noncomputable def AttrOk (w : World) (C : Addr) (x : Str) : Prop := findIn (Mine.hd.heap_39 w.params) (.ref C) x = some none
theorem ne_all {own : Led} {d : Addr} (h : ∀ p ∈ own, p.1 < d) : ∀ p ∈ own, p.1 ≠ d := fun p hp => Nat.ne_of_lt (h p hp)
section
variable {w : World} {A : Around} {E : Value → Shared → Prop} {h₀ h : Heap} {L x dx C : Addr} {m : Str → Option Value}
  {ge : Array GenState} {dr : Drawn} {tk n : Nat} {os : OsState} {news news' : Led} {ks : List Str} {tvs tvs' : List (Tok × Value)} {name : Str} {t : Tok} {v : Value}
theorem set_new {Q : Unit → Shared → Prop} (F : Fr h₀ L h m) (X : (Mine.hd.heap_39 w.params).In h₀) (N : News h₀ L h news) (hx : (x, instObj C dx) ∈ news) (hc : ClsOk w C) (ha : AttrOk w C name)
    (hl : ks.length = tvs.length) (hn : (ks.contains name) = false) (hz : ks.length ≤ 900)
    (U : Upd dx (dictOf (ents w.params ks tvs) n) (dictOf (ents w.params (ks ++ [name]) (tvs ++ [(tk + 1, v)])) (n + 1)) news news')
    (q : ∀ h', Fr h₀ L h' m → News h₀ L h' news' → Q () ⟨h', ge, dr, tk + 2, os⟩) :
    wpAny (model PR w) A (setAttr (.ref x) name v) Q E ⟨h, ge, dr, tk, os⟩ := by
  have hn' : name ∉ ks := by simpa using hn
  have hd : (dx, dictOf (ents w.params ks tvs) n) ∈ news := by
    obtain ⟨pre, post, e, _⟩ := U.split
    rw [e]; simp
  refine set_dict (s := ⟨h, ge, dr, tk, os⟩) F X N (InstAt.of_news N hx hd) rfl hc.set hc.plain ?_ hc.dict ?_ ?_ U ?_ q
  · unfold takerIn; rw [show findIn (Mine.hd.heap_39 w.params) (.ref C) name = some none from ha]; rfl
  · rw [getL_new hl hn']; rfl
  · have e := putL_new (P := w.params) (t := tk + 1) (v := v) hl hn'
    exact Prod.ext e.1 (e.2 n)
  · refine Nat.le_trans (ents_len _ _) ?_
    rw [List.length_append]; simp; omega
theorem get_mem {expr : Bool} {Q : Value → Shared → Prop} (F : Fr h₀ L h m) (X : (Mine.hd.heap_39 w.params).In h₀) (N : News h₀ L h news) (hx : (x, instObj C dx) ∈ news) (hd : (dx, dictOf (ents w.params ks tvs) n) ∈ news)
    (hc : ClsOk w C) (ha : AttrOk w C name) (hn : ks.Nodup) (sl : Slot ks tvs name (t, v)) (hv : handedIn v = true) (q : Q v ⟨h, ge, dr, tk + 1, os⟩) :
    wpAny (model PR w) A (getAttr (.ref x) name expr) Q E ⟨h, ge, dr, tk, os⟩ :=
  get_own (s := ⟨h, ge, dr, tk, os⟩) F X (InstAt.of_news N hx hd) hc.get hc.dict ha rfl (getL_ents hn sl) hv q
theorem get_rec {own : Led} {expr : Bool} {Q : Value → Shared → Prop} (F : Fr h₀ L h m) (X : (Mine.hd.heap_39 w.params).In h₀) (N : News h₀ L h news) (R : Rec w own x C ks tvs) (sub : ∀ p ∈ own, p ∈ news)
    (hc : ClsOk w C) (ha : AttrOk w C name) (hn : ks.Nodup) (sl : Slot ks tvs name (t, v)) (hv : handedIn v = true) (q : Q v ⟨h, ge, dr, tk + 1, os⟩) :
    wpAny (model PR w) A (getAttr (.ref x) name expr) Q E ⟨h, ge, dr, tk, os⟩ :=
  let ⟨_, _, h1, h2⟩ := R
  get_mem F X N (sub _ h1) (sub _ h2) hc ha hn sl hv q
end
theorem subRefl {l : Led} : ∀ p ∈ l, p ∈ l := fun _ h => h

section
variable {w : World} {A : Around} {E : Value → Shared → Prop} {s : Shared} {x y : Str} {t u : Tok} {Q : Value → Shared → Prop}
theorem eqs_t (q : Q (.bool true) s) : wpAny (model PR w) A (compareOp .Eq (.str x t) (.str x u)) Q E s := by
  refine PyProof.Rows.eq_str ?_
  rw [show (x == x) = true by simp]; exact q
theorem eqs_f (h : strNe x y = true) (q : Q (.bool false) s) : wpAny (model PR w) A (compareOp .Eq (.str x t) (.str y u)) Q E s := by
  refine PyProof.Rows.eq_str ?_
  rw [show (x == y) = false by simpa [strNe] using h]; exact q
theorem nes_f (q : Q (.bool false) s) : wpAny (model PR w) A (compareOp .NotEq (.str x t) (.str x u)) Q E s := by
  refine PyProof.Rows.ne_str ?_
  rw [show (x != x) = false by simp]; exact q
theorem nes_t (h : strNe x y = true) (q : Q (.bool true) s) : wpAny (model PR w) A (compareOp .NotEq (.str x t) (.str y u)) Q E s := by
  refine PyProof.Rows.ne_str ?_
  rw [show (x != y) = true by simpa [strNe] using h]; exact q
end
theorem len_any {w : World} {A : Around} {E : Value → Shared → Prop} {h₀ h : Heap} {L l : Addr} {ge : Array GenState} {dr : Drawn} {tk k : Nat} {os : OsState} {news : Led} {vs : List Value} {x : Int} {Q : Value → Shared → Prop}
    (N : News h₀ L h news) (hm : (l, listOf (List.toArray vs) k) ∈ news) (hz : vs.length ≤ 1000) (hx : (vs.length : Int) = x) (q : Q (.int x (tk + 1)) ⟨h, ge, dr, tk + 1 + 1, os⟩) : wpAny (model PR w) A (call (.builtin "len") [.ref l]) Q E ⟨h, ge, dr, tk, os⟩ :=
  Calls.call_len_list (s := ⟨h, ge, dr, tk, os⟩) (News.isList N hm) (by simp; omega) (by subst hx; simpa using q)
theorem subTail {own l : Led} {p : Addr × Obj} (h : ∀ q ∈ own, q ∈ l) : ∀ q ∈ own, q ∈ p :: l := fun q hq => List.mem_cons_of_mem _ (h q hq)
theorem subApp {own l a : Led} (h : ∀ q ∈ own, q ∈ l) : ∀ q ∈ own, q ∈ a ++ l := fun q hq => List.mem_append_right _ (h q hq)
theorem subLeft {a l : Led} : ∀ q ∈ a, q ∈ a ++ l := fun q hq => List.mem_append_left _ hq
theorem newsSub {h₀ h : Heap} {L : Addr} {l l' : Led} (N : News h₀ L h l) (hs : ∀ p ∈ l', p ∈ l) : News h₀ L h l' := fun p hp => N p (hs p hp)
theorem subCons {l l' : Led} {p : Addr × Obj} (hm : p ∈ l') (hs : ∀ q ∈ l, q ∈ l') : ∀ q ∈ p :: l, q ∈ l' := fun q hq => by
  rcases List.mem_cons.mp hq with rfl | hq
  · exact hm
  · exact hs q hq
theorem subBoth {a l l' : Led} (ha : ∀ q ∈ a, q ∈ l') (hs : ∀ q ∈ l, q ∈ l') : ∀ q ∈ a ++ l, q ∈ l' := fun q hq => by
  rcases List.mem_append.mp hq with hq | hq
  · exact ha q hq
  · exact hs q hq
theorem subNil {l : Led} : ∀ q ∈ ([] : Led), q ∈ l := fun _ h => nomatch h
inductive PutV : List Str → List (Tok × Value) → Str → Value → List (Tok × Value) → Prop
  | here {k ks t u v r} : PutV (k :: ks) ((t, u) :: r) k v ((t, v) :: r)
  | there {k ks p r x v r'} : PutV ks r x v r' → PutV (k :: ks) (p :: r) x v (p :: r')
theorem PutV.mem {ks : List Str} {r r' : List (Tok × Value)} {x : Str} {v : Value} (h : PutV ks r x v r') : x ∈ ks := by
  induction h with
  | here => exact List.mem_cons_self
  | there _ ih => exact List.mem_cons_of_mem _ ih
theorem PutV.old {ks : List Str} {r r' : List (Tok × Value)} {x : Str} {v : Value} (h : PutV ks r x v r') : ∃ p, Slot ks r x p := by
  induction h with
  | here => exact ⟨_, Slot.here⟩
  | there _ ih => exact ih.elim fun p h => ⟨p, Slot.there h⟩
theorem memApp {a : Addr × Obj} {l l' : Led} (h : a ∈ l) : a ∈ l' ++ l := List.mem_append_right _ h
theorem memLeft {a : Addr × Obj} {l l' : Led} (h : a ∈ l) : a ∈ l ++ l' := List.mem_append_left _ h
theorem off1_mem {D : Addr} : ∀ {l : Led}, LCg.Off1 D l → ∀ p ∈ l, p.1 ≠ D
  | [], _, _, h => nomatch h
  | _ :: _, x, p, h => by
    rcases List.mem_cons.mp h with rfl | h
    · exact x.1
    · exact off1_mem x.2 p h
theorem al1 {D a0 : Nat} {o0 : Obj} {R : List (Addr × Obj)} {P : Prop} (h : ∀ p ∈ (a0, o0) :: R, p.1 < D) (k : a0 < D → AllLt D R → P) : P :=
  have q := allLt_of h; k (q.1) (q.2)
theorem al2 {D a0 a1 : Nat} {o0 o1 : Obj} {R : List (Addr × Obj)} {P : Prop} (h : ∀ p ∈ (a0, o0) :: (a1, o1) :: R, p.1 < D) (k : a0 < D → a1 < D → AllLt D R → P) : P :=
  have q := allLt_of h; k (q.1) (q.2.1) (q.2.2)
theorem al3 {D a0 a1 a2 : Nat} {o0 o1 o2 : Obj} {R : List (Addr × Obj)} {P : Prop} (h : ∀ p ∈ (a0, o0) :: (a1, o1) :: (a2, o2) :: R, p.1 < D) (k : a0 < D → a1 < D → a2 < D → AllLt D R → P) : P :=
  have q := allLt_of h; k (q.1) (q.2.1) (q.2.2.1) (q.2.2.2)
theorem al4 {D a0 a1 a2 a3 : Nat} {o0 o1 o2 o3 : Obj} {R : List (Addr × Obj)} {P : Prop} (h : ∀ p ∈ (a0, o0) :: (a1, o1) :: (a2, o2) :: (a3, o3) :: R, p.1 < D) (k : a0 < D → a1 < D → a2 < D → a3 < D → AllLt D R → P) : P :=
  have q := allLt_of h; k (q.1) (q.2.1) (q.2.2.1) (q.2.2.2.1) (q.2.2.2.2)
theorem al5 {D a0 a1 a2 a3 a4 : Nat} {o0 o1 o2 o3 o4 : Obj} {R : List (Addr × Obj)} {P : Prop} (h : ∀ p ∈ (a0, o0) :: (a1, o1) :: (a2, o2) :: (a3, o3) :: (a4, o4) :: R, p.1 < D) (k : a0 < D → a1 < D → a2 < D → a3 < D → a4 < D → AllLt D R → P) : P :=
  have q := allLt_of h; k (q.1) (q.2.1) (q.2.2.1) (q.2.2.2.1) (q.2.2.2.2.1) (q.2.2.2.2.2)
theorem al6 {D a0 a1 a2 a3 a4 a5 : Nat} {o0 o1 o2 o3 o4 o5 : Obj} {R : List (Addr × Obj)} {P : Prop} (h : ∀ p ∈ (a0, o0) :: (a1, o1) :: (a2, o2) :: (a3, o3) :: (a4, o4) :: (a5, o5) :: R, p.1 < D) (k : a0 < D → a1 < D → a2 < D → a3 < D → a4 < D → a5 < D → AllLt D R → P) : P :=
  have q := allLt_of h; k (q.1) (q.2.1) (q.2.2.1) (q.2.2.2.1) (q.2.2.2.2.1) (q.2.2.2.2.2.1) (q.2.2.2.2.2.2)
theorem al7 {D a0 a1 a2 a3 a4 a5 a6 : Nat} {o0 o1 o2 o3 o4 o5 o6 : Obj} {R : List (Addr × Obj)} {P : Prop} (h : ∀ p ∈ (a0, o0) :: (a1, o1) :: (a2, o2) :: (a3, o3) :: (a4, o4) :: (a5, o5) :: (a6, o6) :: R, p.1 < D) (k : a0 < D → a1 < D → a2 < D → a3 < D → a4 < D → a5 < D → a6 < D → AllLt D R → P) : P :=
  have q := allLt_of h; k (q.1) (q.2.1) (q.2.2.1) (q.2.2.2.1) (q.2.2.2.2.1) (q.2.2.2.2.2.1) (q.2.2.2.2.2.2.1) (q.2.2.2.2.2.2.2)
theorem al8 {D a0 a1 a2 a3 a4 a5 a6 a7 : Nat} {o0 o1 o2 o3 o4 o5 o6 o7 : Obj} {R : List (Addr × Obj)} {P : Prop} (h : ∀ p ∈ (a0, o0) :: (a1, o1) :: (a2, o2) :: (a3, o3) :: (a4, o4) :: (a5, o5) :: (a6, o6) :: (a7, o7) :: R, p.1 < D) (k : a0 < D → a1 < D → a2 < D → a3 < D → a4 < D → a5 < D → a6 < D → a7 < D → AllLt D R → P) : P :=
  have q := allLt_of h; k (q.1) (q.2.1) (q.2.2.1) (q.2.2.2.1) (q.2.2.2.2.1) (q.2.2.2.2.2.1) (q.2.2.2.2.2.2.1) (q.2.2.2.2.2.2.2.1) (q.2.2.2.2.2.2.2.2)
theorem al9 {D a0 a1 a2 a3 a4 a5 a6 a7 a8 : Nat} {o0 o1 o2 o3 o4 o5 o6 o7 o8 : Obj} {R : List (Addr × Obj)} {P : Prop} (h : ∀ p ∈ (a0, o0) :: (a1, o1) :: (a2, o2) :: (a3, o3) :: (a4, o4) :: (a5, o5) :: (a6, o6) :: (a7, o7) :: (a8, o8) :: R, p.1 < D) (k : a0 < D → a1 < D → a2 < D → a3 < D → a4 < D → a5 < D → a6 < D → a7 < D → a8 < D → AllLt D R → P) : P :=
  have q := allLt_of h; k (q.1) (q.2.1) (q.2.2.1) (q.2.2.2.1) (q.2.2.2.2.1) (q.2.2.2.2.2.1) (q.2.2.2.2.2.2.1) (q.2.2.2.2.2.2.2.1) (q.2.2.2.2.2.2.2.2.1) (q.2.2.2.2.2.2.2.2.2)
theorem al10 {D a0 a1 a2 a3 a4 a5 a6 a7 a8 a9 : Nat} {o0 o1 o2 o3 o4 o5 o6 o7 o8 o9 : Obj} {R : List (Addr × Obj)} {P : Prop} (h : ∀ p ∈ (a0, o0) :: (a1, o1) :: (a2, o2) :: (a3, o3) :: (a4, o4) :: (a5, o5) :: (a6, o6) :: (a7, o7) :: (a8, o8) :: (a9, o9) :: R, p.1 < D) (k : a0 < D → a1 < D → a2 < D → a3 < D → a4 < D → a5 < D → a6 < D → a7 < D → a8 < D → a9 < D → AllLt D R → P) : P :=
  have q := allLt_of h; k (q.1) (q.2.1) (q.2.2.1) (q.2.2.2.1) (q.2.2.2.2.1) (q.2.2.2.2.2.1) (q.2.2.2.2.2.2.1) (q.2.2.2.2.2.2.2.1) (q.2.2.2.2.2.2.2.2.1) (q.2.2.2.2.2.2.2.2.2.1) (q.2.2.2.2.2.2.2.2.2.2)
theorem al11 {D a0 a1 a2 a3 a4 a5 a6 a7 a8 a9 a10 : Nat} {o0 o1 o2 o3 o4 o5 o6 o7 o8 o9 o10 : Obj} {R : List (Addr × Obj)} {P : Prop} (h : ∀ p ∈ (a0, o0) :: (a1, o1) :: (a2, o2) :: (a3, o3) :: (a4, o4) :: (a5, o5) :: (a6, o6) :: (a7, o7) :: (a8, o8) :: (a9, o9) :: (a10, o10) :: R, p.1 < D) (k : a0 < D → a1 < D → a2 < D → a3 < D → a4 < D → a5 < D → a6 < D → a7 < D → a8 < D → a9 < D → a10 < D → AllLt D R → P) : P :=
  have q := allLt_of h; k (q.1) (q.2.1) (q.2.2.1) (q.2.2.2.1) (q.2.2.2.2.1) (q.2.2.2.2.2.1) (q.2.2.2.2.2.2.1) (q.2.2.2.2.2.2.2.1) (q.2.2.2.2.2.2.2.2.1) (q.2.2.2.2.2.2.2.2.2.1) (q.2.2.2.2.2.2.2.2.2.2.1) (q.2.2.2.2.2.2.2.2.2.2.2)
theorem al12 {D a0 a1 a2 a3 a4 a5 a6 a7 a8 a9 a10 a11 : Nat} {o0 o1 o2 o3 o4 o5 o6 o7 o8 o9 o10 o11 : Obj} {R : List (Addr × Obj)} {P : Prop} (h : ∀ p ∈ (a0, o0) :: (a1, o1) :: (a2, o2) :: (a3, o3) :: (a4, o4) :: (a5, o5) :: (a6, o6) :: (a7, o7) :: (a8, o8) :: (a9, o9) :: (a10, o10) :: (a11, o11) :: R, p.1 < D) (k : a0 < D → a1 < D → a2 < D → a3 < D → a4 < D → a5 < D → a6 < D → a7 < D → a8 < D → a9 < D → a10 < D → a11 < D → AllLt D R → P) : P :=
  have q := allLt_of h; k (q.1) (q.2.1) (q.2.2.1) (q.2.2.2.1) (q.2.2.2.2.1) (q.2.2.2.2.2.1) (q.2.2.2.2.2.2.1) (q.2.2.2.2.2.2.2.1) (q.2.2.2.2.2.2.2.2.1) (q.2.2.2.2.2.2.2.2.2.1) (q.2.2.2.2.2.2.2.2.2.2.1) (q.2.2.2.2.2.2.2.2.2.2.2.1) (q.2.2.2.2.2.2.2.2.2.2.2.2)
theorem al13 {D a0 a1 a2 a3 a4 a5 a6 a7 a8 a9 a10 a11 a12 : Nat} {o0 o1 o2 o3 o4 o5 o6 o7 o8 o9 o10 o11 o12 : Obj} {R : List (Addr × Obj)} {P : Prop} (h : ∀ p ∈ (a0, o0) :: (a1, o1) :: (a2, o2) :: (a3, o3) :: (a4, o4) :: (a5, o5) :: (a6, o6) :: (a7, o7) :: (a8, o8) :: (a9, o9) :: (a10, o10) :: (a11, o11) :: (a12, o12) :: R, p.1 < D) (k : a0 < D → a1 < D → a2 < D → a3 < D → a4 < D → a5 < D → a6 < D → a7 < D → a8 < D → a9 < D → a10 < D → a11 < D → a12 < D → AllLt D R → P) : P :=
  have q := allLt_of h; k (q.1) (q.2.1) (q.2.2.1) (q.2.2.2.1) (q.2.2.2.2.1) (q.2.2.2.2.2.1) (q.2.2.2.2.2.2.1) (q.2.2.2.2.2.2.2.1) (q.2.2.2.2.2.2.2.2.1) (q.2.2.2.2.2.2.2.2.2.1) (q.2.2.2.2.2.2.2.2.2.2.1) (q.2.2.2.2.2.2.2.2.2.2.2.1) (q.2.2.2.2.2.2.2.2.2.2.2.2.1) (q.2.2.2.2.2.2.2.2.2.2.2.2.2)
theorem al15 {D a0 a1 a2 a3 a4 a5 a6 a7 a8 a9 a10 a11 a12 a13 a14 : Nat} {o0 o1 o2 o3 o4 o5 o6 o7 o8 o9 o10 o11 o12 o13 o14 : Obj} {R : List (Addr × Obj)} {P : Prop} (h : ∀ p ∈ (a0, o0) :: (a1, o1) :: (a2, o2) :: (a3, o3) :: (a4, o4) :: (a5, o5) :: (a6, o6) :: (a7, o7) :: (a8, o8) :: (a9, o9) :: (a10, o10) :: (a11, o11) :: (a12, o12) :: (a13, o13) :: (a14, o14) :: R, p.1 < D) (k : a0 < D → a1 < D → a2 < D → a3 < D → a4 < D → a5 < D → a6 < D → a7 < D → a8 < D → a9 < D → a10 < D → a11 < D → a12 < D → a13 < D → a14 < D → AllLt D R → P) : P :=
  have q := allLt_of h; k (q.1) (q.2.1) (q.2.2.1) (q.2.2.2.1) (q.2.2.2.2.1) (q.2.2.2.2.2.1) (q.2.2.2.2.2.2.1) (q.2.2.2.2.2.2.2.1) (q.2.2.2.2.2.2.2.2.1) (q.2.2.2.2.2.2.2.2.2.1) (q.2.2.2.2.2.2.2.2.2.2.1) (q.2.2.2.2.2.2.2.2.2.2.2.1) (q.2.2.2.2.2.2.2.2.2.2.2.2.1) (q.2.2.2.2.2.2.2.2.2.2.2.2.2.1) (q.2.2.2.2.2.2.2.2.2.2.2.2.2.2.1) (q.2.2.2.2.2.2.2.2.2.2.2.2.2.2.2)
theorem al16 {D a0 a1 a2 a3 a4 a5 a6 a7 a8 a9 a10 a11 a12 a13 a14 a15 : Nat} {o0 o1 o2 o3 o4 o5 o6 o7 o8 o9 o10 o11 o12 o13 o14 o15 : Obj} {R : List (Addr × Obj)} {P : Prop} (h : ∀ p ∈ (a0, o0) :: (a1, o1) :: (a2, o2) :: (a3, o3) :: (a4, o4) :: (a5, o5) :: (a6, o6) :: (a7, o7) :: (a8, o8) :: (a9, o9) :: (a10, o10) :: (a11, o11) :: (a12, o12) :: (a13, o13) :: (a14, o14) :: (a15, o15) :: R, p.1 < D) (k : a0 < D → a1 < D → a2 < D → a3 < D → a4 < D → a5 < D → a6 < D → a7 < D → a8 < D → a9 < D → a10 < D → a11 < D → a12 < D → a13 < D → a14 < D → a15 < D → AllLt D R → P) : P :=
  have q := allLt_of h; k (q.1) (q.2.1) (q.2.2.1) (q.2.2.2.1) (q.2.2.2.2.1) (q.2.2.2.2.2.1) (q.2.2.2.2.2.2.1) (q.2.2.2.2.2.2.2.1) (q.2.2.2.2.2.2.2.2.1) (q.2.2.2.2.2.2.2.2.2.1) (q.2.2.2.2.2.2.2.2.2.2.1) (q.2.2.2.2.2.2.2.2.2.2.2.1) (q.2.2.2.2.2.2.2.2.2.2.2.2.1) (q.2.2.2.2.2.2.2.2.2.2.2.2.2.1) (q.2.2.2.2.2.2.2.2.2.2.2.2.2.2.1) (q.2.2.2.2.2.2.2.2.2.2.2.2.2.2.2.1) (q.2.2.2.2.2.2.2.2.2.2.2.2.2.2.2.2)
theorem al18 {D a0 a1 a2 a3 a4 a5 a6 a7 a8 a9 a10 a11 a12 a13 a14 a15 a16 a17 : Nat} {o0 o1 o2 o3 o4 o5 o6 o7 o8 o9 o10 o11 o12 o13 o14 o15 o16 o17 : Obj} {R : List (Addr × Obj)} {P : Prop} (h : ∀ p ∈ (a0, o0) :: (a1, o1) :: (a2, o2) :: (a3, o3) :: (a4, o4) :: (a5, o5) :: (a6, o6) :: (a7, o7) :: (a8, o8) :: (a9, o9) :: (a10, o10) :: (a11, o11) :: (a12, o12) :: (a13, o13) :: (a14, o14) :: (a15, o15) :: (a16, o16) :: (a17, o17) :: R, p.1 < D) (k : a0 < D → a1 < D → a2 < D → a3 < D → a4 < D → a5 < D → a6 < D → a7 < D → a8 < D → a9 < D → a10 < D → a11 < D → a12 < D → a13 < D → a14 < D → a15 < D → a16 < D → a17 < D → AllLt D R → P) : P :=
  have q := allLt_of h; k (q.1) (q.2.1) (q.2.2.1) (q.2.2.2.1) (q.2.2.2.2.1) (q.2.2.2.2.2.1) (q.2.2.2.2.2.2.1) (q.2.2.2.2.2.2.2.1) (q.2.2.2.2.2.2.2.2.1) (q.2.2.2.2.2.2.2.2.2.1) (q.2.2.2.2.2.2.2.2.2.2.1) (q.2.2.2.2.2.2.2.2.2.2.2.1) (q.2.2.2.2.2.2.2.2.2.2.2.2.1) (q.2.2.2.2.2.2.2.2.2.2.2.2.2.1) (q.2.2.2.2.2.2.2.2.2.2.2.2.2.2.1) (q.2.2.2.2.2.2.2.2.2.2.2.2.2.2.2.1) (q.2.2.2.2.2.2.2.2.2.2.2.2.2.2.2.2.1) (q.2.2.2.2.2.2.2.2.2.2.2.2.2.2.2.2.2.1) (q.2.2.2.2.2.2.2.2.2.2.2.2.2.2.2.2.2.2)
theorem al20 {D a0 a1 a2 a3 a4 a5 a6 a7 a8 a9 a10 a11 a12 a13 a14 a15 a16 a17 a18 a19 : Nat} {o0 o1 o2 o3 o4 o5 o6 o7 o8 o9 o10 o11 o12 o13 o14 o15 o16 o17 o18 o19 : Obj} {R : List (Addr × Obj)} {P : Prop} (h : ∀ p ∈ (a0, o0) :: (a1, o1) :: (a2, o2) :: (a3, o3) :: (a4, o4) :: (a5, o5) :: (a6, o6) :: (a7, o7) :: (a8, o8) :: (a9, o9) :: (a10, o10) :: (a11, o11) :: (a12, o12) :: (a13, o13) :: (a14, o14) :: (a15, o15) :: (a16, o16) :: (a17, o17) :: (a18, o18) :: (a19, o19) :: R, p.1 < D) (k : a0 < D → a1 < D → a2 < D → a3 < D → a4 < D → a5 < D → a6 < D → a7 < D → a8 < D → a9 < D → a10 < D → a11 < D → a12 < D → a13 < D → a14 < D → a15 < D → a16 < D → a17 < D → a18 < D → a19 < D → AllLt D R → P) : P :=
  have q := allLt_of h; k (q.1) (q.2.1) (q.2.2.1) (q.2.2.2.1) (q.2.2.2.2.1) (q.2.2.2.2.2.1) (q.2.2.2.2.2.2.1) (q.2.2.2.2.2.2.2.1) (q.2.2.2.2.2.2.2.2.1) (q.2.2.2.2.2.2.2.2.2.1) (q.2.2.2.2.2.2.2.2.2.2.1) (q.2.2.2.2.2.2.2.2.2.2.2.1) (q.2.2.2.2.2.2.2.2.2.2.2.2.1) (q.2.2.2.2.2.2.2.2.2.2.2.2.2.1) (q.2.2.2.2.2.2.2.2.2.2.2.2.2.2.1) (q.2.2.2.2.2.2.2.2.2.2.2.2.2.2.2.1) (q.2.2.2.2.2.2.2.2.2.2.2.2.2.2.2.2.1) (q.2.2.2.2.2.2.2.2.2.2.2.2.2.2.2.2.2.1) (q.2.2.2.2.2.2.2.2.2.2.2.2.2.2.2.2.2.2.1) (q.2.2.2.2.2.2.2.2.2.2.2.2.2.2.2.2.2.2.2.1) (q.2.2.2.2.2.2.2.2.2.2.2.2.2.2.2.2.2.2.2.2)
theorem ex1 {t0 : Type} {p : t0 → Prop} {P : Prop} (h : ∃ x0,  p x0) (k : ∀ x0, p x0 → P) : P :=
  Exists.elim h k
theorem ex2 {t0 t1 : Type} {p : t0 → t1 → Prop} {P : Prop} (h : ∃ x0, ∃ x1,  p x0 x1) (k : ∀ x0 x1, p x0 x1 → P) : P :=
  Exists.elim h fun x0 h => ex1 h (k x0)
theorem ex3 {t0 t1 t2 : Type} {p : t0 → t1 → t2 → Prop} {P : Prop} (h : ∃ x0, ∃ x1, ∃ x2,  p x0 x1 x2) (k : ∀ x0 x1 x2, p x0 x1 x2 → P) : P :=
  Exists.elim h fun x0 h => ex2 h (k x0)
theorem ex4 {t0 t1 t2 t3 : Type} {p : t0 → t1 → t2 → t3 → Prop} {P : Prop} (h : ∃ x0, ∃ x1, ∃ x2, ∃ x3,  p x0 x1 x2 x3) (k : ∀ x0 x1 x2 x3, p x0 x1 x2 x3 → P) : P :=
  Exists.elim h fun x0 h => ex3 h (k x0)
theorem ex5 {t0 t1 t2 t3 t4 : Type} {p : t0 → t1 → t2 → t3 → t4 → Prop} {P : Prop} (h : ∃ x0, ∃ x1, ∃ x2, ∃ x3, ∃ x4,  p x0 x1 x2 x3 x4) (k : ∀ x0 x1 x2 x3 x4, p x0 x1 x2 x3 x4 → P) : P :=
  Exists.elim h fun x0 h => ex4 h (k x0)
theorem ex6 {t0 t1 t2 t3 t4 t5 : Type} {p : t0 → t1 → t2 → t3 → t4 → t5 → Prop} {P : Prop} (h : ∃ x0, ∃ x1, ∃ x2, ∃ x3, ∃ x4, ∃ x5,  p x0 x1 x2 x3 x4 x5) (k : ∀ x0 x1 x2 x3 x4 x5, p x0 x1 x2 x3 x4 x5 → P) : P :=
  Exists.elim h fun x0 h => ex5 h (k x0)
theorem ex7 {t0 t1 t2 t3 t4 t5 t6 : Type} {p : t0 → t1 → t2 → t3 → t4 → t5 → t6 → Prop} {P : Prop} (h : ∃ x0, ∃ x1, ∃ x2, ∃ x3, ∃ x4, ∃ x5, ∃ x6,  p x0 x1 x2 x3 x4 x5 x6) (k : ∀ x0 x1 x2 x3 x4 x5 x6, p x0 x1 x2 x3 x4 x5 x6 → P) : P :=
  Exists.elim h fun x0 h => ex6 h (k x0)
theorem ex8 {t0 t1 t2 t3 t4 t5 t6 t7 : Type} {p : t0 → t1 → t2 → t3 → t4 → t5 → t6 → t7 → Prop} {P : Prop} (h : ∃ x0, ∃ x1, ∃ x2, ∃ x3, ∃ x4, ∃ x5, ∃ x6, ∃ x7,  p x0 x1 x2 x3 x4 x5 x6 x7) (k : ∀ x0 x1 x2 x3 x4 x5 x6 x7, p x0 x1 x2 x3 x4 x5 x6 x7 → P) : P :=
  Exists.elim h fun x0 h => ex7 h (k x0)
theorem ex9 {t0 t1 t2 t3 t4 t5 t6 t7 t8 : Type} {p : t0 → t1 → t2 → t3 → t4 → t5 → t6 → t7 → t8 → Prop} {P : Prop} (h : ∃ x0, ∃ x1, ∃ x2, ∃ x3, ∃ x4, ∃ x5, ∃ x6, ∃ x7, ∃ x8,  p x0 x1 x2 x3 x4 x5 x6 x7 x8) (k : ∀ x0 x1 x2 x3 x4 x5 x6 x7 x8, p x0 x1 x2 x3 x4 x5 x6 x7 x8 → P) : P :=
  Exists.elim h fun x0 h => ex8 h (k x0)
theorem ex10 {t0 t1 t2 t3 t4 t5 t6 t7 t8 t9 : Type} {p : t0 → t1 → t2 → t3 → t4 → t5 → t6 → t7 → t8 → t9 → Prop} {P : Prop} (h : ∃ x0, ∃ x1, ∃ x2, ∃ x3, ∃ x4, ∃ x5, ∃ x6, ∃ x7, ∃ x8, ∃ x9,  p x0 x1 x2 x3 x4 x5 x6 x7 x8 x9) (k : ∀ x0 x1 x2 x3 x4 x5 x6 x7 x8 x9, p x0 x1 x2 x3 x4 x5 x6 x7 x8 x9 → P) : P :=
  Exists.elim h fun x0 h => ex9 h (k x0)
theorem ex11 {t0 t1 t2 t3 t4 t5 t6 t7 t8 t9 t10 : Type} {p : t0 → t1 → t2 → t3 → t4 → t5 → t6 → t7 → t8 → t9 → t10 → Prop} {P : Prop} (h : ∃ x0, ∃ x1, ∃ x2, ∃ x3, ∃ x4, ∃ x5, ∃ x6, ∃ x7, ∃ x8, ∃ x9, ∃ x10,  p x0 x1 x2 x3 x4 x5 x6 x7 x8 x9 x10) (k : ∀ x0 x1 x2 x3 x4 x5 x6 x7 x8 x9 x10, p x0 x1 x2 x3 x4 x5 x6 x7 x8 x9 x10 → P) : P :=
  Exists.elim h fun x0 h => ex10 h (k x0)
theorem ex12 {t0 t1 t2 t3 t4 t5 t6 t7 t8 t9 t10 t11 : Type} {p : t0 → t1 → t2 → t3 → t4 → t5 → t6 → t7 → t8 → t9 → t10 → t11 → Prop} {P : Prop} (h : ∃ x0, ∃ x1, ∃ x2, ∃ x3, ∃ x4, ∃ x5, ∃ x6, ∃ x7, ∃ x8, ∃ x9, ∃ x10, ∃ x11,  p x0 x1 x2 x3 x4 x5 x6 x7 x8 x9 x10 x11) (k : ∀ x0 x1 x2 x3 x4 x5 x6 x7 x8 x9 x10 x11, p x0 x1 x2 x3 x4 x5 x6 x7 x8 x9 x10 x11 → P) : P :=
  Exists.elim h fun x0 h => ex11 h (k x0)
theorem ex13 {t0 t1 t2 t3 t4 t5 t6 t7 t8 t9 t10 t11 t12 : Type} {p : t0 → t1 → t2 → t3 → t4 → t5 → t6 → t7 → t8 → t9 → t10 → t11 → t12 → Prop} {P : Prop} (h : ∃ x0, ∃ x1, ∃ x2, ∃ x3, ∃ x4, ∃ x5, ∃ x6, ∃ x7, ∃ x8, ∃ x9, ∃ x10, ∃ x11, ∃ x12,  p x0 x1 x2 x3 x4 x5 x6 x7 x8 x9 x10 x11 x12) (k : ∀ x0 x1 x2 x3 x4 x5 x6 x7 x8 x9 x10 x11 x12, p x0 x1 x2 x3 x4 x5 x6 x7 x8 x9 x10 x11 x12 → P) : P :=
  Exists.elim h fun x0 h => ex12 h (k x0)
theorem ex14 {t0 t1 t2 t3 t4 t5 t6 t7 t8 t9 t10 t11 t12 t13 : Type} {p : t0 → t1 → t2 → t3 → t4 → t5 → t6 → t7 → t8 → t9 → t10 → t11 → t12 → t13 → Prop} {P : Prop} (h : ∃ x0, ∃ x1, ∃ x2, ∃ x3, ∃ x4, ∃ x5, ∃ x6, ∃ x7, ∃ x8, ∃ x9, ∃ x10, ∃ x11, ∃ x12, ∃ x13,  p x0 x1 x2 x3 x4 x5 x6 x7 x8 x9 x10 x11 x12 x13) (k : ∀ x0 x1 x2 x3 x4 x5 x6 x7 x8 x9 x10 x11 x12 x13, p x0 x1 x2 x3 x4 x5 x6 x7 x8 x9 x10 x11 x12 x13 → P) : P :=
  Exists.elim h fun x0 h => ex13 h (k x0)
theorem ex15 {t0 t1 t2 t3 t4 t5 t6 t7 t8 t9 t10 t11 t12 t13 t14 : Type} {p : t0 → t1 → t2 → t3 → t4 → t5 → t6 → t7 → t8 → t9 → t10 → t11 → t12 → t13 → t14 → Prop} {P : Prop} (h : ∃ x0, ∃ x1, ∃ x2, ∃ x3, ∃ x4, ∃ x5, ∃ x6, ∃ x7, ∃ x8, ∃ x9, ∃ x10, ∃ x11, ∃ x12, ∃ x13, ∃ x14,  p x0 x1 x2 x3 x4 x5 x6 x7 x8 x9 x10 x11 x12 x13 x14) (k : ∀ x0 x1 x2 x3 x4 x5 x6 x7 x8 x9 x10 x11 x12 x13 x14, p x0 x1 x2 x3 x4 x5 x6 x7 x8 x9 x10 x11 x12 x13 x14 → P) : P :=
  Exists.elim h fun x0 h => ex14 h (k x0)
theorem sp2 {a0 a1 P : Prop} (h : a0 ∧ a1) (k : a0 → a1 → P) : P := k (h.1) (h.2)
theorem sp4 {a0 a1 a2 a3 P : Prop} (h : a0 ∧ a1 ∧ a2 ∧ a3) (k : a0 → a1 → a2 → a3 → P) : P := k (h.1) (h.2.1) (h.2.2.1) (h.2.2.2)
theorem sp5 {a0 a1 a2 a3 a4 P : Prop} (h : a0 ∧ a1 ∧ a2 ∧ a3 ∧ a4) (k : a0 → a1 → a2 → a3 → a4 → P) : P := k (h.1) (h.2.1) (h.2.2.1) (h.2.2.2.1) (h.2.2.2.2)
theorem sp8 {a0 a1 a2 a3 a4 a5 a6 a7 P : Prop} (h : a0 ∧ a1 ∧ a2 ∧ a3 ∧ a4 ∧ a5 ∧ a6 ∧ a7) (k : a0 → a1 → a2 → a3 → a4 → a5 → a6 → a7 → P) : P := k (h.1) (h.2.1) (h.2.2.1) (h.2.2.2.1) (h.2.2.2.2.1) (h.2.2.2.2.2.1) (h.2.2.2.2.2.2.1) (h.2.2.2.2.2.2.2)
theorem sp11 {a0 a1 a2 a3 a4 a5 a6 a7 a8 a9 a10 P : Prop} (h : a0 ∧ a1 ∧ a2 ∧ a3 ∧ a4 ∧ a5 ∧ a6 ∧ a7 ∧ a8 ∧ a9 ∧ a10) (k : a0 → a1 → a2 → a3 → a4 → a5 → a6 → a7 → a8 → a9 → a10 → P) : P := k (h.1) (h.2.1) (h.2.2.1) (h.2.2.2.1) (h.2.2.2.2.1) (h.2.2.2.2.2.1) (h.2.2.2.2.2.2.1) (h.2.2.2.2.2.2.2.1) (h.2.2.2.2.2.2.2.2.1) (h.2.2.2.2.2.2.2.2.2.1) (h.2.2.2.2.2.2.2.2.2.2)
theorem lim {a k n R : Nat} (h : a + n < R) (hk : Nat.ble k n = true) : a + k < R := Nat.lt_of_le_of_lt (Nat.add_le_add_left (Nat.le_of_ble_eq_true hk) a) h
theorem lim0 {a n R : Nat} (h : a + n < R) : a < R := Nat.lt_of_le_of_lt (Nat.le_add_right a n) h
theorem execs_kt {M : Model} {A : Around} {env : Env} {st : Stmt} {rest : List Stmt} {Q : Flow → Shared → Prop} {E : Value → Shared → Prop} {h : Heap} {ge : Array GenState} {dr : Drawn} {os : OsState} {t : Nat}
    (hh : ∀ (t : Nat) (K : Flow → Shared → Prop), (∀ s', wpAny M A (execs rest env) Q E s' → K .next s') → (∀ v s', Q (.ret v) s' → K (.ret v) s') → wpAny M A (exec st env) K E ⟨h, ge, dr, t, os⟩) : wpAny M A (execs (st :: rest) env) Q E ⟨h, ge, dr, t, os⟩ :=
  wpAny_execs_cons (hh t _ (fun _ h => h) (fun _ _ h => h))
theorem execs_join {M : Model} {A : Around} {env : Env} {st : Stmt} {rest : List Stmt} {Q : Flow → Shared → Prop} {E : Value → Shared → Prop} {s : Shared} (P : Shared → Prop) (tail : ∀ s', P s' → wpAny M A (execs rest env) Q E s')
    (first : wpAny M A (exec st env) (fun f s' => match f with | .next => P s' | f => Q f s') E s) : wpAny M A (execs (st :: rest) env) Q E s :=
  wpAny_execs_cons (wpAny_mono first (fun f s' h => by cases f <;> first | exact tail _ h | exact h) fun _ _ h => h)
theorem ltr {a m b : Nat} (h2 : m < b) (h1 : a < m) : a < b := Nat.lt_trans h1 h2
end SATell
section SBGlob
section
variable (w : World)
theorem gv_law_pull : GV w (Str.ofString "_law_pull") (.ref 443) := .inl (by k_is)
theorem gv_law_default : GV w (Str.ofString "_law_default") (.ref 450) := .inl (by k_is)
theorem gv_law_argument : GV w (Str.ofString "_law_argument") (.ref 457) := .inl (by k_is)
theorem gv_law_binding : GV w (Str.ofString "_law_binding") (.ref 464) := .inl (by k_is)
theorem gv_law_dots : GV w (Str.ofString "_law_dots") (.ref 469) := .inl (by k_is)
theorem gv_law_is_missing : GV w (Str.ofString "_law_is_missing") (.ref 476) := .inl (by k_is)
theorem gv_missing : GV w (Str.ofString "missing") (.ref 360) := .inl (by k_is)
theorem gv_whole : GV w (Str.ofString "whole") (.ref 367) := .inl (by k_is)
theorem gv_symbol : GV w (Str.ofString "symbol") (.ref 374) := .inl (by k_is)
theorem gv_call_of : GV w (Str.ofString "call_of") (.ref 381) := .inl (by k_is)
theorem gv_share : GV w (Str.ofString "share") (.ref 388) := .inl (by k_is)
theorem gv_done_promise : GV w (Str.ofString "done_promise") (.ref 395) := .inl (by k_is)
theorem gv_bound_argument : GV w (Str.ofString "bound_argument") (.ref 402) := .inl (by k_is)
theorem gv_dots_argument : GV w (Str.ofString "dots_argument") (.ref 409) := .inl (by k_is)
theorem gv_default_binding : GV w (Str.ofString "default_binding") (.ref 416) := .inl (by k_is)
theorem gv_bind_formals : GV w (Str.ofString "bind_formals") (.ref 422) := .inl (by k_is)
theorem gv_is_default : GV w (Str.ofString "is_default") (.ref 429) := .inl (by k_is)
theorem gv_missing_argument : GV w (Str.ofString "missing_argument") (.ref 436) := .inl (by k_is)
theorem gv_match_names : GV w (Str.ofString "match_names") (.ref 139) := .inl (by k_is)
theorem gv_lookup_here : GV w (Str.ofString "lookup_here") (.ref 146) := .inl (by k_is)
theorem gv_null : GV w (Str.ofString "null") (.ref 353) := .inl (by k_is)
theorem gvC_Null : GV w (Str.ofString "Null") (.ref 163) := .inl (by k_is)
theorem gvC_Missing : GV w (Str.ofString "Missing") (.ref 184) := .inl (by k_is)
theorem gvC_Vector : GV w (Str.ofString "Vector") (.ref 213) := .inl (by k_is)
theorem gvC_Symbol : GV w (Str.ofString "Symbol") (.ref 234) := .inl (by k_is)
theorem gvC_Call : GV w (Str.ofString "Call") (.ref 256) := .inl (by k_is)
theorem gvC_Closure : GV w (Str.ofString "Closure") (.ref 278) := .inl (by k_is)
theorem gvC_Environment : GV w (Str.ofString "Environment") (.ref 300) := .inl (by k_is)
theorem gvC_Promise : GV w (Str.ofString "Promise") (.ref 321) := .inl (by k_is)
theorem gvC_Dots : GV w (Str.ofString "Dots") (.ref 342) := .inl (by k_is)
theorem gvC_Matching : GV w (Str.ofString "Matching") (.ref 110) := .inl (by k_is)
theorem gvC_Refusal : GV w (Str.ofString "Refusal") (.ref 51) := .inl (by k_is)
theorem gv_len : GV w (Str.ofString "len") (.builtin "len") := .inr ⟨by k_is, by boot_fast, by decide⟩
theorem gv_range : GV w (Str.ofString "range") (.type "range") := .inr ⟨by k_is, by boot_fast, by decide⟩
theorem gv_list : GV w (Str.ofString "list") (.type "list") := .inr ⟨by k_is, by boot_fast, by decide⟩
theorem gv_sorted : GV w (Str.ofString "sorted") (.builtin "sorted") := .inr ⟨by k_is, by boot_fast, by decide⟩
theorem gv_min : GV w (Str.ofString "min") (.builtin "min") := .inr ⟨by k_is, by boot_fast, by decide⟩
theorem gv_isinstance : GV w (Str.ofString "isinstance") (.builtin "isinstance") := .inr ⟨by k_is, by boot_fast, by decide⟩
end
end SBGlob
theorem reg_k_mem_macros : True := by
  k_with "k_mem_macros" => (k_extra "allgen_close_more")
  trivial
local macro_rules | `(tactic| k_mem) => `(tactic| k_extra "k_mem_macros")
theorem reg_is_list_macros : True := by
  k_with "is_list_macros" => (exact News.isList (by assumption) (by k_mem))
  trivial
local macro_rules | `(tactic| is_list) => `(tactic| k_extra "is_list_macros")
theorem reg_k_all_macros : True := by
  k_with "k_all_macros" => (first | (with_reducible exact fun p hp => off1_mem (by with_reducible assumption) p hp) | exact fun p hp => Nat.ne_of_lt (ktn_ltOf (by with_reducible assumption) p hp) | exact ne_all (by with_reducible assumption))
  trivial
local macro_rules | `(tactic| k_all) => `(tactic| k_extra "k_all_macros")
theorem reg_k_ne_macros : True := by
  k_with "k_ne_macros" => (first | (with_reducible exact Nat.ne_of_gt (by with_reducible assumption)) | (with_reducible exact Nat.ne_of_lt (by with_reducible assumption)) | (with_reducible assumption) | (with_reducible exact Ne.symm (by with_reducible assumption)) | (with_reducible exact Nat.ne_of_gt (ltr (by with_reducible assumption) (by with_reducible assumption))) | (with_reducible exact Nat.ne_of_lt (ltr (by with_reducible assumption) (by with_reducible assumption))) | (refine neN ?_; (try dsimp only); k_extra "OM"))
  trivial
local macro_rules | `(tactic| k_ne) => `(tactic| k_extra "k_ne_macros")
theorem reg_steps : True := by
  k_with "SK" => (repeat' (first | k_extra "k_KC" | k_extra "tb_start" | (k_unfold; (try dsimp only)) | (k_end; wrow_close) | (dsimp only [List.nil_append, List.append_nil, List.cons_append]; k_extra "tb_start") | (walk1; (try dsimp only)) | (dsimp only; walk1) | (leave1; try dsimp only) | fail "no step"))
  k_with "SLK" => (repeat' (first | k_extra "k_KC" | k_extra "k_caught0" | k_extra "tb_start" | (k_unfold; (try dsimp only)) | (k_end; wrow_close) | (dsimp only [List.nil_append, List.append_nil, List.cons_append]; k_extra "tb_start") | (walk1; (try dsimp only)) | (dsimp only; walk1) | (leave1; try dsimp only) | fail "no step"))
  k_with "S0" => (repeat' (first | k_extra "tb_start" | (k_unfold; (try dsimp only)) | (k_end; wrow_close) | (dsimp only [List.nil_append, List.append_nil, List.cons_append]; k_extra "tb_start") | (walk1; (try dsimp only)) | (dsimp only; walk1) | (leave1; try dsimp only) | fail "no step"))
  k_with "SL" => (repeat' (first | k_extra "k_caught0" | k_extra "tb_start" | (k_unfold; (try dsimp only)) | (k_end; wrow_close) | (dsimp only [List.nil_append, List.append_nil, List.cons_append]; k_extra "tb_start") | (walk1; (try dsimp only)) | (dsimp only; walk1) | (leave1; try dsimp only) | fail "no step"))
  trivial
theorem reg_macros : True := by
  k_with "ALl1" => (first
  | (refine al26 zql1 ?_; clear zql1; intro _ _ _ _ _ _ _ _ _ _ _ _ _ _ _ _ _ _ _ _ _ _ _ _ _ _ _)
  | (refine al25 zql1 ?_; clear zql1; intro _ _ _ _ _ _ _ _ _ _ _ _ _ _ _ _ _ _ _ _ _ _ _ _ _ _)
  | (refine al24 zql1 ?_; clear zql1; intro _ _ _ _ _ _ _ _ _ _ _ _ _ _ _ _ _ _ _ _ _ _ _ _ _)
  | (refine al23 zql1 ?_; clear zql1; intro _ _ _ _ _ _ _ _ _ _ _ _ _ _ _ _ _ _ _ _ _ _ _ _)
  | (refine al22 zql1 ?_; clear zql1; intro _ _ _ _ _ _ _ _ _ _ _ _ _ _ _ _ _ _ _ _ _ _ _)
  | (refine al21 zql1 ?_; clear zql1; intro _ _ _ _ _ _ _ _ _ _ _ _ _ _ _ _ _ _ _ _ _ _)
  | (refine al20 zql1 ?_; clear zql1; intro _ _ _ _ _ _ _ _ _ _ _ _ _ _ _ _ _ _ _ _ _)
  | (refine al19 zql1 ?_; clear zql1; intro _ _ _ _ _ _ _ _ _ _ _ _ _ _ _ _ _ _ _ _)
  | (refine al18 zql1 ?_; clear zql1; intro _ _ _ _ _ _ _ _ _ _ _ _ _ _ _ _ _ _ _)
  | (refine al17 zql1 ?_; clear zql1; intro _ _ _ _ _ _ _ _ _ _ _ _ _ _ _ _ _ _)
  | (refine al16 zql1 ?_; clear zql1; intro _ _ _ _ _ _ _ _ _ _ _ _ _ _ _ _ _)
  | (refine al15 zql1 ?_; clear zql1; intro _ _ _ _ _ _ _ _ _ _ _ _ _ _ _ _)
  | (refine al14 zql1 ?_; clear zql1; intro _ _ _ _ _ _ _ _ _ _ _ _ _ _ _)
  | (refine al13 zql1 ?_; clear zql1; intro _ _ _ _ _ _ _ _ _ _ _ _ _ _)
  | (refine al12 zql1 ?_; clear zql1; intro _ _ _ _ _ _ _ _ _ _ _ _ _)
  | (refine al11 zql1 ?_; clear zql1; intro _ _ _ _ _ _ _ _ _ _ _ _)
  | (refine al10 zql1 ?_; clear zql1; intro _ _ _ _ _ _ _ _ _ _ _)
  | (refine al9 zql1 ?_; clear zql1; intro _ _ _ _ _ _ _ _ _ _)
  | (refine al8 zql1 ?_; clear zql1; intro _ _ _ _ _ _ _ _ _)
  | (refine al7 zql1 ?_; clear zql1; intro _ _ _ _ _ _ _ _)
  | (refine al6 zql1 ?_; clear zql1; intro _ _ _ _ _ _ _)
  | (refine al5 zql1 ?_; clear zql1; intro _ _ _ _ _ _)
  | (refine al4 zql1 ?_; clear zql1; intro _ _ _ _ _)
  | (refine al3 zql1 ?_; clear zql1; intro _ _ _ _)
  | (refine al2 zql1 ?_; clear zql1; intro _ _ _)
  | (refine al1 zql1 ?_; clear zql1; intro _ _))
  k_with "ALl5" => (first
  | (refine al26 zql5 ?_; clear zql5; intro _ _ _ _ _ _ _ _ _ _ _ _ _ _ _ _ _ _ _ _ _ _ _ _ _ _ _)
  | (refine al25 zql5 ?_; clear zql5; intro _ _ _ _ _ _ _ _ _ _ _ _ _ _ _ _ _ _ _ _ _ _ _ _ _ _)
  | (refine al24 zql5 ?_; clear zql5; intro _ _ _ _ _ _ _ _ _ _ _ _ _ _ _ _ _ _ _ _ _ _ _ _ _)
  | (refine al23 zql5 ?_; clear zql5; intro _ _ _ _ _ _ _ _ _ _ _ _ _ _ _ _ _ _ _ _ _ _ _ _)
  | (refine al22 zql5 ?_; clear zql5; intro _ _ _ _ _ _ _ _ _ _ _ _ _ _ _ _ _ _ _ _ _ _ _)
  | (refine al21 zql5 ?_; clear zql5; intro _ _ _ _ _ _ _ _ _ _ _ _ _ _ _ _ _ _ _ _ _ _)
  | (refine al20 zql5 ?_; clear zql5; intro _ _ _ _ _ _ _ _ _ _ _ _ _ _ _ _ _ _ _ _ _)
  | (refine al19 zql5 ?_; clear zql5; intro _ _ _ _ _ _ _ _ _ _ _ _ _ _ _ _ _ _ _ _)
  | (refine al18 zql5 ?_; clear zql5; intro _ _ _ _ _ _ _ _ _ _ _ _ _ _ _ _ _ _ _)
  | (refine al17 zql5 ?_; clear zql5; intro _ _ _ _ _ _ _ _ _ _ _ _ _ _ _ _ _ _)
  | (refine al16 zql5 ?_; clear zql5; intro _ _ _ _ _ _ _ _ _ _ _ _ _ _ _ _ _)
  | (refine al15 zql5 ?_; clear zql5; intro _ _ _ _ _ _ _ _ _ _ _ _ _ _ _ _)
  | (refine al14 zql5 ?_; clear zql5; intro _ _ _ _ _ _ _ _ _ _ _ _ _ _ _)
  | (refine al13 zql5 ?_; clear zql5; intro _ _ _ _ _ _ _ _ _ _ _ _ _ _)
  | (refine al12 zql5 ?_; clear zql5; intro _ _ _ _ _ _ _ _ _ _ _ _ _)
  | (refine al11 zql5 ?_; clear zql5; intro _ _ _ _ _ _ _ _ _ _ _ _)
  | (refine al10 zql5 ?_; clear zql5; intro _ _ _ _ _ _ _ _ _ _ _)
  | (refine al9 zql5 ?_; clear zql5; intro _ _ _ _ _ _ _ _ _ _)
  | (refine al8 zql5 ?_; clear zql5; intro _ _ _ _ _ _ _ _ _)
  | (refine al7 zql5 ?_; clear zql5; intro _ _ _ _ _ _ _ _)
  | (refine al6 zql5 ?_; clear zql5; intro _ _ _ _ _ _ _)
  | (refine al5 zql5 ?_; clear zql5; intro _ _ _ _ _ _)
  | (refine al4 zql5 ?_; clear zql5; intro _ _ _ _ _)
  | (refine al3 zql5 ?_; clear zql5; intro _ _ _ _)
  | (refine al2 zql5 ?_; clear zql5; intro _ _ _)
  | (refine al1 zql5 ?_; clear zql5; intro _ _))
  k_with "ALl6" => (first
  | (refine al26 zql6 ?_; clear zql6; intro _ _ _ _ _ _ _ _ _ _ _ _ _ _ _ _ _ _ _ _ _ _ _ _ _ _ _)
  | (refine al25 zql6 ?_; clear zql6; intro _ _ _ _ _ _ _ _ _ _ _ _ _ _ _ _ _ _ _ _ _ _ _ _ _ _)
  | (refine al24 zql6 ?_; clear zql6; intro _ _ _ _ _ _ _ _ _ _ _ _ _ _ _ _ _ _ _ _ _ _ _ _ _)
  | (refine al23 zql6 ?_; clear zql6; intro _ _ _ _ _ _ _ _ _ _ _ _ _ _ _ _ _ _ _ _ _ _ _ _)
  | (refine al22 zql6 ?_; clear zql6; intro _ _ _ _ _ _ _ _ _ _ _ _ _ _ _ _ _ _ _ _ _ _ _)
  | (refine al21 zql6 ?_; clear zql6; intro _ _ _ _ _ _ _ _ _ _ _ _ _ _ _ _ _ _ _ _ _ _)
  | (refine al20 zql6 ?_; clear zql6; intro _ _ _ _ _ _ _ _ _ _ _ _ _ _ _ _ _ _ _ _ _)
  | (refine al19 zql6 ?_; clear zql6; intro _ _ _ _ _ _ _ _ _ _ _ _ _ _ _ _ _ _ _ _)
  | (refine al18 zql6 ?_; clear zql6; intro _ _ _ _ _ _ _ _ _ _ _ _ _ _ _ _ _ _ _)
  | (refine al17 zql6 ?_; clear zql6; intro _ _ _ _ _ _ _ _ _ _ _ _ _ _ _ _ _ _)
  | (refine al16 zql6 ?_; clear zql6; intro _ _ _ _ _ _ _ _ _ _ _ _ _ _ _ _ _)
  | (refine al15 zql6 ?_; clear zql6; intro _ _ _ _ _ _ _ _ _ _ _ _ _ _ _ _)
  | (refine al14 zql6 ?_; clear zql6; intro _ _ _ _ _ _ _ _ _ _ _ _ _ _ _)
  | (refine al13 zql6 ?_; clear zql6; intro _ _ _ _ _ _ _ _ _ _ _ _ _ _)
  | (refine al12 zql6 ?_; clear zql6; intro _ _ _ _ _ _ _ _ _ _ _ _ _)
  | (refine al11 zql6 ?_; clear zql6; intro _ _ _ _ _ _ _ _ _ _ _ _)
  | (refine al10 zql6 ?_; clear zql6; intro _ _ _ _ _ _ _ _ _ _ _)
  | (refine al9 zql6 ?_; clear zql6; intro _ _ _ _ _ _ _ _ _ _)
  | (refine al8 zql6 ?_; clear zql6; intro _ _ _ _ _ _ _ _ _)
  | (refine al7 zql6 ?_; clear zql6; intro _ _ _ _ _ _ _ _)
  | (refine al6 zql6 ?_; clear zql6; intro _ _ _ _ _ _ _)
  | (refine al5 zql6 ?_; clear zql6; intro _ _ _ _ _ _)
  | (refine al4 zql6 ?_; clear zql6; intro _ _ _ _ _)
  | (refine al3 zql6 ?_; clear zql6; intro _ _ _ _)
  | (refine al2 zql6 ?_; clear zql6; intro _ _ _)
  | (refine al1 zql6 ?_; clear zql6; intro _ _))
  k_with "allgen_close_more" => (first | exact List.Mem.head _ | (with_reducible assumption) | ((with_reducible refine' memTail ?_); k_extra "allgen_close_more") | ((with_reducible refine' memLeft ?_); (with_reducible assumption)) | ((with_reducible refine' memApp ?_); k_extra "allgen_close_more"))
  k_with "allgen_close2_more" => (first | (with_reducible exact Slot.here) | (with_reducible exact Put.here) | (with_reducible exact PutV.here) | ((with_reducible refine Slot.there ?_); k_extra "allgen_close2_more") | ((with_reducible refine' Put.there ?zqkp); (case zqkp => k_extra "allgen_close2_more")) | ((with_reducible refine' PutV.there ?zqkp); (case zqkp => k_extra "allgen_close2_more")))
  k_with "ktr_rel" => (k_extra "allgen_close2_more")
  k_with "tb_rel" => (first | (with_reducible exact gv_law_pull _) | (with_reducible exact gv_law_default _) | (with_reducible exact gv_law_argument _) | (with_reducible exact gv_law_binding _) | (with_reducible exact gv_law_dots _) | (with_reducible exact gv_law_is_missing _) | (with_reducible exact gv_missing _) | (with_reducible exact gv_whole _) | (with_reducible exact gv_symbol _) | (with_reducible exact gv_call_of _) | (with_reducible exact gv_share _) | (with_reducible exact gv_done_promise _) | (with_reducible exact gv_bound_argument _) | (with_reducible exact gv_dots_argument _) | (with_reducible exact gv_default_binding _) | (with_reducible exact gv_bind_formals _) | (with_reducible exact gv_is_default _) | (with_reducible exact gv_missing_argument _) | (with_reducible exact gv_match_names _) | (with_reducible exact gv_lookup_here _) | (with_reducible exact gv_null _) | (with_reducible exact gvC_Null _) | (with_reducible exact gvC_Missing _) | (with_reducible exact gvC_Vector _) | (with_reducible exact gvC_Symbol _) | (with_reducible exact gvC_Call _) | (with_reducible exact gvC_Closure _) | (with_reducible exact gvC_Environment _) | (with_reducible exact gvC_Promise _) | (with_reducible exact gvC_Dots _) | (with_reducible exact gvC_Matching _) | (with_reducible exact gvC_Refusal _) | (with_reducible exact gv_len _) | (with_reducible exact gv_range _) | (with_reducible exact gv_list _) | (with_reducible exact gv_sorted _) | (with_reducible exact gv_min _) | (with_reducible exact gv_isinstance _))
  k_with "kat_tups" => (first
  | (with_reducible refine wpAny_execs_cons ?_)
  | ((with_reducible refine' st_S ?zqT ?zqF ?zqN ?zqp ?_); (case zqT => assumption); (case zqF => k_asm); (case zqN => k_asm); (case zqp => k_extra "allgen_close2_more"); intro zqh' zqF' zqN'; (try k_sweep))
  | ((with_reducible refine' wpAny_isTrue_Compare1 ?_ ?zqhm); (case zqhm => rfl))
  | (with_reducible refine wpAny_truthy_bool ?_)
  | ((with_reducible refine' args_cons ?_ ?zqhe); (case zqhe => rfl))
  | (with_reducible refine args_nil ?_)
  | (with_reducible refine wpAny_execs_nil ?_)
  | ((with_reducible refine' callWith_K0 ?zqk1 ?zqk2 ?_); (case zqk1 => k_in); (case zqk2 => k_is); (try dsimp only [List.nil_append, List.append_nil]))
  | (with_reducible refine callWith_method0 ?_)
  | ((with_reducible refine' callWith_method1 ?_ ?zqhe ?zqhp); (case zqhe => rfl); (case zqhp => rfl))
  | (with_reducible refine isTrue_or ?_)
  | (with_reducible refine isTrue_and ?_)
  | (with_reducible refine isTrue_or_nil ?_)
  | (with_reducible refine isTrue_and_nil ?_)
  | (with_reducible refine isTrue_not ?_)
  | ((with_reducible refine' get_mem ?zqF ?zqX ?zqN ?zqhx ?zqhd ?zqhc ?zqha ?zqhn ?zqsl ?zqhv ?_); (case zqF => k_asm); (case zqX => k_asm); (case zqN => k_asm); (case zqhx => k_extra "allgen_close_more"); (case zqhd => k_extra "allgen_close_more"); (case zqhc => first | assumption | k_extra "tb_rel"); (case zqha => first | assumption | k_extra "tb_rel"); (case zqhn => first | assumption | k_extra "tb_rel"); (case zqsl => k_extra "allgen_close2_more"); (case zqhv => k_handed))
  | ((with_reducible refine' get_rec ?zqF ?zqX ?zqN ?zqR ?zqsub ?zqhc ?zqha ?zqhn ?zqsl ?zqhv ?_); (case zqF => k_asm); (case zqX => k_asm); (case zqN => k_asm); (case zqR => assumption); (case zqsub => repeat (first | (with_reducible exact subRefl) | (with_reducible exact subLeft) | (with_reducible refine' subTail ?_) | (with_reducible refine' subApp ?_))); (case zqhc => first | assumption | k_extra "tb_rel"); (case zqha => first | assumption | k_extra "tb_rel"); (case zqhn => first | assumption | k_extra "tb_rel"); (case zqsl => k_extra "allgen_close2_more"); (case zqhv => k_handed))
  | ((with_reducible refine' callWith_K ?zqk1 ?zqk2 ?_ ?zqhe ?zqhp); (case zqk1 => k_asm); (case zqk2 => k_is); (case zqhe => rfl); (case zqhp => rfl))
  | ((with_reducible refine' set_new ?zqF ?zqX ?zqN ?zqhx ?zqhc ?zqha ?zqhl ?zqhn ?zqhz ?zqU ?_); (case zqF => k_asm); (case zqX => k_asm); (case zqN => k_asm); (case zqhx => k_extra "allgen_close_more"); (case zqU => k_upd); (case zqhc => k_extra "tb_rel"); (case zqha => k_extra "tb_rel"); (case zqhl => rfl); (case zqhn => decide +kernel); (case zqhz => decide); intro zqh' zqF' zqN'; (try dsimp only [List.cons_append, List.nil_append] at zqN'); (try k_sweep)))
  k_with "kfm_turns" => (first
  | ((with_reducible refine' nm_S ?zqT ?zqF ?zqv ?_); (case zqT => assumption); (case zqF => k_asm); (case zqv => k_extra "allgen_close2_more"))
  | ((with_reducible refine' nm_G ?zqT ?zqx ?zqv ?zqF ?zqX ?zqTp ?_); (case zqT => assumption); (case zqx => k_extra "allgen_close_more"); (case zqv => k_extra "tb_rel"); (case zqF => k_asm); (case zqX => k_asm); (case zqTp => k_asm))
  | (with_reducible refine c_int ?_)
  | (with_reducible refine c_str ?_)
  | (with_reducible refine wpAny_Constant_none ?_)
  | (with_reducible refine wpAny_Constant_bool ?_)
  | ((with_reducible refine' wpAny_Compare1 ?_ ?zqhm); (case zqhm => rfl))
  | (with_reducible refine Subscript_ ?_)
  | (with_reducible refine wpAny_BinOp ?_)
  | ((with_reducible refine' Attribute_any_ ?_ ?zqhe); (case zqhe => rfl))
  | ((with_reducible refine' methodCall_KW ?_ ?zqhe); (case zqhe => rfl))
  | (with_reducible refine BoolOp_or ?_)
  | (with_reducible refine BoolOp_and ?_)
  | (with_reducible refine BoolOp_one ?_)
  | (with_reducible refine call_nm ?_))
  k_with "kpt_turns" => (first
  | ((with_reducible refine' wpAny_Assign_Name ?_ ?zqhs); (case zqhs => rfl))
  | (with_reducible refine wpAny_If ?_)
  | (with_reducible refine wpAny_Return_some ?_)
  | ((with_reducible refine' plainObj_wpAny_Assign_Attribute ?_ ?zqhs); (case zqhs => rfl)))
  k_with "kct_strs" => (first
  | (with_reducible refine eqs_t ?_)
  | ((with_reducible refine' eqs_f ?zqne ?_); (case zqne => first | (with_reducible assumption) | decide +kernel))
  | (with_reducible refine nes_f ?_)
  | ((with_reducible refine' nes_t ?zqne ?_); (case zqne => first | (with_reducible assumption) | decide +kernel))
  | (with_reducible refine is_ref_none ?_))
  k_with "o_fieldsN" => (first
  | ((with_reducible refine zqk1' _ ?_); (try clear zqk1' zqk2' zqK'))
  | ((with_reducible refine zqk2' _ _ ?_); (try clear zqk1' zqk2' zqK'))
  | (with_reducible refine ite_tt ?_)
  | (with_reducible refine ite_ff ?_)
  | ((with_reducible refine split_dec ?_ ?_) <;> intro _)
  | ((with_reducible show Frag.In _ _ ∧ _); refine ⟨by k_in, ?_⟩; (try dsimp only [List.nil_append, List.cons_append])))
  k_with "kp_flats" => (first
  | ((with_reducible refine' sub_lit ?zqN ?zqhm ?zqk0 ?zqk1 ?zqkx ?_ ?zqks); (case zqks => with_unfolding_all rfl); (case zqN => k_asm); (case zqhm => k_extra "allgen_close_more"); (case zqk0 => decide); (case zqk1 => decide); (case zqkx => rfl)))
  k_with "lsm_bools" => (first
  | ((with_reducible refine' len_any ?zqN ?zqhm ?zqhz ?zqhx ?_); (case zqN => k_asm); (case zqhm => k_extra "allgen_close_more"); (case zqhz => first | k_extra "OM" | (simp; done)); (case zqhx => first | ((simp only [List.length_cons, List.length_nil, Nat.reduceAdd, Int.cast_ofNat_Int]); exact rfl) | exact rfl)))
  k_with "tb_start" => (first
  | ((with_reducible show wpAny _ _ (eval _ _) _ _ _); k_extra "kfm_turns")
  | ((with_reducible show wpAny _ _ (call (Value.ref _) _) _ _ _); k_extra "kpc_turns")
  | ((with_reducible show wpAny _ _ (exec _ _) _ _ _); k_extra "kpt_turns")
  | ((with_reducible show wpAny _ _ (compareOp _ _ _) _ _ _); k_extra "kct_strs")
  | ((with_reducible show wpAny _ _ (subscriptTail _ _ _ _) _ _ _); k_extra "kp_flats")
  | ((with_reducible show wpAny _ _ (call _ _) _ _ _); k_extra "lsm_bools")
  | ((with_reducible show wpAny _ _ _ _ _ _); k_extra "kat_tups")
  | k_extra "o_fieldsN")
  k_with "k_KC" => (first | ((with_reducible refine execs_kt ?_); intro zqtt' zqK' zqk1' zqk2') | ((with_reducible refine execs_k ?_); intro zqK' zqk1' zqk2'))
  k_with "OM" => (first | (with_reducible assumption) | (with_reducible exact Nat.ne_of_gt (by with_reducible assumption)) | (with_reducible exact Nat.ne_of_lt (by with_reducible assumption)) | (with_reducible exact Ne.symm (by with_reducible assumption)) | (with_reducible exact Nat.le_of_lt (by with_reducible assumption)) | (with_reducible exact Nat.le_refl _) | (with_reducible exact ltr (by with_reducible assumption) (by with_reducible assumption)) | (with_reducible exact Nat.ne_of_gt (ltr (by with_reducible assumption) (by with_reducible assumption))) | (with_reducible exact Nat.ne_of_lt (ltr (by with_reducible assumption) (by with_reducible assumption))) | (with_reducible exact Nat.le_of_lt (ltr (by with_reducible assumption) (by with_reducible assumption))) | (with_reducible exact Nat.le_trans (by with_reducible assumption) (Nat.le_of_ble_eq_true rfl)) | (with_reducible exact Int.le_trans (by with_reducible assumption) (by decide)) | (with_reducible exact Int.lt_of_lt_of_le (by with_reducible assumption) (by decide)) | (with_reducible exact Int.lt_of_le_of_lt (by with_reducible assumption) (by decide)) | (with_reducible exact ltr (by with_reducible assumption) (ltr (by with_reducible assumption) (by with_reducible assumption))) | (with_reducible exact Nat.ne_of_gt (ltr (by with_reducible assumption) (ltr (by with_reducible assumption) (by with_reducible assumption)))) | (with_reducible exact Nat.ne_of_lt (ltr (by with_reducible assumption) (ltr (by with_reducible assumption) (by with_reducible assumption)))) | decide | omega)
  trivial
section SBPull
theorem fm_lo (x : Int) {m : Int} (h : 1 ≤ m) : 0 ≤ x.fmod m := by
  rw [Int.fmod_eq_emod_of_nonneg x (by k_extra "OM")]; exact Int.emod_nonneg x (by k_extra "OM")
theorem fm_hi (x : Int) {m : Int} (h : 1 ≤ m) : x.fmod m < m := by
  rw [Int.fmod_eq_emod_of_nonneg x (by k_extra "OM")]; exact Int.emod_lt_of_pos x (by k_extra "OM")
theorem fd_lo {x m : Int} (hx : 0 ≤ x) (h : 1 ≤ m) : 0 ≤ x.fdiv m := by
  rw [Int.fdiv_eq_ediv_of_nonneg x (by k_extra "OM")]; exact Int.ediv_nonneg hx (by k_extra "OM")
theorem fd_hi {x m b : Int} (hx : 0 ≤ x) (hb : x < b) (h : 1 ≤ m) : x.fdiv m < b := by
  rw [Int.fdiv_eq_ediv_of_nonneg x (by k_extra "OM")]; exact Int.lt_of_le_of_lt (Int.ediv_le_self m hx) hb
theorem fm_hi70 (x : Int) : x.fmod (10 ^ Int.toNat 70) < 10 ^ 70 := fm_hi x (m := 10 ^ Int.toNat 70) (by decide)
theorem fm_hi61 (x : Int) : x.fmod 2305843009213693951 < 10 ^ 70 := Int.lt_of_lt_of_le (fm_hi x (by decide)) (by decide)
inductive PullMid (g : Heap) (L W R : Addr) (own : Led) (k most : Int) (tm : Tok) (n : Nat) (ge : Array GenState) (dr : Drawn) (os : OsState) (s' : Shared) : Prop
  | mk (h' : Heap) (tk' : Nat) (v1 v2 v3 v4 v5 : Option Value) (a' : Int) (ta' : Tok) (k' : Int) (tk2 : Tok) (e : s' = ⟨h', ge, dr, tk', os⟩) (F : Fr g L h' (frm [Str.ofString "well", Str.ofString "most", Str.ofString "spot_at", Str.ofString "row", Str.ofString "cell", Str.ofString "mixed", Str.ofString "drawn"] [some (.ref W), some (.int most tm), v1, v2, v3, v4, v5])) (N : News g L h' ((W, listOf #[.int a' ta', .ref R, .int k' tk2] n) :: own)) (a0 : 0 ≤ a') (a1 : a' < 10^70) (k0 : k ≤ k') (k1 : k' ≤ k + 1) : PullMid g L W R own k most tm n ge dr os s'
theorem pull0 (w : World) (mean : ExcName → Option Value) (mg mb : Str → Option Value) (W R : Addr) (own : Led) (a k : Int) (ta tk tm : Tok) (n nR : Nat) (vs : List Value) (ns : List Int) (most : Int)
   (hoff : OwnOff own [W]) (hR : (R, listOf vs.toArray nR) ∈ own) (hi : IntsAre vs ns) (h1 : 0 < ns.length) (h2 : ns.length ≤ 40) (ha : 0 ≤ a) (ha' : a < 10^70) (hk : 0 ≤ k) (hk' : k ≤ 1000) (hm : 1 ≤ most) (hm' : most ≤ 20) :
   Tell w mean mg mb 2 443 [.ref W, .int most tm] ((W, listOf #[.int a ta, .ref R, .int k tk] n) :: own)
    (fun r news' => ∃ d t a' ta' k' tk', r = .int d t ∧ 0 ≤ d ∧ d < most ∧ 0 ≤ a' ∧ a' < 10^70 ∧ k ≤ k' ∧ k' ≤ k+1 ∧ news' = ((W, listOf #[.int a' ta', .ref R, .int k' tk'] n) :: own)) := by
  have hvz : vs.length ≤ 1000 := by have := hi.length; omega
  refine' TellC.tell ?_
  refine' tellC_of [Str.ofString "well", Str.ofString "most"] [.ref W, .int most tm] [Str.ofString "spot_at", Str.ofString "row", Str.ofString "cell", Str.ofString "mixed", Str.ofString "drawn"] [Str.ofString "len"] ?ho ?hcd ?hb rfl ?hl ?hg ?hc ?h1 ?h2 ?R
  case ho => k_dflt k_is
  case hcd => k_dflt k_is
  case hb => exact fun _ _ _ _ => BindsTo.of_eq rfl
  case hl => kernel_rfl!
  case hg => kernel_rfl!
  case hc => kernel_rfl!
  case h1 => rfl
  case h2 => rfl
  intro LT GT dp un gd outer A₀ base g L s B F X N T hd hu
  simp only [List.map, List.cons_append, List.nil_append] at F LT
  obtain ⟨hp, ge, dr, tk, os⟩ := s
  refine execs_join (PullMid g L W R own k most tm n ge dr os) ?tail ?first
  case first =>
    k_extra "SK"
    all_goals (refine ⟨_, _, _, _, _, _, _, _, _, _, _, rfl, (by k_asm), (by k_asm), ?_, ?_, ?_, ?_⟩)
    all_goals (first | assumption | exact fm_lo _ (by decide) | exact fm_hi70 _ | exact fm_hi61 _ | k_extra "OM")
  case tail =>
    rintro s' ⟨h', tk', v1, v2, v3, v4, v5, a', ta', k', tk2, rfl, F, N, a0, a1, k0, k1⟩
    k_extra "SK"
    all_goals (refine RunEnd.intro (by k_asm) (by k_asm) ⟨_, _, _, _, _, _, rfl, ?_, ?_, ?_, ?_, ?_, ?_, rfl⟩)
    all_goals (first | assumption | exact fm_lo _ hm | exact fm_hi _ hm | exact fd_lo a0 hm | exact fd_hi a0 a1 hm | k_extra "OM")
end SBPull
section SDCls
section
variable (w : World)
@[reducible] def ksNull : List Str := [Str.ofString "kind", Str.ofString "attrs"]
theorem kN_Null : ksNull.Nodup := by decide +kernel
theorem co_Null : ClsOk w 163 := ⟨by k_is, by k_is, by k_is, by k_is⟩
theorem ao_Null_kind : AttrOk w 163 (Str.ofString "kind") := by unfold AttrOk; k_is
theorem ao_Null_attrs : AttrOk w 163 (Str.ofString "attrs") := by unfold AttrOk; k_is
theorem mk_Null : makesIn (Mine.hd.heap_39 w.params) 163 = true := by k_is
@[reducible] def ksMissing : List Str := [Str.ofString "kind", Str.ofString "attrs"]
theorem kN_Missing : ksMissing.Nodup := by decide +kernel
theorem co_Missing : ClsOk w 184 := ⟨by k_is, by k_is, by k_is, by k_is⟩
theorem ao_Missing_kind : AttrOk w 184 (Str.ofString "kind") := by unfold AttrOk; k_is
theorem ao_Missing_attrs : AttrOk w 184 (Str.ofString "attrs") := by unfold AttrOk; k_is
theorem mk_Missing : makesIn (Mine.hd.heap_39 w.params) 184 = true := by k_is
@[reducible] def ksVector : List Str := [Str.ofString "kind", Str.ofString "items", Str.ofString "attrs", Str.ofString "shared", Str.ofString "loose"]
theorem kN_Vector : ksVector.Nodup := by decide +kernel
theorem co_Vector : ClsOk w 213 := ⟨by k_is, by k_is, by k_is, by k_is⟩
theorem ao_Vector_kind : AttrOk w 213 (Str.ofString "kind") := by unfold AttrOk; k_is
theorem ao_Vector_items : AttrOk w 213 (Str.ofString "items") := by unfold AttrOk; k_is
theorem ao_Vector_attrs : AttrOk w 213 (Str.ofString "attrs") := by unfold AttrOk; k_is
theorem ao_Vector_shared : AttrOk w 213 (Str.ofString "shared") := by unfold AttrOk; k_is
theorem ao_Vector_loose : AttrOk w 213 (Str.ofString "loose") := by unfold AttrOk; k_is
theorem mk_Vector : makesIn (Mine.hd.heap_39 w.params) 213 = true := by k_is
@[reducible] def ksSymbol : List Str := [Str.ofString "kind", Str.ofString "name", Str.ofString "attrs"]
theorem kN_Symbol : ksSymbol.Nodup := by decide +kernel
theorem co_Symbol : ClsOk w 234 := ⟨by k_is, by k_is, by k_is, by k_is⟩
theorem ao_Symbol_kind : AttrOk w 234 (Str.ofString "kind") := by unfold AttrOk; k_is
theorem ao_Symbol_name : AttrOk w 234 (Str.ofString "name") := by unfold AttrOk; k_is
theorem ao_Symbol_attrs : AttrOk w 234 (Str.ofString "attrs") := by unfold AttrOk; k_is
theorem mk_Symbol : makesIn (Mine.hd.heap_39 w.params) 234 = true := by k_is
@[reducible] def ksCall : List Str := [Str.ofString "kind", Str.ofString "items", Str.ofString "tags", Str.ofString "attrs", Str.ofString "code"]
theorem kN_Call : ksCall.Nodup := by decide +kernel
theorem co_Call : ClsOk w 256 := ⟨by k_is, by k_is, by k_is, by k_is⟩
theorem ao_Call_kind : AttrOk w 256 (Str.ofString "kind") := by unfold AttrOk; k_is
theorem ao_Call_items : AttrOk w 256 (Str.ofString "items") := by unfold AttrOk; k_is
theorem ao_Call_tags : AttrOk w 256 (Str.ofString "tags") := by unfold AttrOk; k_is
theorem ao_Call_attrs : AttrOk w 256 (Str.ofString "attrs") := by unfold AttrOk; k_is
theorem ao_Call_code : AttrOk w 256 (Str.ofString "code") := by unfold AttrOk; k_is
theorem mk_Call : makesIn (Mine.hd.heap_39 w.params) 256 = true := by k_is
@[reducible] def ksClosure : List Str := [Str.ofString "kind", Str.ofString "formals", Str.ofString "body", Str.ofString "env", Str.ofString "attrs"]
theorem kN_Closure : ksClosure.Nodup := by decide +kernel
theorem co_Closure : ClsOk w 278 := ⟨by k_is, by k_is, by k_is, by k_is⟩
theorem ao_Closure_kind : AttrOk w 278 (Str.ofString "kind") := by unfold AttrOk; k_is
theorem ao_Closure_formals : AttrOk w 278 (Str.ofString "formals") := by unfold AttrOk; k_is
theorem ao_Closure_body : AttrOk w 278 (Str.ofString "body") := by unfold AttrOk; k_is
theorem ao_Closure_env : AttrOk w 278 (Str.ofString "env") := by unfold AttrOk; k_is
theorem ao_Closure_attrs : AttrOk w 278 (Str.ofString "attrs") := by unfold AttrOk; k_is
theorem mk_Closure : makesIn (Mine.hd.heap_39 w.params) 278 = true := by k_is
@[reducible] def ksEnvironment : List Str := [Str.ofString "kind", Str.ofString "number", Str.ofString "parent", Str.ofString "attrs", Str.ofString "frame", Str.ofString "locked", Str.ofString "locks"]
theorem kN_Environment : ksEnvironment.Nodup := by decide +kernel
theorem co_Environment : ClsOk w 300 := ⟨by k_is, by k_is, by k_is, by k_is⟩
theorem ao_Environment_kind : AttrOk w 300 (Str.ofString "kind") := by unfold AttrOk; k_is
theorem ao_Environment_number : AttrOk w 300 (Str.ofString "number") := by unfold AttrOk; k_is
theorem ao_Environment_parent : AttrOk w 300 (Str.ofString "parent") := by unfold AttrOk; k_is
theorem ao_Environment_attrs : AttrOk w 300 (Str.ofString "attrs") := by unfold AttrOk; k_is
theorem ao_Environment_frame : AttrOk w 300 (Str.ofString "frame") := by unfold AttrOk; k_is
theorem ao_Environment_locked : AttrOk w 300 (Str.ofString "locked") := by unfold AttrOk; k_is
theorem ao_Environment_locks : AttrOk w 300 (Str.ofString "locks") := by unfold AttrOk; k_is
theorem mk_Environment : makesIn (Mine.hd.heap_39 w.params) 300 = true := by k_is
@[reducible] def ksPromise : List Str := [Str.ofString "kind", Str.ofString "expr", Str.ofString "env", Str.ofString "value", Str.ofString "state", Str.ofString "attrs"]
theorem kN_Promise : ksPromise.Nodup := by decide +kernel
theorem co_Promise : ClsOk w 321 := ⟨by k_is, by k_is, by k_is, by k_is⟩
theorem ao_Promise_kind : AttrOk w 321 (Str.ofString "kind") := by unfold AttrOk; k_is
theorem ao_Promise_expr : AttrOk w 321 (Str.ofString "expr") := by unfold AttrOk; k_is
theorem ao_Promise_env : AttrOk w 321 (Str.ofString "env") := by unfold AttrOk; k_is
theorem ao_Promise_value : AttrOk w 321 (Str.ofString "value") := by unfold AttrOk; k_is
theorem ao_Promise_state : AttrOk w 321 (Str.ofString "state") := by unfold AttrOk; k_is
theorem ao_Promise_attrs : AttrOk w 321 (Str.ofString "attrs") := by unfold AttrOk; k_is
theorem mk_Promise : makesIn (Mine.hd.heap_39 w.params) 321 = true := by k_is
@[reducible] def ksDots : List Str := [Str.ofString "kind", Str.ofString "args", Str.ofString "attrs"]
theorem kN_Dots : ksDots.Nodup := by decide +kernel
theorem co_Dots : ClsOk w 342 := ⟨by k_is, by k_is, by k_is, by k_is⟩
theorem ao_Dots_kind : AttrOk w 342 (Str.ofString "kind") := by unfold AttrOk; k_is
theorem ao_Dots_args : AttrOk w 342 (Str.ofString "args") := by unfold AttrOk; k_is
theorem ao_Dots_attrs : AttrOk w 342 (Str.ofString "attrs") := by unfold AttrOk; k_is
theorem mk_Dots : makesIn (Mine.hd.heap_39 w.params) 342 = true := by k_is
@[reducible] def ksMatching : List Str := [Str.ofString "formals", Str.ofString "tags", Str.ofString "used", Str.ofString "places"]
theorem kN_Matching : ksMatching.Nodup := by decide +kernel
theorem co_Matching : ClsOk w 110 := ⟨by k_is, by k_is, by k_is, by k_is⟩
theorem ao_Matching_formals : AttrOk w 110 (Str.ofString "formals") := by unfold AttrOk; k_is
theorem ao_Matching_tags : AttrOk w 110 (Str.ofString "tags") := by unfold AttrOk; k_is
theorem ao_Matching_used : AttrOk w 110 (Str.ofString "used") := by unfold AttrOk; k_is
theorem ao_Matching_places : AttrOk w 110 (Str.ofString "places") := by unfold AttrOk; k_is
theorem mk_Matching : makesIn (Mine.hd.heap_39 w.params) 110 = true := by k_is
end
end SDCls

theorem reg_macros2 : True := by
  k_with "tb_rel" => (first | (with_reducible exact co_Null _) | (with_reducible exact co_Missing _) | (with_reducible exact co_Vector _) | (with_reducible exact co_Symbol _) | (with_reducible exact co_Call _) | (with_reducible exact co_Closure _) | (with_reducible exact co_Environment _) | (with_reducible exact co_Promise _) | (with_reducible exact co_Dots _) | (with_reducible exact co_Matching _))
  k_with "tb_rel" => (first | (with_reducible exact ao_Null_kind _) | (with_reducible exact ao_Null_attrs _) | (with_reducible exact ao_Missing_kind _) | (with_reducible exact ao_Missing_attrs _) | (with_reducible exact ao_Vector_kind _) | (with_reducible exact ao_Vector_items _) | (with_reducible exact ao_Vector_attrs _) | (with_reducible exact ao_Vector_shared _) | (with_reducible exact ao_Vector_loose _) | (with_reducible exact ao_Symbol_kind _) | (with_reducible exact ao_Symbol_name _) | (with_reducible exact ao_Symbol_attrs _) | (with_reducible exact ao_Call_kind _) | (with_reducible exact ao_Call_items _) | (with_reducible exact ao_Call_tags _) | (with_reducible exact ao_Call_attrs _) | (with_reducible exact ao_Call_code _) | (with_reducible exact ao_Closure_kind _) | (with_reducible exact ao_Closure_formals _) | (with_reducible exact ao_Closure_body _) | (with_reducible exact ao_Closure_env _) | (with_reducible exact ao_Closure_attrs _) | (with_reducible exact ao_Environment_kind _) | (with_reducible exact ao_Environment_number _) | (with_reducible exact ao_Environment_parent _) | (with_reducible exact ao_Environment_attrs _) | (with_reducible exact ao_Environment_frame _) | (with_reducible exact ao_Environment_locked _) | (with_reducible exact ao_Environment_locks _) | (with_reducible exact ao_Promise_kind _) | (with_reducible exact ao_Promise_expr _) | (with_reducible exact ao_Promise_env _) | (with_reducible exact ao_Promise_value _) | (with_reducible exact ao_Promise_state _) | (with_reducible exact ao_Promise_attrs _) | (with_reducible exact ao_Dots_kind _) | (with_reducible exact ao_Dots_args _) | (with_reducible exact ao_Dots_attrs _) | (with_reducible exact ao_Matching_formals _) | (with_reducible exact ao_Matching_tags _) | (with_reducible exact ao_Matching_used _) | (with_reducible exact ao_Matching_places _))
  k_with "tb_rel" => (first | (with_reducible exact kN_Null) | (with_reducible exact kN_Missing) | (with_reducible exact kN_Vector) | (with_reducible exact kN_Symbol) | (with_reducible exact kN_Call) | (with_reducible exact kN_Closure) | (with_reducible exact kN_Environment) | (with_reducible exact kN_Promise) | (with_reducible exact kN_Dots) | (with_reducible exact kN_Matching))
  trivial
section SENew
set_option linter.unusedSimpArgs false
theorem new_Null (w : World) (mean : ExcName → Option Value) (mg mb : Str → Option Value) (own : Led) :
    Tell w mean mg mb 3 163 [] own (fun r news' => ∃ x dx t0 t1 u n, r = .ref x ∧ (∀ p ∈ own, p.1 < dx) ∧ dx < x ∧ news' = (x, instObj 163 dx) :: (dx, dictOf (ents w.params ksNull [(t0, .str (Str.ofString "NULL") u), (t1, .none)]) n) :: own) := by
  refine' make_of (mk_Null w) ?hi ?hf ?I
  case hi => k_dflt k_is
  case hf => k_dflt k_is
  intro x dx l1 l2
  replace l2 := ltN l2
  refine' tellC_of [Str.ofString "self"] [.ref x] [] [] ?ho ?hcd ?hb rfl ?hl ?hg ?hc ?h1 ?h2 ?R
  case ho => k_dflt k_is
  case hcd => k_dflt k_is
  case hb => exact fun _ _ _ _ => BindsTo.of_eq rfl
  case hl => kernel_rfl!
  case hg => kernel_rfl!
  case hc => kernel_rfl!
  case h1 => rfl
  case h2 => rfl
  intro LT GT dp un gd outer A₀ base g L s B F X N T hd hu
  simp only [List.map, List.cons_append, List.nil_append, List.append_nil] at F LT
  obtain ⟨hp, ge, dr, tk, os⟩ := s
  repeat' (first | k_extra "k_KC" | k_extra "tb_start" | (k_unfold; (try dsimp only)) | (k_end; wrow_close) | (dsimp only [List.nil_append, List.append_nil]; k_extra "tb_start") | (walk1; (try dsimp only)) | (dsimp only; walk1) | (leave1; try dsimp only) | fail "no step")
  exact RunEnd.intro (by k_asm) (by k_asm) ⟨rfl, _, _, _, _, _, _, rfl, by assumption, by assumption, rfl⟩

theorem new_Missing (w : World) (mean : ExcName → Option Value) (mg mb : Str → Option Value) (own : Led) :
    Tell w mean mg mb 3 184 [] own (fun r news' => ∃ x dx t0 t1 u n, r = .ref x ∧ (∀ p ∈ own, p.1 < dx) ∧ dx < x ∧ news' = (x, instObj 184 dx) :: (dx, dictOf (ents w.params ksMissing [(t0, .str (Str.ofString "missing") u), (t1, .none)]) n) :: own) := by
  refine' make_of (mk_Missing w) ?hi ?hf ?I
  case hi => k_dflt k_is
  case hf => k_dflt k_is
  intro x dx l1 l2
  replace l2 := ltN l2
  refine' tellC_of [Str.ofString "self"] [.ref x] [] [] ?ho ?hcd ?hb rfl ?hl ?hg ?hc ?h1 ?h2 ?R
  case ho => k_dflt k_is
  case hcd => k_dflt k_is
  case hb => exact fun _ _ _ _ => BindsTo.of_eq rfl
  case hl => kernel_rfl!
  case hg => kernel_rfl!
  case hc => kernel_rfl!
  case h1 => rfl
  case h2 => rfl
  intro LT GT dp un gd outer A₀ base g L s B F X N T hd hu
  simp only [List.map, List.cons_append, List.nil_append, List.append_nil] at F LT
  obtain ⟨hp, ge, dr, tk, os⟩ := s
  repeat' (first | k_extra "k_KC" | k_extra "tb_start" | (k_unfold; (try dsimp only)) | (k_end; wrow_close) | (dsimp only [List.nil_append, List.append_nil]; k_extra "tb_start") | (walk1; (try dsimp only)) | (dsimp only; walk1) | (leave1; try dsimp only) | fail "no step")
  exact RunEnd.intro (by k_asm) (by k_asm) ⟨rfl, _, _, _, _, _, _, rfl, by assumption, by assumption, rfl⟩

theorem new_Vector (w : World) (mean : ExcName → Option Value) (mg mb : Str → Option Value) (own : Led) (vk : Value) (vi : Value) :
    Tell w mean mg mb 3 213 [vk, vi] own (fun r news' => ∃ x dx t0 t1 t2 t3 t4 n, r = .ref x ∧ (∀ p ∈ own, p.1 < dx) ∧ dx < x ∧ news' = (x, instObj 213 dx) :: (dx, dictOf (ents w.params ksVector [(t0, vk), (t1, vi), (t2, .none), (t3, .bool false), (t4, .bool false)]) n) :: own) := by
  refine' make_of (mk_Vector w) ?hi ?hf ?I
  case hi => k_dflt k_is
  case hf => k_dflt k_is
  intro x dx l1 l2
  replace l2 := ltN l2
  refine' tellC_of [Str.ofString "self", Str.ofString "kind", Str.ofString "items", Str.ofString "attrs"] [.ref x, vk, vi, .none] [] [] ?ho ?hcd ?hb rfl ?hl ?hg ?hc ?h1 ?h2 ?R
  case ho => k_dflt k_is
  case hcd => k_dflt k_is
  case hb => exact fun _ hX _ e => binds_K (e ▸ hX) rfl (by k_is) rfl rfl rfl
  case hl => kernel_rfl!
  case hg => kernel_rfl!
  case hc => kernel_rfl!
  case h1 => rfl
  case h2 => rfl
  intro LT GT dp un gd outer A₀ base g L s B F X N T hd hu
  simp only [List.map, List.cons_append, List.nil_append, List.append_nil] at F LT
  obtain ⟨hp, ge, dr, tk, os⟩ := s
  repeat' (first | k_extra "k_KC" | k_extra "tb_start" | (k_unfold; (try dsimp only)) | (k_end; wrow_close) | (dsimp only [List.nil_append, List.append_nil]; k_extra "tb_start") | (walk1; (try dsimp only)) | (dsimp only; walk1) | (leave1; try dsimp only) | fail "no step")
  exact RunEnd.intro (by k_asm) (by k_asm) ⟨rfl, _, _, _, _, _, _, _, _, rfl, by assumption, by assumption, rfl⟩

theorem new_Symbol (w : World) (mean : ExcName → Option Value) (mg mb : Str → Option Value) (own : Led) (vn : Value) :
    Tell w mean mg mb 3 234 [vn] own (fun r news' => ∃ x dx t0 t1 t2 u n, r = .ref x ∧ (∀ p ∈ own, p.1 < dx) ∧ dx < x ∧ news' = (x, instObj 234 dx) :: (dx, dictOf (ents w.params ksSymbol [(t0, .str (Str.ofString "symbol") u), (t1, vn), (t2, .none)]) n) :: own) := by
  refine' make_of (mk_Symbol w) ?hi ?hf ?I
  case hi => k_dflt k_is
  case hf => k_dflt k_is
  intro x dx l1 l2
  replace l2 := ltN l2
  refine' tellC_of [Str.ofString "self", Str.ofString "name"] [.ref x, vn] [] [] ?ho ?hcd ?hb rfl ?hl ?hg ?hc ?h1 ?h2 ?R
  case ho => k_dflt k_is
  case hcd => k_dflt k_is
  case hb => exact fun _ _ _ _ => BindsTo.of_eq rfl
  case hl => kernel_rfl!
  case hg => kernel_rfl!
  case hc => kernel_rfl!
  case h1 => rfl
  case h2 => rfl
  intro LT GT dp un gd outer A₀ base g L s B F X N T hd hu
  simp only [List.map, List.cons_append, List.nil_append, List.append_nil] at F LT
  obtain ⟨hp, ge, dr, tk, os⟩ := s
  repeat' (first | k_extra "k_KC" | k_extra "tb_start" | (k_unfold; (try dsimp only)) | (k_end; wrow_close) | (dsimp only [List.nil_append, List.append_nil]; k_extra "tb_start") | (walk1; (try dsimp only)) | (dsimp only; walk1) | (leave1; try dsimp only) | fail "no step")
  exact RunEnd.intro (by k_asm) (by k_asm) ⟨rfl, _, _, _, _, _, _, _, rfl, by assumption, by assumption, rfl⟩

theorem new_Call (w : World) (mean : ExcName → Option Value) (mg mb : Str → Option Value) (own : Led) (vi : Value) (vt : Value) :
    Tell w mean mg mb 3 256 [vi, vt] own (fun r news' => ∃ x dx t0 t1 t2 t3 t4 u n, r = .ref x ∧ (∀ p ∈ own, p.1 < dx) ∧ dx < x ∧ news' = (x, instObj 256 dx) :: (dx, dictOf (ents w.params ksCall [(t0, .str (Str.ofString "language") u), (t1, vi), (t2, vt), (t3, .none), (t4, .none)]) n) :: own) := by
  refine' make_of (mk_Call w) ?hi ?hf ?I
  case hi => k_dflt k_is
  case hf => k_dflt k_is
  intro x dx l1 l2
  replace l2 := ltN l2
  refine' tellC_of [Str.ofString "self", Str.ofString "items", Str.ofString "tags", Str.ofString "attrs"] [.ref x, vi, vt, .none] [] [] ?ho ?hcd ?hb rfl ?hl ?hg ?hc ?h1 ?h2 ?R
  case ho => k_dflt k_is
  case hcd => k_dflt k_is
  case hb => exact fun _ hX _ e => binds_K (e ▸ hX) rfl (by k_is) rfl rfl rfl
  case hl => kernel_rfl!
  case hg => kernel_rfl!
  case hc => kernel_rfl!
  case h1 => rfl
  case h2 => rfl
  intro LT GT dp un gd outer A₀ base g L s B F X N T hd hu
  simp only [List.map, List.cons_append, List.nil_append, List.append_nil] at F LT
  obtain ⟨hp, ge, dr, tk, os⟩ := s
  repeat' (first | k_extra "k_KC" | k_extra "tb_start" | (k_unfold; (try dsimp only)) | (k_end; wrow_close) | (dsimp only [List.nil_append, List.append_nil]; k_extra "tb_start") | (walk1; (try dsimp only)) | (dsimp only; walk1) | (leave1; try dsimp only) | fail "no step")
  exact RunEnd.intro (by k_asm) (by k_asm) ⟨rfl, _, _, _, _, _, _, _, _, _, rfl, by assumption, by assumption, rfl⟩

theorem new_Closure (w : World) (mean : ExcName → Option Value) (mg mb : Str → Option Value) (own : Led) (vf : Value) (vb : Value) (ve : Value) :
    Tell w mean mg mb 3 278 [vf, vb, ve] own (fun r news' => ∃ x dx t0 t1 t2 t3 t4 u n, r = .ref x ∧ (∀ p ∈ own, p.1 < dx) ∧ dx < x ∧ news' = (x, instObj 278 dx) :: (dx, dictOf (ents w.params ksClosure [(t0, .str (Str.ofString "closure") u), (t1, vf), (t2, vb), (t3, ve), (t4, .none)]) n) :: own) := by
  refine' make_of (mk_Closure w) ?hi ?hf ?I
  case hi => k_dflt k_is
  case hf => k_dflt k_is
  intro x dx l1 l2
  replace l2 := ltN l2
  refine' tellC_of [Str.ofString "self", Str.ofString "formals", Str.ofString "body", Str.ofString "env", Str.ofString "attrs"] [.ref x, vf, vb, ve, .none] [] [] ?ho ?hcd ?hb rfl ?hl ?hg ?hc ?h1 ?h2 ?R
  case ho => k_dflt k_is
  case hcd => k_dflt k_is
  case hb => exact fun _ hX _ e => binds_K (e ▸ hX) rfl (by k_is) rfl rfl rfl
  case hl => kernel_rfl!
  case hg => kernel_rfl!
  case hc => kernel_rfl!
  case h1 => rfl
  case h2 => rfl
  intro LT GT dp un gd outer A₀ base g L s B F X N T hd hu
  simp only [List.map, List.cons_append, List.nil_append, List.append_nil] at F LT
  obtain ⟨hp, ge, dr, tk, os⟩ := s
  repeat' (first | k_extra "k_KC" | k_extra "tb_start" | (k_unfold; (try dsimp only)) | (k_end; wrow_close) | (dsimp only [List.nil_append, List.append_nil]; k_extra "tb_start") | (walk1; (try dsimp only)) | (dsimp only; walk1) | (leave1; try dsimp only) | fail "no step")
  exact RunEnd.intro (by k_asm) (by k_asm) ⟨rfl, _, _, _, _, _, _, _, _, _, rfl, by assumption, by assumption, rfl⟩

theorem new_Promise (w : World) (mean : ExcName → Option Value) (mg mb : Str → Option Value) (own : Led) (vx : Value) (ve : Value) :
    Tell w mean mg mb 3 321 [vx, ve] own (fun r news' => ∃ x dx t0 t1 t2 t3 t4 t5 u u2 n, r = .ref x ∧ (∀ p ∈ own, p.1 < dx) ∧ dx < x ∧ news' = (x, instObj 321 dx) :: (dx, dictOf (ents w.params ksPromise [(t0, .str (Str.ofString "promise") u), (t1, vx), (t2, ve), (t3, .none), (t4, .int 0 u2), (t5, .none)]) n) :: own) := by
  refine' make_of (mk_Promise w) ?hi ?hf ?I
  case hi => k_dflt k_is
  case hf => k_dflt k_is
  intro x dx l1 l2
  replace l2 := ltN l2
  refine' tellC_of [Str.ofString "self", Str.ofString "expr", Str.ofString "env"] [.ref x, vx, ve] [] [] ?ho ?hcd ?hb rfl ?hl ?hg ?hc ?h1 ?h2 ?R
  case ho => k_dflt k_is
  case hcd => k_dflt k_is
  case hb => exact fun _ _ _ _ => BindsTo.of_eq rfl
  case hl => kernel_rfl!
  case hg => kernel_rfl!
  case hc => kernel_rfl!
  case h1 => rfl
  case h2 => rfl
  intro LT GT dp un gd outer A₀ base g L s B F X N T hd hu
  simp only [List.map, List.cons_append, List.nil_append, List.append_nil] at F LT
  obtain ⟨hp, ge, dr, tk, os⟩ := s
  repeat' (first | k_extra "k_KC" | k_extra "tb_start" | (k_unfold; (try dsimp only)) | (k_end; wrow_close) | (dsimp only [List.nil_append, List.append_nil]; k_extra "tb_start") | (walk1; (try dsimp only)) | (dsimp only; walk1) | (leave1; try dsimp only) | fail "no step")
  exact RunEnd.intro (by k_asm) (by k_asm) ⟨rfl, _, _, _, _, _, _, _, _, _, _, _, rfl, by assumption, by assumption, rfl⟩

theorem new_Dots (w : World) (mean : ExcName → Option Value) (mg mb : Str → Option Value) (own : Led) (va : Value) :
    Tell w mean mg mb 3 342 [va] own (fun r news' => ∃ x dx t0 t1 t2 u n, r = .ref x ∧ (∀ p ∈ own, p.1 < dx) ∧ dx < x ∧ news' = (x, instObj 342 dx) :: (dx, dictOf (ents w.params ksDots [(t0, .str (Str.ofString "dots") u), (t1, va), (t2, .none)]) n) :: own) := by
  refine' make_of (mk_Dots w) ?hi ?hf ?I
  case hi => k_dflt k_is
  case hf => k_dflt k_is
  intro x dx l1 l2
  replace l2 := ltN l2
  refine' tellC_of [Str.ofString "self", Str.ofString "args"] [.ref x, va] [] [] ?ho ?hcd ?hb rfl ?hl ?hg ?hc ?h1 ?h2 ?R
  case ho => k_dflt k_is
  case hcd => k_dflt k_is
  case hb => exact fun _ _ _ _ => BindsTo.of_eq rfl
  case hl => kernel_rfl!
  case hg => kernel_rfl!
  case hc => kernel_rfl!
  case h1 => rfl
  case h2 => rfl
  intro LT GT dp un gd outer A₀ base g L s B F X N T hd hu
  simp only [List.map, List.cons_append, List.nil_append, List.append_nil] at F LT
  obtain ⟨hp, ge, dr, tk, os⟩ := s
  repeat' (first | k_extra "k_KC" | k_extra "tb_start" | (k_unfold; (try dsimp only)) | (k_end; wrow_close) | (dsimp only [List.nil_append, List.append_nil]; k_extra "tb_start") | (walk1; (try dsimp only)) | (dsimp only; walk1) | (leave1; try dsimp only) | fail "no step")
  exact RunEnd.intro (by k_asm) (by k_asm) ⟨rfl, _, _, _, _, _, _, _, rfl, by assumption, by assumption, rfl⟩

theorem new_Environment (w : World) (mean : ExcName → Option Value) (mg mb : Str → Option Value) (own : Led) (vn vp : Value) :
    Tell w mean mg mb 3 300 [vn, vp] own (fun r news' => ∃ x dx f k t0 t1 t2 t3 t4 t5 t6 u n fo ko, r = .ref x ∧ (∀ p ∈ own, p.1 < dx) ∧ dx < x ∧ x < f ∧ f < k ∧ (f == sysModules) = false ∧ fo.IsDictOf (strKind PR w) [] ∧ news' = (k, ko) :: (f, fo) :: (x, instObj 300 dx) :: (dx, dictOf (ents w.params ksEnvironment [(t0, .str (Str.ofString "environment") u), (t1, vn), (t2, vp), (t3, .none), (t4, .ref f), (t5, .bool false), (t6, .ref k)]) n) :: own) := by
  refine' make_of (mk_Environment w) ?hi ?hf ?I
  case hi => k_dflt k_is
  case hf => k_dflt k_is
  intro x dx l1 l2
  replace l2 := ltN l2
  refine' tellC_of [Str.ofString "self", Str.ofString "number", Str.ofString "parent", Str.ofString "attrs"] [.ref x, vn, vp, .none] [] [] ?ho ?hcd ?hb rfl ?hl ?hg ?hc ?h1 ?h2 ?R
  case ho => k_dflt k_is
  case hcd => k_dflt k_is
  case hb => exact fun _ hX _ e => binds_K (e ▸ hX) rfl (by k_is) rfl rfl rfl
  case hl => kernel_rfl!
  case hg => kernel_rfl!
  case hc => kernel_rfl!
  case h1 => rfl
  case h2 => rfl
  intro LT GT dp un gd outer A₀ base g L s B F X N T hd hu
  simp only [List.map, List.cons_append, List.nil_append, List.append_nil] at F LT
  obtain ⟨hp, ge, dr, tk, os⟩ := s
  repeat' (first | k_extra "k_KC" | k_extra "tb_start" | (k_unfold; (try dsimp only)) | (k_end; wrow_close) | (dsimp only [List.nil_append, List.append_nil]; k_extra "tb_start") | (walk1; (try dsimp only)) | (dsimp only; walk1) | (leave1; try dsimp only) | fail "no step")
  exact RunEnd.intro (by k_asm) (by k_asm) ⟨rfl, _, _, _, _, _, _, _, _, _, _, _, _, _, _, _, rfl, by assumption, by assumption, ltN (by k_extra "OM"), ltN (by k_extra "OM"), by assumption, by assumption, rfl⟩
end SENew

theorem reg_macros3 : True := by
  k_with "kpc_turns" => (first
  | ((with_reducible show wpAny _ _ (call (Value.ref 163) _) _ _ _); (with_reducible refine' Tell.use (new_Null _ _ _ _ _) ?zqB ?zqF ?zqX ?zqN ?zqsub ?zqT ?zqhk ?zqhd ?zqhu ?_); (case zqB => k_asm); (case zqF => k_asm); (case zqX => k_asm); (case zqN => k_asm); (case zqsub => exact subRefl); (case zqT => k_asm); (case zqhk => rfl); (case zqhd => first | exact lim (by assumption) rfl | k_extra "OM"); (case zqhu => first | exact lim (by assumption) rfl | k_extra "OM"); intro zqr' zqnews' zqh' zqtk' zqF' zqN' zqpo0'; (refine ex6 zqpo0' ?_); clear zqpo0'; intro zqx' zqdx' _ _ _ _ zqpo0'; (refine sp4 zqpo0' ?_); clear zqpo0'; intro zqe1 zql1 zql2 zqe2; subst zqe1; subst zqe2; (try (k_extra "ALl1")); (try k_lt2 zql2); (try k_sweep))
  | ((with_reducible show wpAny _ _ (call (Value.ref 184) _) _ _ _); (with_reducible refine' Tell.use (new_Missing _ _ _ _ _) ?zqB ?zqF ?zqX ?zqN ?zqsub ?zqT ?zqhk ?zqhd ?zqhu ?_); (case zqB => k_asm); (case zqF => k_asm); (case zqX => k_asm); (case zqN => k_asm); (case zqsub => exact subRefl); (case zqT => k_asm); (case zqhk => rfl); (case zqhd => first | exact lim (by assumption) rfl | k_extra "OM"); (case zqhu => first | exact lim (by assumption) rfl | k_extra "OM"); intro zqr' zqnews' zqh' zqtk' zqF' zqN' zqpo0'; (refine ex6 zqpo0' ?_); clear zqpo0'; intro zqx' zqdx' _ _ _ _ zqpo0'; (refine sp4 zqpo0' ?_); clear zqpo0'; intro zqe1 zql1 zql2 zqe2; subst zqe1; subst zqe2; (try (k_extra "ALl1")); (try k_lt2 zql2); (try k_sweep))
  | ((with_reducible show wpAny _ _ (call (Value.ref 213) _) _ _ _); (with_reducible refine' Tell.use (new_Vector _ _ _ _ _ _ _) ?zqB ?zqF ?zqX ?zqN ?zqsub ?zqT ?zqhk ?zqhd ?zqhu ?_); (case zqB => k_asm); (case zqF => k_asm); (case zqX => k_asm); (case zqN => k_asm); (case zqsub => exact subRefl); (case zqT => k_asm); (case zqhk => rfl); (case zqhd => first | exact lim (by assumption) rfl | k_extra "OM"); (case zqhu => first | exact lim (by assumption) rfl | k_extra "OM"); intro zqr' zqnews' zqh' zqtk' zqF' zqN' zqpo0'; (refine ex8 zqpo0' ?_); clear zqpo0'; intro zqx' zqdx' _ _ _ _ _ _ zqpo0'; (refine sp4 zqpo0' ?_); clear zqpo0'; intro zqe1 zql1 zql2 zqe2; subst zqe1; subst zqe2; (try (k_extra "ALl1")); (try k_lt2 zql2); (try k_sweep))
  | ((with_reducible show wpAny _ _ (call (Value.ref 234) _) _ _ _); (with_reducible refine' Tell.use (new_Symbol _ _ _ _ _ _) ?zqB ?zqF ?zqX ?zqN ?zqsub ?zqT ?zqhk ?zqhd ?zqhu ?_); (case zqB => k_asm); (case zqF => k_asm); (case zqX => k_asm); (case zqN => k_asm); (case zqsub => exact subRefl); (case zqT => k_asm); (case zqhk => rfl); (case zqhd => first | exact lim (by assumption) rfl | k_extra "OM"); (case zqhu => first | exact lim (by assumption) rfl | k_extra "OM"); intro zqr' zqnews' zqh' zqtk' zqF' zqN' zqpo0'; (refine ex7 zqpo0' ?_); clear zqpo0'; intro zqx' zqdx' _ _ _ _ _ zqpo0'; (refine sp4 zqpo0' ?_); clear zqpo0'; intro zqe1 zql1 zql2 zqe2; subst zqe1; subst zqe2; (try (k_extra "ALl1")); (try k_lt2 zql2); (try k_sweep))
  | ((with_reducible show wpAny _ _ (call (Value.ref 256) _) _ _ _); (with_reducible refine' Tell.use (new_Call _ _ _ _ _ _ _) ?zqB ?zqF ?zqX ?zqN ?zqsub ?zqT ?zqhk ?zqhd ?zqhu ?_); (case zqB => k_asm); (case zqF => k_asm); (case zqX => k_asm); (case zqN => k_asm); (case zqsub => exact subRefl); (case zqT => k_asm); (case zqhk => rfl); (case zqhd => first | exact lim (by assumption) rfl | k_extra "OM"); (case zqhu => first | exact lim (by assumption) rfl | k_extra "OM"); intro zqr' zqnews' zqh' zqtk' zqF' zqN' zqpo0'; (refine ex9 zqpo0' ?_); clear zqpo0'; intro zqx' zqdx' _ _ _ _ _ _ _ zqpo0'; (refine sp4 zqpo0' ?_); clear zqpo0'; intro zqe1 zql1 zql2 zqe2; subst zqe1; subst zqe2; (try (k_extra "ALl1")); (try k_lt2 zql2); (try k_sweep))
  | ((with_reducible show wpAny _ _ (call (Value.ref 278) _) _ _ _); (with_reducible refine' Tell.use (new_Closure _ _ _ _ _ _ _ _) ?zqB ?zqF ?zqX ?zqN ?zqsub ?zqT ?zqhk ?zqhd ?zqhu ?_); (case zqB => k_asm); (case zqF => k_asm); (case zqX => k_asm); (case zqN => k_asm); (case zqsub => exact subRefl); (case zqT => k_asm); (case zqhk => rfl); (case zqhd => first | exact lim (by assumption) rfl | k_extra "OM"); (case zqhu => first | exact lim (by assumption) rfl | k_extra "OM"); intro zqr' zqnews' zqh' zqtk' zqF' zqN' zqpo0'; (refine ex9 zqpo0' ?_); clear zqpo0'; intro zqx' zqdx' _ _ _ _ _ _ _ zqpo0'; (refine sp4 zqpo0' ?_); clear zqpo0'; intro zqe1 zql1 zql2 zqe2; subst zqe1; subst zqe2; (try (k_extra "ALl1")); (try k_lt2 zql2); (try k_sweep))
  | ((with_reducible show wpAny _ _ (call (Value.ref 321) _) _ _ _); (with_reducible refine' Tell.use (new_Promise _ _ _ _ _ _ _) ?zqB ?zqF ?zqX ?zqN ?zqsub ?zqT ?zqhk ?zqhd ?zqhu ?_); (case zqB => k_asm); (case zqF => k_asm); (case zqX => k_asm); (case zqN => k_asm); (case zqsub => exact subRefl); (case zqT => k_asm); (case zqhk => rfl); (case zqhd => first | exact lim (by assumption) rfl | k_extra "OM"); (case zqhu => first | exact lim (by assumption) rfl | k_extra "OM"); intro zqr' zqnews' zqh' zqtk' zqF' zqN' zqpo0'; (refine ex11 zqpo0' ?_); clear zqpo0'; intro zqx' zqdx' _ _ _ _ _ _ _ _ _ zqpo0'; (refine sp4 zqpo0' ?_); clear zqpo0'; intro zqe1 zql1 zql2 zqe2; subst zqe1; subst zqe2; (try (k_extra "ALl1")); (try k_lt2 zql2); (try k_sweep))
  | ((with_reducible show wpAny _ _ (call (Value.ref 342) _) _ _ _); (with_reducible refine' Tell.use (new_Dots _ _ _ _ _ _) ?zqB ?zqF ?zqX ?zqN ?zqsub ?zqT ?zqhk ?zqhd ?zqhu ?_); (case zqB => k_asm); (case zqF => k_asm); (case zqX => k_asm); (case zqN => k_asm); (case zqsub => exact subRefl); (case zqT => k_asm); (case zqhk => rfl); (case zqhd => first | exact lim (by assumption) rfl | k_extra "OM"); (case zqhu => first | exact lim (by assumption) rfl | k_extra "OM"); intro zqr' zqnews' zqh' zqtk' zqF' zqN' zqpo0'; (refine ex7 zqpo0' ?_); clear zqpo0'; intro zqx' zqdx' _ _ _ _ _ zqpo0'; (refine sp4 zqpo0' ?_); clear zqpo0'; intro zqe1 zql1 zql2 zqe2; subst zqe1; subst zqe2; (try (k_extra "ALl1")); (try k_lt2 zql2); (try k_sweep))
  | ((with_reducible show wpAny _ _ (call (Value.ref 300) _) _ _ _); (with_reducible refine' Tell.use (new_Environment _ _ _ _ _ _ _) ?zqB ?zqF ?zqX ?zqN ?zqsub ?zqT ?zqhk ?zqhd ?zqhu ?_); (case zqB => k_asm); (case zqF => k_asm); (case zqX => k_asm); (case zqN => k_asm); (case zqsub => exact subRefl); (case zqT => k_asm); (case zqhk => rfl); (case zqhd => first | exact lim (by assumption) rfl | k_extra "OM"); (case zqhu => first | exact lim (by assumption) rfl | k_extra "OM"); intro zqr' zqnews' zqh' zqtk' zqF' zqN' zqpo0'; (refine ex15 zqpo0' ?_); clear zqpo0'; intro zqx' zqdx' zqf' zqk' _ _ _ _ _ _ _ _ _ _ _ zqpo0'; (refine sp7 zqpo0' ?_); clear zqpo0'; intro zqe1 zql1 zql2 zql3 zql4 zqfd' zqe2; subst zqe1; subst zqe2; (try (k_extra "ALl1")); (try k_lt2 zql2); (try k_lt2 zql3); (try k_lt2 zql4); (try k_sweep)))
  trivial
section SFSmall
theorem t_missing (w : World) (mean : ExcName → Option Value) (mg mb : Str → Option Value) (own : Led) :
    Tell w mean mg mb 5 360 [] own (fun r news' => ∃ x dx t1 t2 u n, r = .ref x ∧ (∀ p ∈ own, p.1 < dx) ∧ dx < x ∧ news' = (x, instObj 184 dx) :: (dx, dictOf (ents w.params ksMissing [(t1, .str (Str.ofString "missing") u), (t2, .none)]) n) :: own) := by
  refine' TellC.tell ?_
  refine' tellC_of [] [] [] [Str.ofString "Missing"] ?ho ?hcd ?hb rfl ?hl ?hg ?hc ?h1 ?h2 ?R
  case ho => k_dflt k_is
  case hcd => k_dflt k_is
  case hb => exact fun _ _ _ _ => BindsTo.of_eq rfl
  case hl => kernel_rfl!
  case hg => kernel_rfl!
  case hc => kernel_rfl!
  case h1 => rfl
  case h2 => rfl
  intro LT GT dp un gd outer A₀ base g L s B F X N T hd hu
  simp only [List.map, List.cons_append, List.nil_append, List.append_nil] at F LT
  obtain ⟨hp, ge, dr, tk, os⟩ := s
  k_extra "SK"
  exact RunEnd.intro (by k_asm) (by k_asm) ⟨_, _, _, _, _, _, rfl, by first | assumption | exact ltN (by k_extra "OM") | exact ktn_ltOf (by assumption) | exact ktn_ltOf (And.right (by assumption)) | exact ktn_ltOf (And.right (And.right (by assumption))) | exact ktn_ltOf (And.right (And.right (And.right (by assumption)))) | exact ktn_ltOf (And.right (And.right (And.right (And.right (by assumption))))) | exact ktn_ltOf (And.right (And.right (And.right (And.right (And.right (by assumption)))))) | exact ktn_ltOf (And.right (And.right (And.right (And.right (And.right (And.right (by assumption))))))) | exact ktn_ltOf (And.right (And.right (And.right (And.right (And.right (And.right (And.right (by assumption)))))))) | exact ktn_ltOf (And.right (And.right (And.right (And.right (And.right (And.right (And.right (And.right (by assumption))))))))) | exact ktn_ltOf (And.right (And.right (And.right (And.right (And.right (And.right (And.right (And.right (And.right (by assumption)))))))))) | exact ktn_ltOf (And.right (And.right (And.right (And.right (And.right (And.right (And.right (And.right (And.right (And.right (by assumption))))))))))) | exact ktn_ltOf (And.right (And.right (And.right (And.right (And.right (And.right (And.right (And.right (And.right (And.right (And.right (by assumption)))))))))))) | exact ktn_ltOf (And.right (And.right (And.right (And.right (And.right (And.right (And.right (And.right (And.right (And.right (And.right (And.right (by assumption))))))))))))) | exact ktn_ltOf (And.right (And.right (And.right (And.right (And.right (And.right (And.right (And.right (And.right (And.right (And.right (And.right (And.right (by assumption)))))))))))))) | exact ktn_ltOf (And.right (And.right (And.right (And.right (And.right (And.right (And.right (And.right (And.right (And.right (And.right (And.right (And.right (And.right (by assumption))))))))))))))) | exact above_trans (by assumption) (by assumption) | exact above_trans (by assumption) (above_trans (by assumption) (by assumption)) | exact above_trans (by assumption) (ktn_ltOf (by assumption)) | exact above_trans (by assumption) (ktn_ltOf (And.right (by assumption))) | exact above_trans (by assumption) (ktn_ltOf (And.right (And.right (by assumption)))) | exact above_trans (by assumption) (ktn_ltOf (And.right (And.right (And.right (by assumption))))) | exact above_trans (by assumption) (ktn_ltOf (And.right (And.right (And.right (And.right (by assumption)))))) | exact above_trans (by assumption) (ktn_ltOf (And.right (And.right (And.right (And.right (And.right (by assumption))))))) | exact above_trans (by assumption) (ktn_ltOf (And.right (And.right (And.right (And.right (And.right (And.right (by assumption)))))))) | exact above_trans (by assumption) (ktn_ltOf (And.right (And.right (And.right (And.right (And.right (And.right (And.right (by assumption))))))))) | exact above_trans (by assumption) (ktn_ltOf (And.right (And.right (And.right (And.right (And.right (And.right (And.right (And.right (by assumption)))))))))) | exact above_trans (by assumption) (ktn_ltOf (And.right (And.right (And.right (And.right (And.right (And.right (And.right (And.right (And.right (by assumption))))))))))) | exact above_trans (by assumption) (ktn_ltOf (And.right (And.right (And.right (And.right (And.right (And.right (And.right (And.right (And.right (And.right (by assumption)))))))))))) | exact above_trans (by assumption) (ktn_ltOf (And.right (And.right (And.right (And.right (And.right (And.right (And.right (And.right (And.right (And.right (And.right (by assumption))))))))))))) | exact above_trans (by assumption) (ktn_ltOf (And.right (And.right (And.right (And.right (And.right (And.right (And.right (And.right (And.right (And.right (And.right (And.right (by assumption)))))))))))))) | exact above_trans (by assumption) (ktn_ltOf (And.right (And.right (And.right (And.right (And.right (And.right (And.right (And.right (And.right (And.right (And.right (And.right (And.right (by assumption))))))))))))))) | exact above_trans (by assumption) (ktn_ltOf (And.right (And.right (And.right (And.right (And.right (And.right (And.right (And.right (And.right (And.right (And.right (And.right (And.right (And.right (by assumption)))))))))))))))) | exact above_sub (by assumption) (by repeat' (first | (with_reducible exact subRefl) | (with_reducible exact subNil) | (with_reducible exact subLeft) | (with_reducible refine' subBoth ?_ ?_) | (refine' subCons (by k_mem) ?_) | (with_reducible refine' subTail ?_) | (with_reducible refine' subApp ?_))) | exact above_trans (by assumption) (above_sub (by assumption) (by repeat' (first | (with_reducible exact subRefl) | (with_reducible exact subNil) | (with_reducible exact subLeft) | (with_reducible refine' subBoth ?_ ?_) | (refine' subCons (by k_mem) ?_) | (with_reducible refine' subTail ?_) | (with_reducible refine' subApp ?_)))), by first | assumption | exact ltN (by k_extra "OM") | exact ktn_ltOf (by assumption) | exact ktn_ltOf (And.right (by assumption)) | exact ktn_ltOf (And.right (And.right (by assumption))) | exact ktn_ltOf (And.right (And.right (And.right (by assumption)))) | exact ktn_ltOf (And.right (And.right (And.right (And.right (by assumption))))) | exact ktn_ltOf (And.right (And.right (And.right (And.right (And.right (by assumption)))))) | exact ktn_ltOf (And.right (And.right (And.right (And.right (And.right (And.right (by assumption))))))) | exact ktn_ltOf (And.right (And.right (And.right (And.right (And.right (And.right (And.right (by assumption)))))))) | exact ktn_ltOf (And.right (And.right (And.right (And.right (And.right (And.right (And.right (And.right (by assumption))))))))) | exact ktn_ltOf (And.right (And.right (And.right (And.right (And.right (And.right (And.right (And.right (And.right (by assumption)))))))))) | exact ktn_ltOf (And.right (And.right (And.right (And.right (And.right (And.right (And.right (And.right (And.right (And.right (by assumption))))))))))) | exact ktn_ltOf (And.right (And.right (And.right (And.right (And.right (And.right (And.right (And.right (And.right (And.right (And.right (by assumption)))))))))))) | exact ktn_ltOf (And.right (And.right (And.right (And.right (And.right (And.right (And.right (And.right (And.right (And.right (And.right (And.right (by assumption))))))))))))) | exact ktn_ltOf (And.right (And.right (And.right (And.right (And.right (And.right (And.right (And.right (And.right (And.right (And.right (And.right (And.right (by assumption)))))))))))))) | exact ktn_ltOf (And.right (And.right (And.right (And.right (And.right (And.right (And.right (And.right (And.right (And.right (And.right (And.right (And.right (And.right (by assumption))))))))))))))) | exact above_trans (by assumption) (by assumption) | exact above_trans (by assumption) (above_trans (by assumption) (by assumption)) | exact above_trans (by assumption) (ktn_ltOf (by assumption)) | exact above_trans (by assumption) (ktn_ltOf (And.right (by assumption))) | exact above_trans (by assumption) (ktn_ltOf (And.right (And.right (by assumption)))) | exact above_trans (by assumption) (ktn_ltOf (And.right (And.right (And.right (by assumption))))) | exact above_trans (by assumption) (ktn_ltOf (And.right (And.right (And.right (And.right (by assumption)))))) | exact above_trans (by assumption) (ktn_ltOf (And.right (And.right (And.right (And.right (And.right (by assumption))))))) | exact above_trans (by assumption) (ktn_ltOf (And.right (And.right (And.right (And.right (And.right (And.right (by assumption)))))))) | exact above_trans (by assumption) (ktn_ltOf (And.right (And.right (And.right (And.right (And.right (And.right (And.right (by assumption))))))))) | exact above_trans (by assumption) (ktn_ltOf (And.right (And.right (And.right (And.right (And.right (And.right (And.right (And.right (by assumption)))))))))) | exact above_trans (by assumption) (ktn_ltOf (And.right (And.right (And.right (And.right (And.right (And.right (And.right (And.right (And.right (by assumption))))))))))) | exact above_trans (by assumption) (ktn_ltOf (And.right (And.right (And.right (And.right (And.right (And.right (And.right (And.right (And.right (And.right (by assumption)))))))))))) | exact above_trans (by assumption) (ktn_ltOf (And.right (And.right (And.right (And.right (And.right (And.right (And.right (And.right (And.right (And.right (And.right (by assumption))))))))))))) | exact above_trans (by assumption) (ktn_ltOf (And.right (And.right (And.right (And.right (And.right (And.right (And.right (And.right (And.right (And.right (And.right (And.right (by assumption)))))))))))))) | exact above_trans (by assumption) (ktn_ltOf (And.right (And.right (And.right (And.right (And.right (And.right (And.right (And.right (And.right (And.right (And.right (And.right (And.right (by assumption))))))))))))))) | exact above_trans (by assumption) (ktn_ltOf (And.right (And.right (And.right (And.right (And.right (And.right (And.right (And.right (And.right (And.right (And.right (And.right (And.right (And.right (by assumption)))))))))))))))) | exact above_sub (by assumption) (by repeat' (first | (with_reducible exact subRefl) | (with_reducible exact subNil) | (with_reducible exact subLeft) | (with_reducible refine' subBoth ?_ ?_) | (refine' subCons (by k_mem) ?_) | (with_reducible refine' subTail ?_) | (with_reducible refine' subApp ?_))) | exact above_trans (by assumption) (above_sub (by assumption) (by repeat' (first | (with_reducible exact subRefl) | (with_reducible exact subNil) | (with_reducible exact subLeft) | (with_reducible refine' subBoth ?_ ?_) | (refine' subCons (by k_mem) ?_) | (with_reducible refine' subTail ?_) | (with_reducible refine' subApp ?_)))), rfl⟩
theorem t_null (w : World) (mean : ExcName → Option Value) (mg mb : Str → Option Value) (own : Led) :
    Tell w mean mg mb 5 353 [] own (fun r news' => ∃ x dx t1 t2 u n, r = .ref x ∧ (∀ p ∈ own, p.1 < dx) ∧ dx < x ∧ news' = (x, instObj 163 dx) :: (dx, dictOf (ents w.params ksNull [(t1, .str (Str.ofString "NULL") u), (t2, .none)]) n) :: own) := by
  refine' TellC.tell ?_
  refine' tellC_of [] [] [] [Str.ofString "Null"] ?ho ?hcd ?hb rfl ?hl ?hg ?hc ?h1 ?h2 ?R
  case ho => k_dflt k_is
  case hcd => k_dflt k_is
  case hb => exact fun _ _ _ _ => BindsTo.of_eq rfl
  case hl => kernel_rfl!
  case hg => kernel_rfl!
  case hc => kernel_rfl!
  case h1 => rfl
  case h2 => rfl
  intro LT GT dp un gd outer A₀ base g L s B F X N T hd hu
  simp only [List.map, List.cons_append, List.nil_append, List.append_nil] at F LT
  obtain ⟨hp, ge, dr, tk, os⟩ := s
  k_extra "SK"
  exact RunEnd.intro (by k_asm) (by k_asm) ⟨_, _, _, _, _, _, rfl, by first | assumption | exact ltN (by k_extra "OM") | exact ktn_ltOf (by assumption) | exact ktn_ltOf (And.right (by assumption)) | exact ktn_ltOf (And.right (And.right (by assumption))) | exact ktn_ltOf (And.right (And.right (And.right (by assumption)))) | exact ktn_ltOf (And.right (And.right (And.right (And.right (by assumption))))) | exact ktn_ltOf (And.right (And.right (And.right (And.right (And.right (by assumption)))))) | exact ktn_ltOf (And.right (And.right (And.right (And.right (And.right (And.right (by assumption))))))) | exact ktn_ltOf (And.right (And.right (And.right (And.right (And.right (And.right (And.right (by assumption)))))))) | exact ktn_ltOf (And.right (And.right (And.right (And.right (And.right (And.right (And.right (And.right (by assumption))))))))) | exact ktn_ltOf (And.right (And.right (And.right (And.right (And.right (And.right (And.right (And.right (And.right (by assumption)))))))))) | exact ktn_ltOf (And.right (And.right (And.right (And.right (And.right (And.right (And.right (And.right (And.right (And.right (by assumption))))))))))) | exact ktn_ltOf (And.right (And.right (And.right (And.right (And.right (And.right (And.right (And.right (And.right (And.right (And.right (by assumption)))))))))))) | exact ktn_ltOf (And.right (And.right (And.right (And.right (And.right (And.right (And.right (And.right (And.right (And.right (And.right (And.right (by assumption))))))))))))) | exact ktn_ltOf (And.right (And.right (And.right (And.right (And.right (And.right (And.right (And.right (And.right (And.right (And.right (And.right (And.right (by assumption)))))))))))))) | exact ktn_ltOf (And.right (And.right (And.right (And.right (And.right (And.right (And.right (And.right (And.right (And.right (And.right (And.right (And.right (And.right (by assumption))))))))))))))) | exact above_trans (by assumption) (by assumption) | exact above_trans (by assumption) (above_trans (by assumption) (by assumption)) | exact above_trans (by assumption) (ktn_ltOf (by assumption)) | exact above_trans (by assumption) (ktn_ltOf (And.right (by assumption))) | exact above_trans (by assumption) (ktn_ltOf (And.right (And.right (by assumption)))) | exact above_trans (by assumption) (ktn_ltOf (And.right (And.right (And.right (by assumption))))) | exact above_trans (by assumption) (ktn_ltOf (And.right (And.right (And.right (And.right (by assumption)))))) | exact above_trans (by assumption) (ktn_ltOf (And.right (And.right (And.right (And.right (And.right (by assumption))))))) | exact above_trans (by assumption) (ktn_ltOf (And.right (And.right (And.right (And.right (And.right (And.right (by assumption)))))))) | exact above_trans (by assumption) (ktn_ltOf (And.right (And.right (And.right (And.right (And.right (And.right (And.right (by assumption))))))))) | exact above_trans (by assumption) (ktn_ltOf (And.right (And.right (And.right (And.right (And.right (And.right (And.right (And.right (by assumption)))))))))) | exact above_trans (by assumption) (ktn_ltOf (And.right (And.right (And.right (And.right (And.right (And.right (And.right (And.right (And.right (by assumption))))))))))) | exact above_trans (by assumption) (ktn_ltOf (And.right (And.right (And.right (And.right (And.right (And.right (And.right (And.right (And.right (And.right (by assumption)))))))))))) | exact above_trans (by assumption) (ktn_ltOf (And.right (And.right (And.right (And.right (And.right (And.right (And.right (And.right (And.right (And.right (And.right (by assumption))))))))))))) | exact above_trans (by assumption) (ktn_ltOf (And.right (And.right (And.right (And.right (And.right (And.right (And.right (And.right (And.right (And.right (And.right (And.right (by assumption)))))))))))))) | exact above_trans (by assumption) (ktn_ltOf (And.right (And.right (And.right (And.right (And.right (And.right (And.right (And.right (And.right (And.right (And.right (And.right (And.right (by assumption))))))))))))))) | exact above_trans (by assumption) (ktn_ltOf (And.right (And.right (And.right (And.right (And.right (And.right (And.right (And.right (And.right (And.right (And.right (And.right (And.right (And.right (by assumption)))))))))))))))) | exact above_sub (by assumption) (by repeat' (first | (with_reducible exact subRefl) | (with_reducible exact subNil) | (with_reducible exact subLeft) | (with_reducible refine' subBoth ?_ ?_) | (refine' subCons (by k_mem) ?_) | (with_reducible refine' subTail ?_) | (with_reducible refine' subApp ?_))) | exact above_trans (by assumption) (above_sub (by assumption) (by repeat' (first | (with_reducible exact subRefl) | (with_reducible exact subNil) | (with_reducible exact subLeft) | (with_reducible refine' subBoth ?_ ?_) | (refine' subCons (by k_mem) ?_) | (with_reducible refine' subTail ?_) | (with_reducible refine' subApp ?_)))), by first | assumption | exact ltN (by k_extra "OM") | exact ktn_ltOf (by assumption) | exact ktn_ltOf (And.right (by assumption)) | exact ktn_ltOf (And.right (And.right (by assumption))) | exact ktn_ltOf (And.right (And.right (And.right (by assumption)))) | exact ktn_ltOf (And.right (And.right (And.right (And.right (by assumption))))) | exact ktn_ltOf (And.right (And.right (And.right (And.right (And.right (by assumption)))))) | exact ktn_ltOf (And.right (And.right (And.right (And.right (And.right (And.right (by assumption))))))) | exact ktn_ltOf (And.right (And.right (And.right (And.right (And.right (And.right (And.right (by assumption)))))))) | exact ktn_ltOf (And.right (And.right (And.right (And.right (And.right (And.right (And.right (And.right (by assumption))))))))) | exact ktn_ltOf (And.right (And.right (And.right (And.right (And.right (And.right (And.right (And.right (And.right (by assumption)))))))))) | exact ktn_ltOf (And.right (And.right (And.right (And.right (And.right (And.right (And.right (And.right (And.right (And.right (by assumption))))))))))) | exact ktn_ltOf (And.right (And.right (And.right (And.right (And.right (And.right (And.right (And.right (And.right (And.right (And.right (by assumption)))))))))))) | exact ktn_ltOf (And.right (And.right (And.right (And.right (And.right (And.right (And.right (And.right (And.right (And.right (And.right (And.right (by assumption))))))))))))) | exact ktn_ltOf (And.right (And.right (And.right (And.right (And.right (And.right (And.right (And.right (And.right (And.right (And.right (And.right (And.right (by assumption)))))))))))))) | exact ktn_ltOf (And.right (And.right (And.right (And.right (And.right (And.right (And.right (And.right (And.right (And.right (And.right (And.right (And.right (And.right (by assumption))))))))))))))) | exact above_trans (by assumption) (by assumption) | exact above_trans (by assumption) (above_trans (by assumption) (by assumption)) | exact above_trans (by assumption) (ktn_ltOf (by assumption)) | exact above_trans (by assumption) (ktn_ltOf (And.right (by assumption))) | exact above_trans (by assumption) (ktn_ltOf (And.right (And.right (by assumption)))) | exact above_trans (by assumption) (ktn_ltOf (And.right (And.right (And.right (by assumption))))) | exact above_trans (by assumption) (ktn_ltOf (And.right (And.right (And.right (And.right (by assumption)))))) | exact above_trans (by assumption) (ktn_ltOf (And.right (And.right (And.right (And.right (And.right (by assumption))))))) | exact above_trans (by assumption) (ktn_ltOf (And.right (And.right (And.right (And.right (And.right (And.right (by assumption)))))))) | exact above_trans (by assumption) (ktn_ltOf (And.right (And.right (And.right (And.right (And.right (And.right (And.right (by assumption))))))))) | exact above_trans (by assumption) (ktn_ltOf (And.right (And.right (And.right (And.right (And.right (And.right (And.right (And.right (by assumption)))))))))) | exact above_trans (by assumption) (ktn_ltOf (And.right (And.right (And.right (And.right (And.right (And.right (And.right (And.right (And.right (by assumption))))))))))) | exact above_trans (by assumption) (ktn_ltOf (And.right (And.right (And.right (And.right (And.right (And.right (And.right (And.right (And.right (And.right (by assumption)))))))))))) | exact above_trans (by assumption) (ktn_ltOf (And.right (And.right (And.right (And.right (And.right (And.right (And.right (And.right (And.right (And.right (And.right (by assumption))))))))))))) | exact above_trans (by assumption) (ktn_ltOf (And.right (And.right (And.right (And.right (And.right (And.right (And.right (And.right (And.right (And.right (And.right (And.right (by assumption)))))))))))))) | exact above_trans (by assumption) (ktn_ltOf (And.right (And.right (And.right (And.right (And.right (And.right (And.right (And.right (And.right (And.right (And.right (And.right (And.right (by assumption))))))))))))))) | exact above_trans (by assumption) (ktn_ltOf (And.right (And.right (And.right (And.right (And.right (And.right (And.right (And.right (And.right (And.right (And.right (And.right (And.right (And.right (by assumption)))))))))))))))) | exact above_sub (by assumption) (by repeat' (first | (with_reducible exact subRefl) | (with_reducible exact subNil) | (with_reducible exact subLeft) | (with_reducible refine' subBoth ?_ ?_) | (refine' subCons (by k_mem) ?_) | (with_reducible refine' subTail ?_) | (with_reducible refine' subApp ?_))) | exact above_trans (by assumption) (above_sub (by assumption) (by repeat' (first | (with_reducible exact subRefl) | (with_reducible exact subNil) | (with_reducible exact subLeft) | (with_reducible refine' subBoth ?_ ?_) | (refine' subCons (by k_mem) ?_) | (with_reducible refine' subTail ?_) | (with_reducible refine' subApp ?_)))), rfl⟩
theorem t_symbol (w : World) (mean : ExcName → Option Value) (mg mb : Str → Option Value) (own : Led) (vn : Value) :
    Tell w mean mg mb 5 374 [vn] own (fun r news' => ∃ x dx t1 t2 t3 u n, r = .ref x ∧ (∀ p ∈ own, p.1 < dx) ∧ dx < x ∧ news' = (x, instObj 234 dx) :: (dx, dictOf (ents w.params ksSymbol [(t1, .str (Str.ofString "symbol") u), (t2, vn), (t3, .none)]) n) :: own) := by
  refine' TellC.tell ?_
  refine' tellC_of [Str.ofString "name"] [vn] [] [Str.ofString "Symbol"] ?ho ?hcd ?hb rfl ?hl ?hg ?hc ?h1 ?h2 ?R
  case ho => k_dflt k_is
  case hcd => k_dflt k_is
  case hb => exact fun _ _ _ _ => BindsTo.of_eq rfl
  case hl => kernel_rfl!
  case hg => kernel_rfl!
  case hc => kernel_rfl!
  case h1 => rfl
  case h2 => rfl
  intro LT GT dp un gd outer A₀ base g L s B F X N T hd hu
  simp only [List.map, List.cons_append, List.nil_append, List.append_nil] at F LT
  obtain ⟨hp, ge, dr, tk, os⟩ := s
  k_extra "SK"
  exact RunEnd.intro (by k_asm) (by k_asm) ⟨_, _, _, _, _, _, _, rfl, by first | assumption | exact ltN (by k_extra "OM") | exact ktn_ltOf (by assumption) | exact ktn_ltOf (And.right (by assumption)) | exact ktn_ltOf (And.right (And.right (by assumption))) | exact ktn_ltOf (And.right (And.right (And.right (by assumption)))) | exact ktn_ltOf (And.right (And.right (And.right (And.right (by assumption))))) | exact ktn_ltOf (And.right (And.right (And.right (And.right (And.right (by assumption)))))) | exact ktn_ltOf (And.right (And.right (And.right (And.right (And.right (And.right (by assumption))))))) | exact ktn_ltOf (And.right (And.right (And.right (And.right (And.right (And.right (And.right (by assumption)))))))) | exact ktn_ltOf (And.right (And.right (And.right (And.right (And.right (And.right (And.right (And.right (by assumption))))))))) | exact ktn_ltOf (And.right (And.right (And.right (And.right (And.right (And.right (And.right (And.right (And.right (by assumption)))))))))) | exact ktn_ltOf (And.right (And.right (And.right (And.right (And.right (And.right (And.right (And.right (And.right (And.right (by assumption))))))))))) | exact ktn_ltOf (And.right (And.right (And.right (And.right (And.right (And.right (And.right (And.right (And.right (And.right (And.right (by assumption)))))))))))) | exact ktn_ltOf (And.right (And.right (And.right (And.right (And.right (And.right (And.right (And.right (And.right (And.right (And.right (And.right (by assumption))))))))))))) | exact ktn_ltOf (And.right (And.right (And.right (And.right (And.right (And.right (And.right (And.right (And.right (And.right (And.right (And.right (And.right (by assumption)))))))))))))) | exact ktn_ltOf (And.right (And.right (And.right (And.right (And.right (And.right (And.right (And.right (And.right (And.right (And.right (And.right (And.right (And.right (by assumption))))))))))))))) | exact above_trans (by assumption) (by assumption) | exact above_trans (by assumption) (above_trans (by assumption) (by assumption)) | exact above_trans (by assumption) (ktn_ltOf (by assumption)) | exact above_trans (by assumption) (ktn_ltOf (And.right (by assumption))) | exact above_trans (by assumption) (ktn_ltOf (And.right (And.right (by assumption)))) | exact above_trans (by assumption) (ktn_ltOf (And.right (And.right (And.right (by assumption))))) | exact above_trans (by assumption) (ktn_ltOf (And.right (And.right (And.right (And.right (by assumption)))))) | exact above_trans (by assumption) (ktn_ltOf (And.right (And.right (And.right (And.right (And.right (by assumption))))))) | exact above_trans (by assumption) (ktn_ltOf (And.right (And.right (And.right (And.right (And.right (And.right (by assumption)))))))) | exact above_trans (by assumption) (ktn_ltOf (And.right (And.right (And.right (And.right (And.right (And.right (And.right (by assumption))))))))) | exact above_trans (by assumption) (ktn_ltOf (And.right (And.right (And.right (And.right (And.right (And.right (And.right (And.right (by assumption)))))))))) | exact above_trans (by assumption) (ktn_ltOf (And.right (And.right (And.right (And.right (And.right (And.right (And.right (And.right (And.right (by assumption))))))))))) | exact above_trans (by assumption) (ktn_ltOf (And.right (And.right (And.right (And.right (And.right (And.right (And.right (And.right (And.right (And.right (by assumption)))))))))))) | exact above_trans (by assumption) (ktn_ltOf (And.right (And.right (And.right (And.right (And.right (And.right (And.right (And.right (And.right (And.right (And.right (by assumption))))))))))))) | exact above_trans (by assumption) (ktn_ltOf (And.right (And.right (And.right (And.right (And.right (And.right (And.right (And.right (And.right (And.right (And.right (And.right (by assumption)))))))))))))) | exact above_trans (by assumption) (ktn_ltOf (And.right (And.right (And.right (And.right (And.right (And.right (And.right (And.right (And.right (And.right (And.right (And.right (And.right (by assumption))))))))))))))) | exact above_trans (by assumption) (ktn_ltOf (And.right (And.right (And.right (And.right (And.right (And.right (And.right (And.right (And.right (And.right (And.right (And.right (And.right (And.right (by assumption)))))))))))))))) | exact above_sub (by assumption) (by repeat' (first | (with_reducible exact subRefl) | (with_reducible exact subNil) | (with_reducible exact subLeft) | (with_reducible refine' subBoth ?_ ?_) | (refine' subCons (by k_mem) ?_) | (with_reducible refine' subTail ?_) | (with_reducible refine' subApp ?_))) | exact above_trans (by assumption) (above_sub (by assumption) (by repeat' (first | (with_reducible exact subRefl) | (with_reducible exact subNil) | (with_reducible exact subLeft) | (with_reducible refine' subBoth ?_ ?_) | (refine' subCons (by k_mem) ?_) | (with_reducible refine' subTail ?_) | (with_reducible refine' subApp ?_)))), by first | assumption | exact ltN (by k_extra "OM") | exact ktn_ltOf (by assumption) | exact ktn_ltOf (And.right (by assumption)) | exact ktn_ltOf (And.right (And.right (by assumption))) | exact ktn_ltOf (And.right (And.right (And.right (by assumption)))) | exact ktn_ltOf (And.right (And.right (And.right (And.right (by assumption))))) | exact ktn_ltOf (And.right (And.right (And.right (And.right (And.right (by assumption)))))) | exact ktn_ltOf (And.right (And.right (And.right (And.right (And.right (And.right (by assumption))))))) | exact ktn_ltOf (And.right (And.right (And.right (And.right (And.right (And.right (And.right (by assumption)))))))) | exact ktn_ltOf (And.right (And.right (And.right (And.right (And.right (And.right (And.right (And.right (by assumption))))))))) | exact ktn_ltOf (And.right (And.right (And.right (And.right (And.right (And.right (And.right (And.right (And.right (by assumption)))))))))) | exact ktn_ltOf (And.right (And.right (And.right (And.right (And.right (And.right (And.right (And.right (And.right (And.right (by assumption))))))))))) | exact ktn_ltOf (And.right (And.right (And.right (And.right (And.right (And.right (And.right (And.right (And.right (And.right (And.right (by assumption)))))))))))) | exact ktn_ltOf (And.right (And.right (And.right (And.right (And.right (And.right (And.right (And.right (And.right (And.right (And.right (And.right (by assumption))))))))))))) | exact ktn_ltOf (And.right (And.right (And.right (And.right (And.right (And.right (And.right (And.right (And.right (And.right (And.right (And.right (And.right (by assumption)))))))))))))) | exact ktn_ltOf (And.right (And.right (And.right (And.right (And.right (And.right (And.right (And.right (And.right (And.right (And.right (And.right (And.right (And.right (by assumption))))))))))))))) | exact above_trans (by assumption) (by assumption) | exact above_trans (by assumption) (above_trans (by assumption) (by assumption)) | exact above_trans (by assumption) (ktn_ltOf (by assumption)) | exact above_trans (by assumption) (ktn_ltOf (And.right (by assumption))) | exact above_trans (by assumption) (ktn_ltOf (And.right (And.right (by assumption)))) | exact above_trans (by assumption) (ktn_ltOf (And.right (And.right (And.right (by assumption))))) | exact above_trans (by assumption) (ktn_ltOf (And.right (And.right (And.right (And.right (by assumption)))))) | exact above_trans (by assumption) (ktn_ltOf (And.right (And.right (And.right (And.right (And.right (by assumption))))))) | exact above_trans (by assumption) (ktn_ltOf (And.right (And.right (And.right (And.right (And.right (And.right (by assumption)))))))) | exact above_trans (by assumption) (ktn_ltOf (And.right (And.right (And.right (And.right (And.right (And.right (And.right (by assumption))))))))) | exact above_trans (by assumption) (ktn_ltOf (And.right (And.right (And.right (And.right (And.right (And.right (And.right (And.right (by assumption)))))))))) | exact above_trans (by assumption) (ktn_ltOf (And.right (And.right (And.right (And.right (And.right (And.right (And.right (And.right (And.right (by assumption))))))))))) | exact above_trans (by assumption) (ktn_ltOf (And.right (And.right (And.right (And.right (And.right (And.right (And.right (And.right (And.right (And.right (by assumption)))))))))))) | exact above_trans (by assumption) (ktn_ltOf (And.right (And.right (And.right (And.right (And.right (And.right (And.right (And.right (And.right (And.right (And.right (by assumption))))))))))))) | exact above_trans (by assumption) (ktn_ltOf (And.right (And.right (And.right (And.right (And.right (And.right (And.right (And.right (And.right (And.right (And.right (And.right (by assumption)))))))))))))) | exact above_trans (by assumption) (ktn_ltOf (And.right (And.right (And.right (And.right (And.right (And.right (And.right (And.right (And.right (And.right (And.right (And.right (And.right (by assumption))))))))))))))) | exact above_trans (by assumption) (ktn_ltOf (And.right (And.right (And.right (And.right (And.right (And.right (And.right (And.right (And.right (And.right (And.right (And.right (And.right (And.right (by assumption)))))))))))))))) | exact above_sub (by assumption) (by repeat' (first | (with_reducible exact subRefl) | (with_reducible exact subNil) | (with_reducible exact subLeft) | (with_reducible refine' subBoth ?_ ?_) | (refine' subCons (by k_mem) ?_) | (with_reducible refine' subTail ?_) | (with_reducible refine' subApp ?_))) | exact above_trans (by assumption) (above_sub (by assumption) (by repeat' (first | (with_reducible exact subRefl) | (with_reducible exact subNil) | (with_reducible exact subLeft) | (with_reducible refine' subBoth ?_ ?_) | (refine' subCons (by k_mem) ?_) | (with_reducible refine' subTail ?_) | (with_reducible refine' subApp ?_)))), rfl⟩
theorem t_whole (w : World) (mean : ExcName → Option Value) (mg mb : Str → Option Value) (own : Led) (vn : Value) :
    Tell w mean mg mb 5 367 [vn] own (fun r news' => ∃ x dx l t1 t2 t3 t4 t5 u n nl, r = .ref x ∧ (∀ p ∈ own, p.1 < l) ∧ l < dx ∧ dx < x ∧
      news' = (x, instObj 213 dx) :: (dx, dictOf (ents w.params ksVector [(t1, .str (Str.ofString "integer") u), (t2, .ref l), (t3, .none), (t4, .bool false), (t5, .bool false)]) n) :: (l, listOf [vn].toArray nl) :: own) := by
  refine' TellC.tell ?_
  refine' tellC_of [Str.ofString "n"] [vn] [] [Str.ofString "Vector"] ?ho ?hcd ?hb rfl ?hl ?hg ?hc ?h1 ?h2 ?R
  case ho => k_dflt k_is
  case hcd => k_dflt k_is
  case hb => exact fun _ _ _ _ => BindsTo.of_eq rfl
  case hl => kernel_rfl!
  case hg => kernel_rfl!
  case hc => kernel_rfl!
  case h1 => rfl
  case h2 => rfl
  intro LT GT dp un gd outer A₀ base g L s B F X N T hd hu
  simp only [List.map, List.cons_append, List.nil_append, List.append_nil] at F LT
  obtain ⟨hp, ge, dr, tk, os⟩ := s
  k_extra "SK"
  exact RunEnd.intro (by k_asm) (by k_asm) ⟨_, _, _, _, _, _, _, _, _, _, _, rfl, by first | assumption | exact ltN (by k_extra "OM") | exact ktn_ltOf (by assumption) | exact ktn_ltOf (And.right (by assumption)) | exact ktn_ltOf (And.right (And.right (by assumption))) | exact ktn_ltOf (And.right (And.right (And.right (by assumption)))) | exact ktn_ltOf (And.right (And.right (And.right (And.right (by assumption))))) | exact ktn_ltOf (And.right (And.right (And.right (And.right (And.right (by assumption)))))) | exact ktn_ltOf (And.right (And.right (And.right (And.right (And.right (And.right (by assumption))))))) | exact ktn_ltOf (And.right (And.right (And.right (And.right (And.right (And.right (And.right (by assumption)))))))) | exact ktn_ltOf (And.right (And.right (And.right (And.right (And.right (And.right (And.right (And.right (by assumption))))))))) | exact ktn_ltOf (And.right (And.right (And.right (And.right (And.right (And.right (And.right (And.right (And.right (by assumption)))))))))) | exact ktn_ltOf (And.right (And.right (And.right (And.right (And.right (And.right (And.right (And.right (And.right (And.right (by assumption))))))))))) | exact ktn_ltOf (And.right (And.right (And.right (And.right (And.right (And.right (And.right (And.right (And.right (And.right (And.right (by assumption)))))))))))) | exact ktn_ltOf (And.right (And.right (And.right (And.right (And.right (And.right (And.right (And.right (And.right (And.right (And.right (And.right (by assumption))))))))))))) | exact ktn_ltOf (And.right (And.right (And.right (And.right (And.right (And.right (And.right (And.right (And.right (And.right (And.right (And.right (And.right (by assumption)))))))))))))) | exact ktn_ltOf (And.right (And.right (And.right (And.right (And.right (And.right (And.right (And.right (And.right (And.right (And.right (And.right (And.right (And.right (by assumption))))))))))))))) | exact above_trans (by assumption) (by assumption) | exact above_trans (by assumption) (above_trans (by assumption) (by assumption)) | exact above_trans (by assumption) (ktn_ltOf (by assumption)) | exact above_trans (by assumption) (ktn_ltOf (And.right (by assumption))) | exact above_trans (by assumption) (ktn_ltOf (And.right (And.right (by assumption)))) | exact above_trans (by assumption) (ktn_ltOf (And.right (And.right (And.right (by assumption))))) | exact above_trans (by assumption) (ktn_ltOf (And.right (And.right (And.right (And.right (by assumption)))))) | exact above_trans (by assumption) (ktn_ltOf (And.right (And.right (And.right (And.right (And.right (by assumption))))))) | exact above_trans (by assumption) (ktn_ltOf (And.right (And.right (And.right (And.right (And.right (And.right (by assumption)))))))) | exact above_trans (by assumption) (ktn_ltOf (And.right (And.right (And.right (And.right (And.right (And.right (And.right (by assumption))))))))) | exact above_trans (by assumption) (ktn_ltOf (And.right (And.right (And.right (And.right (And.right (And.right (And.right (And.right (by assumption)))))))))) | exact above_trans (by assumption) (ktn_ltOf (And.right (And.right (And.right (And.right (And.right (And.right (And.right (And.right (And.right (by assumption))))))))))) | exact above_trans (by assumption) (ktn_ltOf (And.right (And.right (And.right (And.right (And.right (And.right (And.right (And.right (And.right (And.right (by assumption)))))))))))) | exact above_trans (by assumption) (ktn_ltOf (And.right (And.right (And.right (And.right (And.right (And.right (And.right (And.right (And.right (And.right (And.right (by assumption))))))))))))) | exact above_trans (by assumption) (ktn_ltOf (And.right (And.right (And.right (And.right (And.right (And.right (And.right (And.right (And.right (And.right (And.right (And.right (by assumption)))))))))))))) | exact above_trans (by assumption) (ktn_ltOf (And.right (And.right (And.right (And.right (And.right (And.right (And.right (And.right (And.right (And.right (And.right (And.right (And.right (by assumption))))))))))))))) | exact above_trans (by assumption) (ktn_ltOf (And.right (And.right (And.right (And.right (And.right (And.right (And.right (And.right (And.right (And.right (And.right (And.right (And.right (And.right (by assumption)))))))))))))))) | exact above_sub (by assumption) (by repeat' (first | (with_reducible exact subRefl) | (with_reducible exact subNil) | (with_reducible exact subLeft) | (with_reducible refine' subBoth ?_ ?_) | (refine' subCons (by k_mem) ?_) | (with_reducible refine' subTail ?_) | (with_reducible refine' subApp ?_))) | exact above_trans (by assumption) (above_sub (by assumption) (by repeat' (first | (with_reducible exact subRefl) | (with_reducible exact subNil) | (with_reducible exact subLeft) | (with_reducible refine' subBoth ?_ ?_) | (refine' subCons (by k_mem) ?_) | (with_reducible refine' subTail ?_) | (with_reducible refine' subApp ?_)))), by first | assumption | exact ltN (by k_extra "OM") | exact ktn_ltOf (by assumption) | exact ktn_ltOf (And.right (by assumption)) | exact ktn_ltOf (And.right (And.right (by assumption))) | exact ktn_ltOf (And.right (And.right (And.right (by assumption)))) | exact ktn_ltOf (And.right (And.right (And.right (And.right (by assumption))))) | exact ktn_ltOf (And.right (And.right (And.right (And.right (And.right (by assumption)))))) | exact ktn_ltOf (And.right (And.right (And.right (And.right (And.right (And.right (by assumption))))))) | exact ktn_ltOf (And.right (And.right (And.right (And.right (And.right (And.right (And.right (by assumption)))))))) | exact ktn_ltOf (And.right (And.right (And.right (And.right (And.right (And.right (And.right (And.right (by assumption))))))))) | exact ktn_ltOf (And.right (And.right (And.right (And.right (And.right (And.right (And.right (And.right (And.right (by assumption)))))))))) | exact ktn_ltOf (And.right (And.right (And.right (And.right (And.right (And.right (And.right (And.right (And.right (And.right (by assumption))))))))))) | exact ktn_ltOf (And.right (And.right (And.right (And.right (And.right (And.right (And.right (And.right (And.right (And.right (And.right (by assumption)))))))))))) | exact ktn_ltOf (And.right (And.right (And.right (And.right (And.right (And.right (And.right (And.right (And.right (And.right (And.right (And.right (by assumption))))))))))))) | exact ktn_ltOf (And.right (And.right (And.right (And.right (And.right (And.right (And.right (And.right (And.right (And.right (And.right (And.right (And.right (by assumption)))))))))))))) | exact ktn_ltOf (And.right (And.right (And.right (And.right (And.right (And.right (And.right (And.right (And.right (And.right (And.right (And.right (And.right (And.right (by assumption))))))))))))))) | exact above_trans (by assumption) (by assumption) | exact above_trans (by assumption) (above_trans (by assumption) (by assumption)) | exact above_trans (by assumption) (ktn_ltOf (by assumption)) | exact above_trans (by assumption) (ktn_ltOf (And.right (by assumption))) | exact above_trans (by assumption) (ktn_ltOf (And.right (And.right (by assumption)))) | exact above_trans (by assumption) (ktn_ltOf (And.right (And.right (And.right (by assumption))))) | exact above_trans (by assumption) (ktn_ltOf (And.right (And.right (And.right (And.right (by assumption)))))) | exact above_trans (by assumption) (ktn_ltOf (And.right (And.right (And.right (And.right (And.right (by assumption))))))) | exact above_trans (by assumption) (ktn_ltOf (And.right (And.right (And.right (And.right (And.right (And.right (by assumption)))))))) | exact above_trans (by assumption) (ktn_ltOf (And.right (And.right (And.right (And.right (And.right (And.right (And.right (by assumption))))))))) | exact above_trans (by assumption) (ktn_ltOf (And.right (And.right (And.right (And.right (And.right (And.right (And.right (And.right (by assumption)))))))))) | exact above_trans (by assumption) (ktn_ltOf (And.right (And.right (And.right (And.right (And.right (And.right (And.right (And.right (And.right (by assumption))))))))))) | exact above_trans (by assumption) (ktn_ltOf (And.right (And.right (And.right (And.right (And.right (And.right (And.right (And.right (And.right (And.right (by assumption)))))))))))) | exact above_trans (by assumption) (ktn_ltOf (And.right (And.right (And.right (And.right (And.right (And.right (And.right (And.right (And.right (And.right (And.right (by assumption))))))))))))) | exact above_trans (by assumption) (ktn_ltOf (And.right (And.right (And.right (And.right (And.right (And.right (And.right (And.right (And.right (And.right (And.right (And.right (by assumption)))))))))))))) | exact above_trans (by assumption) (ktn_ltOf (And.right (And.right (And.right (And.right (And.right (And.right (And.right (And.right (And.right (And.right (And.right (And.right (And.right (by assumption))))))))))))))) | exact above_trans (by assumption) (ktn_ltOf (And.right (And.right (And.right (And.right (And.right (And.right (And.right (And.right (And.right (And.right (And.right (And.right (And.right (And.right (by assumption)))))))))))))))) | exact above_sub (by assumption) (by repeat' (first | (with_reducible exact subRefl) | (with_reducible exact subNil) | (with_reducible exact subLeft) | (with_reducible refine' subBoth ?_ ?_) | (refine' subCons (by k_mem) ?_) | (with_reducible refine' subTail ?_) | (with_reducible refine' subApp ?_))) | exact above_trans (by assumption) (above_sub (by assumption) (by repeat' (first | (with_reducible exact subRefl) | (with_reducible exact subNil) | (with_reducible exact subLeft) | (with_reducible refine' subBoth ?_ ?_) | (refine' subCons (by k_mem) ?_) | (with_reducible refine' subTail ?_) | (with_reducible refine' subApp ?_)))), by first | assumption | exact ltN (by k_extra "OM") | exact ktn_ltOf (by assumption) | exact ktn_ltOf (And.right (by assumption)) | exact ktn_ltOf (And.right (And.right (by assumption))) | exact ktn_ltOf (And.right (And.right (And.right (by assumption)))) | exact ktn_ltOf (And.right (And.right (And.right (And.right (by assumption))))) | exact ktn_ltOf (And.right (And.right (And.right (And.right (And.right (by assumption)))))) | exact ktn_ltOf (And.right (And.right (And.right (And.right (And.right (And.right (by assumption))))))) | exact ktn_ltOf (And.right (And.right (And.right (And.right (And.right (And.right (And.right (by assumption)))))))) | exact ktn_ltOf (And.right (And.right (And.right (And.right (And.right (And.right (And.right (And.right (by assumption))))))))) | exact ktn_ltOf (And.right (And.right (And.right (And.right (And.right (And.right (And.right (And.right (And.right (by assumption)))))))))) | exact ktn_ltOf (And.right (And.right (And.right (And.right (And.right (And.right (And.right (And.right (And.right (And.right (by assumption))))))))))) | exact ktn_ltOf (And.right (And.right (And.right (And.right (And.right (And.right (And.right (And.right (And.right (And.right (And.right (by assumption)))))))))))) | exact ktn_ltOf (And.right (And.right (And.right (And.right (And.right (And.right (And.right (And.right (And.right (And.right (And.right (And.right (by assumption))))))))))))) | exact ktn_ltOf (And.right (And.right (And.right (And.right (And.right (And.right (And.right (And.right (And.right (And.right (And.right (And.right (And.right (by assumption)))))))))))))) | exact ktn_ltOf (And.right (And.right (And.right (And.right (And.right (And.right (And.right (And.right (And.right (And.right (And.right (And.right (And.right (And.right (by assumption))))))))))))))) | exact above_trans (by assumption) (by assumption) | exact above_trans (by assumption) (above_trans (by assumption) (by assumption)) | exact above_trans (by assumption) (ktn_ltOf (by assumption)) | exact above_trans (by assumption) (ktn_ltOf (And.right (by assumption))) | exact above_trans (by assumption) (ktn_ltOf (And.right (And.right (by assumption)))) | exact above_trans (by assumption) (ktn_ltOf (And.right (And.right (And.right (by assumption))))) | exact above_trans (by assumption) (ktn_ltOf (And.right (And.right (And.right (And.right (by assumption)))))) | exact above_trans (by assumption) (ktn_ltOf (And.right (And.right (And.right (And.right (And.right (by assumption))))))) | exact above_trans (by assumption) (ktn_ltOf (And.right (And.right (And.right (And.right (And.right (And.right (by assumption)))))))) | exact above_trans (by assumption) (ktn_ltOf (And.right (And.right (And.right (And.right (And.right (And.right (And.right (by assumption))))))))) | exact above_trans (by assumption) (ktn_ltOf (And.right (And.right (And.right (And.right (And.right (And.right (And.right (And.right (by assumption)))))))))) | exact above_trans (by assumption) (ktn_ltOf (And.right (And.right (And.right (And.right (And.right (And.right (And.right (And.right (And.right (by assumption))))))))))) | exact above_trans (by assumption) (ktn_ltOf (And.right (And.right (And.right (And.right (And.right (And.right (And.right (And.right (And.right (And.right (by assumption)))))))))))) | exact above_trans (by assumption) (ktn_ltOf (And.right (And.right (And.right (And.right (And.right (And.right (And.right (And.right (And.right (And.right (And.right (by assumption))))))))))))) | exact above_trans (by assumption) (ktn_ltOf (And.right (And.right (And.right (And.right (And.right (And.right (And.right (And.right (And.right (And.right (And.right (And.right (by assumption)))))))))))))) | exact above_trans (by assumption) (ktn_ltOf (And.right (And.right (And.right (And.right (And.right (And.right (And.right (And.right (And.right (And.right (And.right (And.right (And.right (by assumption))))))))))))))) | exact above_trans (by assumption) (ktn_ltOf (And.right (And.right (And.right (And.right (And.right (And.right (And.right (And.right (And.right (And.right (And.right (And.right (And.right (And.right (by assumption)))))))))))))))) | exact above_sub (by assumption) (by repeat' (first | (with_reducible exact subRefl) | (with_reducible exact subNil) | (with_reducible exact subLeft) | (with_reducible refine' subBoth ?_ ?_) | (refine' subCons (by k_mem) ?_) | (with_reducible refine' subTail ?_) | (with_reducible refine' subApp ?_))) | exact above_trans (by assumption) (above_sub (by assumption) (by repeat' (first | (with_reducible exact subRefl) | (with_reducible exact subNil) | (with_reducible exact subLeft) | (with_reducible refine' subBoth ?_ ?_) | (refine' subCons (by k_mem) ?_) | (with_reducible refine' subTail ?_) | (with_reducible refine' subApp ?_)))), rfl⟩


theorem mul_lit {w : World} {A : Around} {E : Value → Shared → Prop} {h₀ h : Heap} {L : Addr} {m : Str → Option Value} {ge : Array GenState} {dr : Drawn} {tk : Nat} {os : OsState} {news : Led} {l : Addr} {v : Value} {k n : Nat} {x : Int} {u : Tok} {Q : Value → Shared → Prop}
    (F : Fr h₀ L h m) (N : News h₀ L h news) (hm : (l, listOf [v].toArray k) ∈ news) (hn : x.toNat = n) (h0 : 0 ≤ x) (hx : x ≤ 1000)
    (q : ∀ l' h', Fr h₀ L h' m → News h₀ L h' ((l', listOf (List.replicate n v).toArray 0) :: news) → (∀ p ∈ news, p.1 < l') → Q (.ref l') ⟨h', ge, dr, tk, os⟩) :
    wpAny (model PR w) A (binaryOp .Mult (.ref l) (.int x u)) Q E ⟨h, ge, dr, tk, os⟩ := by
  refine mul_list (s := ⟨h, ge, dr, tk, os⟩) F N (N _ hm).1 (by k_extra "OM") (by k_extra "OM") ?_ fun h' F' N' => ?_
  · show ([v].toArray).size * x.toNat ≤ 2 ^ 24
    simp; omega
  · rw [listMul_foldl_if, hn] at N'
    have e : (List.replicate n [v].toArray.toList).flatten = List.replicate n v := by
      induction n with
      | zero => rfl
      | succ n ih => simp [List.replicate_succ]
    rw [e] at N'
    exact q _ h' F' N' fun p hp => Heap.lt_size (N p hp).1


inductive KindRec (w : World) (news : Led) (x : Addr) (kd : Str) : Prop
  | mk (C) (ks) (t) (u) (tvs) (c0 : ClsOk w C) (c1 : AttrOk w C (Str.ofString "kind")) (c2 : (Str.ofString "kind" :: ks).Nodup) (c3 : Rec w news x C (Str.ofString "kind" :: ks) ((t, .str kd u) :: tvs)) : KindRec w news x kd
theorem KindRec.mono {w : World} {news news' : Led} {x : Addr} {kd : Str} (h : KindRec w news x kd) (hs : ∀ p ∈ news, p ∈ news') : KindRec w news' x kd :=
  let ⟨C, ks, t, u, tvs, h1, h2, h3, h4⟩ := h; ⟨C, ks, t, u, tvs, h1, h2, h3, h4.mono hs⟩
noncomputable def Fresh (own tl : Led) : Prop := ∀ p ∈ own, ∀ q ∈ tl, p.1 < q.1
theorem Fresh.nil {own : Led} : Fresh own [] := fun _ _ _ h => nomatch h
theorem Fresh.cons {own tl : Led} {a : Addr} {o : Obj} (h : ∀ p ∈ own, p.1 < a) (k : Fresh own tl) : Fresh own ((a, o) :: tl) := fun p hp q hq => by
  rcases List.mem_cons.mp hq with rfl | hq
  · exact h p hp
  · exact k p hp q hq
theorem above_trans {own : Led} {a b : Addr} (k : @LT.lt Nat _ a b) (h : ∀ p ∈ own, p.1 < a) : ∀ p ∈ own, p.1 < b := fun p hp => Nat.lt_trans (h p hp) k
inductive Ext (own : Led) : Led → Led → Prop
  | nil : Ext own own []
  | cons {p l tl} : Ext own l tl → Ext own (p :: l) (p :: tl)
theorem Ext.eq {own l tl : Led} (h : Ext own l tl) : l = tl ++ own := by
  induction h with
  | nil => rfl
  | cons _ ih => rw [ih]; rfl
theorem Ext.app {own a l tl : Led} (h : Ext own l tl) : Ext own (a ++ l) (a ++ tl) := by
  induction a with
  | nil => exact h
  | cons p a ih => exact Ext.cons ih
theorem Fresh.app {own a tl : Led} (h : Fresh own a) (k : Fresh own tl) : Fresh own (a ++ tl) := fun p hp q hq => by
  rcases List.mem_append.mp hq with hq | hq
  · exact h p hp q hq
  · exact k p hp q hq
theorem Fresh.sub {own own' a : Led} (h : Fresh own' a) (k : ∀ p ∈ own, p ∈ own') : Fresh own a := fun p hp q hq => h p (k p hp) q hq
theorem above_sub {own l : Led} {a : Addr} (h : ∀ p ∈ l, p.1 < a) (k : ∀ p ∈ own, p ∈ l) : ∀ p ∈ own, p.1 < a := fun p hp => h p (k p hp)
theorem KindRec.of {w : World} {news : Led} {x dx C : Addr} {ks : List Str} {t u : Tok} {kd : Str} {tvs : List (Tok × Value)} {n : Nat} (hc : ClsOk w C) (ha : AttrOk w C (Str.ofString "kind")) (hn : (Str.ofString "kind" :: ks).Nodup)
    (h1 : (x, instObj C dx) ∈ news) (h2 : (dx, dictOf (ents w.params (Str.ofString "kind" :: ks) ((t, .str kd u) :: tvs)) n) ∈ news) : KindRec w news x kd :=
  ⟨C, ks, t, u, tvs, hc, ha, hn, dx, n, h1, h2⟩

inductive MisRec (w : World) (n : Led) (x : Addr) : Prop
  | mk (t1) (t2) (u) (c0 : Rec w n x 184 ksMissing [(t1, .str (Str.ofString "missing") u), (t2, .none)]) : MisRec w n x
inductive NumRec (w : World) (n : Led) (x : Addr) (fig : Int) : Prop
  | mk (l) (nl) (tf) (t1) (t2) (t3) (t4) (t5) (u) (b) (c0 : Rec w n x 213 ksVector [(t1, .str (Str.ofString "integer") u), (t2, .ref l), (t3, .none), (t4, .bool b), (t5, .bool false)]) (c1 : (l, listOf [.int fig tf].toArray nl) ∈ n) : NumRec w n x fig
inductive PromRec (w : World) (n : Led) (x : Addr) (ex ev : Value) : Prop
  | mk (t1) (t2) (t3) (t4) (t5) (t6) (u) (u2) (c0 : Rec w n x 321 ksPromise [(t1, .str (Str.ofString "promise") u), (t2, ex), (t3, ev), (t4, .none), (t5, .int 0 u2), (t6, .none)]) : PromRec w n x ex ev
inductive SymRec (w : World) (n : Led) (x : Addr) (nm : Str) : Prop
  | mk (t1) (t2) (t3) (u) (u2) (c0 : Rec w n x 234 ksSymbol [(t1, .str (Str.ofString "symbol") u), (t2, .str nm u2), (t3, .none)]) : SymRec w n x nm
noncomputable def xyN (k : Int) : Str := if k = 0 then Str.ofString "x" else Str.ofString "y"
theorem xyN_item {k : Int} (h0 : 0 ≤ k) (h1 : k < 2) : Txt.item (Str.ofString "xy") k = xyN k := by
  have : k = 0 ∨ k = 1 := by k_extra "OM"
  rcases this with rfl | rfl <;> decide +kernel
noncomputable def ArgOk (w : World) (tl : Led) (x : Addr) (kind fig : Int) (bf : Value) : Prop :=
  (kind = 1 ∧ MisRec w tl x) ∨ (kind = 2 ∧ NumRec w tl x fig) ∨ (kind = 3 ∧ ∃ e, PromRec w tl x (.ref e) bf ∧ KindRec w tl e (Str.ofString "language")) ∨
    (4 ≤ kind ∧ ∃ e, PromRec w tl x (.ref e) bf ∧ SymRec w tl e (xyN (kind - 4)))
end SFSmall

theorem reg_macros4 : True := by
  k_with "kpc_turns" => (first
  | ((with_reducible show wpAny _ _ (call (Value.ref 360) _) _ _ _); (with_reducible refine' Tell.use (t_missing _ _ _ _ _) ?zqB ?zqF ?zqX ?zqN ?zqsub ?zqT ?zqhk ?zqhd ?zqhu ?_); (case zqB => k_asm); (case zqF => k_asm); (case zqX => k_asm); (case zqN => k_asm); (case zqsub => exact subRefl); (case zqT => k_asm); (case zqhk => rfl); (case zqhd => first | exact lim (by assumption) rfl | k_extra "OM"); (case zqhu => first | exact lim (by assumption) rfl | k_extra "OM"); intro zqr' zqnews' zqh' zqtk' zqF' zqN' zqpo0'; (refine ex6 zqpo0' ?_); clear zqpo0'; intro zqx' zqdx' _ _ _ _ zqpo0'; (refine sp4 zqpo0' ?_); clear zqpo0'; intro zqe1 zql1 zql2 zqe2; subst zqe1; subst zqe2; (try (k_extra "ALl1")); (try k_lt2 zql2); (try k_sweep))
  | ((with_reducible show wpAny _ _ (call (Value.ref 353) _) _ _ _); (with_reducible refine' Tell.use (t_null _ _ _ _ _) ?zqB ?zqF ?zqX ?zqN ?zqsub ?zqT ?zqhk ?zqhd ?zqhu ?_); (case zqB => k_asm); (case zqF => k_asm); (case zqX => k_asm); (case zqN => k_asm); (case zqsub => exact subRefl); (case zqT => k_asm); (case zqhk => rfl); (case zqhd => first | exact lim (by assumption) rfl | k_extra "OM"); (case zqhu => first | exact lim (by assumption) rfl | k_extra "OM"); intro zqr' zqnews' zqh' zqtk' zqF' zqN' zqpo0'; (refine ex6 zqpo0' ?_); clear zqpo0'; intro zqx' zqdx' _ _ _ _ zqpo0'; (refine sp4 zqpo0' ?_); clear zqpo0'; intro zqe1 zql1 zql2 zqe2; subst zqe1; subst zqe2; (try (k_extra "ALl1")); (try k_lt2 zql2); (try k_sweep))
  | ((with_reducible show wpAny _ _ (call (Value.ref 374) _) _ _ _); (with_reducible refine' Tell.use (t_symbol _ _ _ _ _ _) ?zqB ?zqF ?zqX ?zqN ?zqsub ?zqT ?zqhk ?zqhd ?zqhu ?_); (case zqB => k_asm); (case zqF => k_asm); (case zqX => k_asm); (case zqN => k_asm); (case zqsub => exact subRefl); (case zqT => k_asm); (case zqhk => rfl); (case zqhd => first | exact lim (by assumption) rfl | k_extra "OM"); (case zqhu => first | exact lim (by assumption) rfl | k_extra "OM"); intro zqr' zqnews' zqh' zqtk' zqF' zqN' zqpo0'; (refine ex7 zqpo0' ?_); clear zqpo0'; intro zqx' zqdx' _ _ _ _ _ zqpo0'; (refine sp4 zqpo0' ?_); clear zqpo0'; intro zqe1 zql1 zql2 zqe2; subst zqe1; subst zqe2; (try (k_extra "ALl1")); (try k_lt2 zql2); (try k_sweep))
  | ((with_reducible show wpAny _ _ (call (Value.ref 367) _) _ _ _); (with_reducible refine' Tell.use (t_whole _ _ _ _ _ _) ?zqB ?zqF ?zqX ?zqN ?zqsub ?zqT ?zqhk ?zqhd ?zqhu ?_); (case zqB => k_asm); (case zqF => k_asm); (case zqX => k_asm); (case zqN => k_asm); (case zqsub => exact subRefl); (case zqT => k_asm); (case zqhk => rfl); (case zqhd => first | exact lim (by assumption) rfl | k_extra "OM"); (case zqhu => first | exact lim (by assumption) rfl | k_extra "OM"); intro zqr' zqnews' zqh' zqtk' zqF' zqN' zqpo0'; (refine ex11 zqpo0' ?_); clear zqpo0'; intro zqx' zqdx' zql' _ _ _ _ _ _ _ _ zqpo0'; (refine sp5 zqpo0' ?_); clear zqpo0'; intro zqe1 zql1 zql2 zql3 zqe2; subst zqe1; subst zqe2; (try (k_extra "ALl1")); (try k_lt2 zql2); (try k_lt2 zql3); (try k_sweep)))
  k_with "kat_tups" => (first
  | ((with_reducible show wpAny _ _ (binaryOp Operator.Mult (Value.ref _) (Value.int _ _)) _ _ _); refine' mul_lit ?zqF ?zqN ?zqhm ?zqhn ?zqh0 ?zqhx ?_; (case zqF => k_asm); (case zqN => k_asm); (case zqhm => k_extra "allgen_close_more"); (case zqhn => exact rfl); (case zqh0 => first | decide | k_extra "OM"); (case zqhx => first | decide | k_extra "OM"); intro zql' zqh' zqF' zqN' zql1; (try dsimp only [List.replicate] at zqN'); (try (k_extra "ALl1")); (try k_sweep)))
  trivial
section SGCall
theorem t_call_of (w : World) (mean : ExcName → Option Value) (mg mb : Str → Option Value) (own : Led) (vn v : Value) (la : Addr) (nl : Nat) (hl : (la, listOf [v].toArray nl) ∈ own) :
    Tell w mean mg mb 5 381 [vn, .ref la] own (fun r news' => ∃ x tl, r = .ref x ∧ news' = tl ++ own ∧ Fresh own tl ∧ KindRec w tl x (Str.ofString "language")) := by
  refine' TellC.tell ?_
  refine' tellC_of [Str.ofString "name", Str.ofString "args"] [vn, .ref la] [Str.ofString "items"] [Str.ofString "Symbol", Str.ofString "list", Str.ofString "Call", Str.ofString "len"] ?ho ?hcd ?hb rfl ?hl ?hg ?hc ?h1 ?h2 ?R
  case ho => k_dflt k_is
  case hcd => k_dflt k_is
  case hb => exact fun _ _ _ _ => BindsTo.of_eq rfl
  case hl => kernel_rfl!
  case hg => kernel_rfl!
  case hc => kernel_rfl!
  case h1 => rfl
  case h2 => rfl
  intro LT GT dp un gd outer A₀ base g L s B F X N T hd hu
  simp only [List.map, List.cons_append, List.nil_append, List.append_nil] at F LT
  obtain ⟨hp, ge, dr, tk, os⟩ := s
  k_extra "SK"
  · refine' RunEnd.intro ?zf1 ?zn1 ?zp1
    case zf1 => k_asm
    case zn1 => k_asm
    case zp1 => exact ⟨_, _, rfl, Ext.eq (by repeat (first | exact Ext.nil | apply Ext.cons | apply Ext.app)), by repeat (first | exact Fresh.nil | refine Fresh.cons (by first | assumption | exact ltN (by k_extra "OM") | exact ktn_ltOf (by assumption) | exact ktn_ltOf (And.right (by assumption)) | exact ktn_ltOf (And.right (And.right (by assumption))) | exact ktn_ltOf (And.right (And.right (And.right (by assumption)))) | exact ktn_ltOf (And.right (And.right (And.right (And.right (by assumption))))) | exact ktn_ltOf (And.right (And.right (And.right (And.right (And.right (by assumption)))))) | exact ktn_ltOf (And.right (And.right (And.right (And.right (And.right (And.right (by assumption))))))) | exact ktn_ltOf (And.right (And.right (And.right (And.right (And.right (And.right (And.right (by assumption)))))))) | exact ktn_ltOf (And.right (And.right (And.right (And.right (And.right (And.right (And.right (And.right (by assumption))))))))) | exact ktn_ltOf (And.right (And.right (And.right (And.right (And.right (And.right (And.right (And.right (And.right (by assumption)))))))))) | exact ktn_ltOf (And.right (And.right (And.right (And.right (And.right (And.right (And.right (And.right (And.right (And.right (by assumption))))))))))) | exact ktn_ltOf (And.right (And.right (And.right (And.right (And.right (And.right (And.right (And.right (And.right (And.right (And.right (by assumption)))))))))))) | exact ktn_ltOf (And.right (And.right (And.right (And.right (And.right (And.right (And.right (And.right (And.right (And.right (And.right (And.right (by assumption))))))))))))) | exact ktn_ltOf (And.right (And.right (And.right (And.right (And.right (And.right (And.right (And.right (And.right (And.right (And.right (And.right (And.right (by assumption)))))))))))))) | exact ktn_ltOf (And.right (And.right (And.right (And.right (And.right (And.right (And.right (And.right (And.right (And.right (And.right (And.right (And.right (And.right (by assumption))))))))))))))) | exact above_trans (by assumption) (by assumption) | exact above_trans (by assumption) (above_trans (by assumption) (by assumption)) | exact above_trans (by assumption) (ktn_ltOf (by assumption)) | exact above_trans (by assumption) (ktn_ltOf (And.right (by assumption))) | exact above_trans (by assumption) (ktn_ltOf (And.right (And.right (by assumption)))) | exact above_trans (by assumption) (ktn_ltOf (And.right (And.right (And.right (by assumption))))) | exact above_trans (by assumption) (ktn_ltOf (And.right (And.right (And.right (And.right (by assumption)))))) | exact above_trans (by assumption) (ktn_ltOf (And.right (And.right (And.right (And.right (And.right (by assumption))))))) | exact above_trans (by assumption) (ktn_ltOf (And.right (And.right (And.right (And.right (And.right (And.right (by assumption)))))))) | exact above_trans (by assumption) (ktn_ltOf (And.right (And.right (And.right (And.right (And.right (And.right (And.right (by assumption))))))))) | exact above_trans (by assumption) (ktn_ltOf (And.right (And.right (And.right (And.right (And.right (And.right (And.right (And.right (by assumption)))))))))) | exact above_trans (by assumption) (ktn_ltOf (And.right (And.right (And.right (And.right (And.right (And.right (And.right (And.right (And.right (by assumption))))))))))) | exact above_trans (by assumption) (ktn_ltOf (And.right (And.right (And.right (And.right (And.right (And.right (And.right (And.right (And.right (And.right (by assumption)))))))))))) | exact above_trans (by assumption) (ktn_ltOf (And.right (And.right (And.right (And.right (And.right (And.right (And.right (And.right (And.right (And.right (And.right (by assumption))))))))))))) | exact above_trans (by assumption) (ktn_ltOf (And.right (And.right (And.right (And.right (And.right (And.right (And.right (And.right (And.right (And.right (And.right (And.right (by assumption)))))))))))))) | exact above_trans (by assumption) (ktn_ltOf (And.right (And.right (And.right (And.right (And.right (And.right (And.right (And.right (And.right (And.right (And.right (And.right (And.right (by assumption))))))))))))))) | exact above_trans (by assumption) (ktn_ltOf (And.right (And.right (And.right (And.right (And.right (And.right (And.right (And.right (And.right (And.right (And.right (And.right (And.right (And.right (by assumption)))))))))))))))) | exact above_sub (by assumption) (by repeat' (first | (with_reducible exact subRefl) | (with_reducible exact subNil) | (with_reducible exact subLeft) | (with_reducible refine' subBoth ?_ ?_) | (refine' subCons (by k_mem) ?_) | (with_reducible refine' subTail ?_) | (with_reducible refine' subApp ?_))) | exact above_trans (by assumption) (above_sub (by assumption) (by repeat' (first | (with_reducible exact subRefl) | (with_reducible exact subNil) | (with_reducible exact subLeft) | (with_reducible refine' subBoth ?_ ?_) | (refine' subCons (by k_mem) ?_) | (with_reducible refine' subTail ?_) | (with_reducible refine' subApp ?_))))) ?_ | refine Fresh.app (Fresh.sub (by assumption) (by repeat (first | exact subRefl | apply subTail | apply subApp))) ?_), by (refine' KindRec.of ?c1 ?c2 ?c3 ?c4 ?c5; (case c4 => k_mem); (case c5 => k_mem); (case c1 => k_extra "tb_rel"); (case c2 => k_extra "tb_rel"); (case c3 => k_extra "tb_rel"))⟩
end SGCall

theorem reg_macros5 : True := by
  k_with "kpc_turns" => (first
  | ((with_reducible show wpAny _ _ (call (Value.ref 381) _) _ _ _); (with_reducible refine' Tell.use (t_call_of _ _ _ _ _ _ _ _ _ ?zqzhl) ?zqB ?zqF ?zqX ?zqN ?zqsub ?zqT ?zqhk ?zqhd ?zqhu ?_); (case zqB => k_asm); (case zqF => k_asm); (case zqX => k_asm); (case zqN => k_asm); (case zqsub => exact subRefl); (case zqT => k_asm); (case zqhk => rfl); (case zqhd => first | exact lim (by assumption) rfl | k_extra "OM"); (case zqhu => first | exact lim (by assumption) rfl | k_extra "OM"); (case zqzhl => k_extra "allgen_close_more"); intro zqr' zqnews' zqh' zqtk' zqF' zqN' zqpo0'; (refine ex2 zqpo0' ?_); clear zqpo0'; intro zqx' zqtl' zqpo0'; (refine sp4 zqpo0' ?_); clear zqpo0'; intro zqe1 zqe2 zqfr' zqkr'; subst zqe1; subst zqe2; (try k_sweep)))
  trivial
section SGArg

theorem t_law_default (w : World) (mean : ExcName → Option Value) (mg mb : Str → Option Value) (own : Led) (kind fig : Int) (tk tf : Tok) (h0 : 0 ≤ kind) (h1 : kind < 4) :
   Tell w mean mg mb 7 450 [.int kind tk, .int fig tf] own (fun r news' => ∃ x tl, r = .ref x ∧ news' = tl ++ own ∧ Fresh own tl ∧
     ((kind = 0 ∧ KindRec w tl x (Str.ofString "missing")) ∨ (kind ≠ 0 ∧ ∃ kd, kd ≠ Str.ofString "missing" ∧ KindRec w tl x kd))) := by
  refine' TellC.tell ?_
  refine' tellC_of [Str.ofString "kind", Str.ofString "figure"] [.int kind tk, .int fig tf] [] [Str.ofString "missing", Str.ofString "whole", Str.ofString "symbol"] ?ho ?hcd ?hb rfl ?hl ?hg ?hc ?h1 ?h2 ?R
  case ho => k_dflt k_is
  case hcd => k_dflt k_is
  case hb => exact fun _ _ _ _ => BindsTo.of_eq rfl
  case hl => kernel_rfl!
  case hg => kernel_rfl!
  case hc => kernel_rfl!
  case h1 => rfl
  case h2 => rfl
  intro LT GT dp un gd outer A₀ base g L s B F X N T hd hu
  simp only [List.map, List.cons_append, List.nil_append, List.append_nil] at F LT
  obtain ⟨hp, ge, dr, tk, os⟩ := s
  k_extra "SK"
  · refine' RunEnd.intro ?zf1 ?zn1 ?zp1
    case zf1 => k_asm
    case zn1 => k_asm
    case zp1 => exact ⟨_, _, rfl, Ext.eq (by repeat (first | exact Ext.nil | apply Ext.cons | apply Ext.app)), by repeat (first | exact Fresh.nil | refine Fresh.cons (by first | assumption | exact ltN (by k_extra "OM") | exact ktn_ltOf (by assumption) | exact ktn_ltOf (And.right (by assumption)) | exact ktn_ltOf (And.right (And.right (by assumption))) | exact ktn_ltOf (And.right (And.right (And.right (by assumption)))) | exact ktn_ltOf (And.right (And.right (And.right (And.right (by assumption))))) | exact ktn_ltOf (And.right (And.right (And.right (And.right (And.right (by assumption)))))) | exact ktn_ltOf (And.right (And.right (And.right (And.right (And.right (And.right (by assumption))))))) | exact ktn_ltOf (And.right (And.right (And.right (And.right (And.right (And.right (And.right (by assumption)))))))) | exact ktn_ltOf (And.right (And.right (And.right (And.right (And.right (And.right (And.right (And.right (by assumption))))))))) | exact ktn_ltOf (And.right (And.right (And.right (And.right (And.right (And.right (And.right (And.right (And.right (by assumption)))))))))) | exact ktn_ltOf (And.right (And.right (And.right (And.right (And.right (And.right (And.right (And.right (And.right (And.right (by assumption))))))))))) | exact ktn_ltOf (And.right (And.right (And.right (And.right (And.right (And.right (And.right (And.right (And.right (And.right (And.right (by assumption)))))))))))) | exact ktn_ltOf (And.right (And.right (And.right (And.right (And.right (And.right (And.right (And.right (And.right (And.right (And.right (And.right (by assumption))))))))))))) | exact ktn_ltOf (And.right (And.right (And.right (And.right (And.right (And.right (And.right (And.right (And.right (And.right (And.right (And.right (And.right (by assumption)))))))))))))) | exact ktn_ltOf (And.right (And.right (And.right (And.right (And.right (And.right (And.right (And.right (And.right (And.right (And.right (And.right (And.right (And.right (by assumption))))))))))))))) | exact above_trans (by assumption) (by assumption) | exact above_trans (by assumption) (above_trans (by assumption) (by assumption)) | exact above_trans (by assumption) (ktn_ltOf (by assumption)) | exact above_trans (by assumption) (ktn_ltOf (And.right (by assumption))) | exact above_trans (by assumption) (ktn_ltOf (And.right (And.right (by assumption)))) | exact above_trans (by assumption) (ktn_ltOf (And.right (And.right (And.right (by assumption))))) | exact above_trans (by assumption) (ktn_ltOf (And.right (And.right (And.right (And.right (by assumption)))))) | exact above_trans (by assumption) (ktn_ltOf (And.right (And.right (And.right (And.right (And.right (by assumption))))))) | exact above_trans (by assumption) (ktn_ltOf (And.right (And.right (And.right (And.right (And.right (And.right (by assumption)))))))) | exact above_trans (by assumption) (ktn_ltOf (And.right (And.right (And.right (And.right (And.right (And.right (And.right (by assumption))))))))) | exact above_trans (by assumption) (ktn_ltOf (And.right (And.right (And.right (And.right (And.right (And.right (And.right (And.right (by assumption)))))))))) | exact above_trans (by assumption) (ktn_ltOf (And.right (And.right (And.right (And.right (And.right (And.right (And.right (And.right (And.right (by assumption))))))))))) | exact above_trans (by assumption) (ktn_ltOf (And.right (And.right (And.right (And.right (And.right (And.right (And.right (And.right (And.right (And.right (by assumption)))))))))))) | exact above_trans (by assumption) (ktn_ltOf (And.right (And.right (And.right (And.right (And.right (And.right (And.right (And.right (And.right (And.right (And.right (by assumption))))))))))))) | exact above_trans (by assumption) (ktn_ltOf (And.right (And.right (And.right (And.right (And.right (And.right (And.right (And.right (And.right (And.right (And.right (And.right (by assumption)))))))))))))) | exact above_trans (by assumption) (ktn_ltOf (And.right (And.right (And.right (And.right (And.right (And.right (And.right (And.right (And.right (And.right (And.right (And.right (And.right (by assumption))))))))))))))) | exact above_trans (by assumption) (ktn_ltOf (And.right (And.right (And.right (And.right (And.right (And.right (And.right (And.right (And.right (And.right (And.right (And.right (And.right (And.right (by assumption)))))))))))))))) | exact above_sub (by assumption) (by repeat' (first | (with_reducible exact subRefl) | (with_reducible exact subNil) | (with_reducible exact subLeft) | (with_reducible refine' subBoth ?_ ?_) | (refine' subCons (by k_mem) ?_) | (with_reducible refine' subTail ?_) | (with_reducible refine' subApp ?_))) | exact above_trans (by assumption) (above_sub (by assumption) (by repeat' (first | (with_reducible exact subRefl) | (with_reducible exact subNil) | (with_reducible exact subLeft) | (with_reducible refine' subBoth ?_ ?_) | (refine' subCons (by k_mem) ?_) | (with_reducible refine' subTail ?_) | (with_reducible refine' subApp ?_))))) ?_ | refine Fresh.app (Fresh.sub (by assumption) (by repeat (first | exact subRefl | apply subTail | apply subApp))) ?_), .inl ⟨by assumption, by (refine' KindRec.of ?c1 ?c2 ?c3 ?c4 ?c5; (case c4 => k_mem); (case c5 => k_mem); (case c1 => k_extra "tb_rel"); (case c2 => k_extra "tb_rel"); (case c3 => k_extra "tb_rel"))⟩⟩
  · refine' RunEnd.intro ?zf2 ?zn2 ?zp2
    case zf2 => k_asm
    case zn2 => k_asm
    case zp2 => exact ⟨_, _, rfl, Ext.eq (by repeat (first | exact Ext.nil | apply Ext.cons | apply Ext.app)), by repeat (first | exact Fresh.nil | refine Fresh.cons (by first | assumption | exact ltN (by k_extra "OM") | exact ktn_ltOf (by assumption) | exact ktn_ltOf (And.right (by assumption)) | exact ktn_ltOf (And.right (And.right (by assumption))) | exact ktn_ltOf (And.right (And.right (And.right (by assumption)))) | exact ktn_ltOf (And.right (And.right (And.right (And.right (by assumption))))) | exact ktn_ltOf (And.right (And.right (And.right (And.right (And.right (by assumption)))))) | exact ktn_ltOf (And.right (And.right (And.right (And.right (And.right (And.right (by assumption))))))) | exact ktn_ltOf (And.right (And.right (And.right (And.right (And.right (And.right (And.right (by assumption)))))))) | exact ktn_ltOf (And.right (And.right (And.right (And.right (And.right (And.right (And.right (And.right (by assumption))))))))) | exact ktn_ltOf (And.right (And.right (And.right (And.right (And.right (And.right (And.right (And.right (And.right (by assumption)))))))))) | exact ktn_ltOf (And.right (And.right (And.right (And.right (And.right (And.right (And.right (And.right (And.right (And.right (by assumption))))))))))) | exact ktn_ltOf (And.right (And.right (And.right (And.right (And.right (And.right (And.right (And.right (And.right (And.right (And.right (by assumption)))))))))))) | exact ktn_ltOf (And.right (And.right (And.right (And.right (And.right (And.right (And.right (And.right (And.right (And.right (And.right (And.right (by assumption))))))))))))) | exact ktn_ltOf (And.right (And.right (And.right (And.right (And.right (And.right (And.right (And.right (And.right (And.right (And.right (And.right (And.right (by assumption)))))))))))))) | exact ktn_ltOf (And.right (And.right (And.right (And.right (And.right (And.right (And.right (And.right (And.right (And.right (And.right (And.right (And.right (And.right (by assumption))))))))))))))) | exact above_trans (by assumption) (by assumption) | exact above_trans (by assumption) (above_trans (by assumption) (by assumption)) | exact above_trans (by assumption) (ktn_ltOf (by assumption)) | exact above_trans (by assumption) (ktn_ltOf (And.right (by assumption))) | exact above_trans (by assumption) (ktn_ltOf (And.right (And.right (by assumption)))) | exact above_trans (by assumption) (ktn_ltOf (And.right (And.right (And.right (by assumption))))) | exact above_trans (by assumption) (ktn_ltOf (And.right (And.right (And.right (And.right (by assumption)))))) | exact above_trans (by assumption) (ktn_ltOf (And.right (And.right (And.right (And.right (And.right (by assumption))))))) | exact above_trans (by assumption) (ktn_ltOf (And.right (And.right (And.right (And.right (And.right (And.right (by assumption)))))))) | exact above_trans (by assumption) (ktn_ltOf (And.right (And.right (And.right (And.right (And.right (And.right (And.right (by assumption))))))))) | exact above_trans (by assumption) (ktn_ltOf (And.right (And.right (And.right (And.right (And.right (And.right (And.right (And.right (by assumption)))))))))) | exact above_trans (by assumption) (ktn_ltOf (And.right (And.right (And.right (And.right (And.right (And.right (And.right (And.right (And.right (by assumption))))))))))) | exact above_trans (by assumption) (ktn_ltOf (And.right (And.right (And.right (And.right (And.right (And.right (And.right (And.right (And.right (And.right (by assumption)))))))))))) | exact above_trans (by assumption) (ktn_ltOf (And.right (And.right (And.right (And.right (And.right (And.right (And.right (And.right (And.right (And.right (And.right (by assumption))))))))))))) | exact above_trans (by assumption) (ktn_ltOf (And.right (And.right (And.right (And.right (And.right (And.right (And.right (And.right (And.right (And.right (And.right (And.right (by assumption)))))))))))))) | exact above_trans (by assumption) (ktn_ltOf (And.right (And.right (And.right (And.right (And.right (And.right (And.right (And.right (And.right (And.right (And.right (And.right (And.right (by assumption))))))))))))))) | exact above_trans (by assumption) (ktn_ltOf (And.right (And.right (And.right (And.right (And.right (And.right (And.right (And.right (And.right (And.right (And.right (And.right (And.right (And.right (by assumption)))))))))))))))) | exact above_sub (by assumption) (by repeat' (first | (with_reducible exact subRefl) | (with_reducible exact subNil) | (with_reducible exact subLeft) | (with_reducible refine' subBoth ?_ ?_) | (refine' subCons (by k_mem) ?_) | (with_reducible refine' subTail ?_) | (with_reducible refine' subApp ?_))) | exact above_trans (by assumption) (above_sub (by assumption) (by repeat' (first | (with_reducible exact subRefl) | (with_reducible exact subNil) | (with_reducible exact subLeft) | (with_reducible refine' subBoth ?_ ?_) | (refine' subCons (by k_mem) ?_) | (with_reducible refine' subTail ?_) | (with_reducible refine' subApp ?_))))) ?_ | refine Fresh.app (Fresh.sub (by assumption) (by repeat (first | exact subRefl | apply subTail | apply subApp))) ?_), .inr ⟨by assumption, Str.ofString "integer", by decide, by (refine' KindRec.of ?c1 ?c2 ?c3 ?c4 ?c5; (case c4 => k_mem); (case c5 => k_mem); (case c1 => k_extra "tb_rel"); (case c2 => k_extra "tb_rel"); (case c3 => k_extra "tb_rel"))⟩⟩
  · refine' RunEnd.intro ?zf3 ?zn3 ?zp3
    case zf3 => k_asm
    case zn3 => k_asm
    case zp3 => exact ⟨_, _, rfl, Ext.eq (by repeat (first | exact Ext.nil | apply Ext.cons | apply Ext.app)), by repeat (first | exact Fresh.nil | refine Fresh.cons (by first | assumption | exact ltN (by k_extra "OM") | exact ktn_ltOf (by assumption) | exact ktn_ltOf (And.right (by assumption)) | exact ktn_ltOf (And.right (And.right (by assumption))) | exact ktn_ltOf (And.right (And.right (And.right (by assumption)))) | exact ktn_ltOf (And.right (And.right (And.right (And.right (by assumption))))) | exact ktn_ltOf (And.right (And.right (And.right (And.right (And.right (by assumption)))))) | exact ktn_ltOf (And.right (And.right (And.right (And.right (And.right (And.right (by assumption))))))) | exact ktn_ltOf (And.right (And.right (And.right (And.right (And.right (And.right (And.right (by assumption)))))))) | exact ktn_ltOf (And.right (And.right (And.right (And.right (And.right (And.right (And.right (And.right (by assumption))))))))) | exact ktn_ltOf (And.right (And.right (And.right (And.right (And.right (And.right (And.right (And.right (And.right (by assumption)))))))))) | exact ktn_ltOf (And.right (And.right (And.right (And.right (And.right (And.right (And.right (And.right (And.right (And.right (by assumption))))))))))) | exact ktn_ltOf (And.right (And.right (And.right (And.right (And.right (And.right (And.right (And.right (And.right (And.right (And.right (by assumption)))))))))))) | exact ktn_ltOf (And.right (And.right (And.right (And.right (And.right (And.right (And.right (And.right (And.right (And.right (And.right (And.right (by assumption))))))))))))) | exact ktn_ltOf (And.right (And.right (And.right (And.right (And.right (And.right (And.right (And.right (And.right (And.right (And.right (And.right (And.right (by assumption)))))))))))))) | exact ktn_ltOf (And.right (And.right (And.right (And.right (And.right (And.right (And.right (And.right (And.right (And.right (And.right (And.right (And.right (And.right (by assumption))))))))))))))) | exact above_trans (by assumption) (by assumption) | exact above_trans (by assumption) (above_trans (by assumption) (by assumption)) | exact above_trans (by assumption) (ktn_ltOf (by assumption)) | exact above_trans (by assumption) (ktn_ltOf (And.right (by assumption))) | exact above_trans (by assumption) (ktn_ltOf (And.right (And.right (by assumption)))) | exact above_trans (by assumption) (ktn_ltOf (And.right (And.right (And.right (by assumption))))) | exact above_trans (by assumption) (ktn_ltOf (And.right (And.right (And.right (And.right (by assumption)))))) | exact above_trans (by assumption) (ktn_ltOf (And.right (And.right (And.right (And.right (And.right (by assumption))))))) | exact above_trans (by assumption) (ktn_ltOf (And.right (And.right (And.right (And.right (And.right (And.right (by assumption)))))))) | exact above_trans (by assumption) (ktn_ltOf (And.right (And.right (And.right (And.right (And.right (And.right (And.right (by assumption))))))))) | exact above_trans (by assumption) (ktn_ltOf (And.right (And.right (And.right (And.right (And.right (And.right (And.right (And.right (by assumption)))))))))) | exact above_trans (by assumption) (ktn_ltOf (And.right (And.right (And.right (And.right (And.right (And.right (And.right (And.right (And.right (by assumption))))))))))) | exact above_trans (by assumption) (ktn_ltOf (And.right (And.right (And.right (And.right (And.right (And.right (And.right (And.right (And.right (And.right (by assumption)))))))))))) | exact above_trans (by assumption) (ktn_ltOf (And.right (And.right (And.right (And.right (And.right (And.right (And.right (And.right (And.right (And.right (And.right (by assumption))))))))))))) | exact above_trans (by assumption) (ktn_ltOf (And.right (And.right (And.right (And.right (And.right (And.right (And.right (And.right (And.right (And.right (And.right (And.right (by assumption)))))))))))))) | exact above_trans (by assumption) (ktn_ltOf (And.right (And.right (And.right (And.right (And.right (And.right (And.right (And.right (And.right (And.right (And.right (And.right (And.right (by assumption))))))))))))))) | exact above_trans (by assumption) (ktn_ltOf (And.right (And.right (And.right (And.right (And.right (And.right (And.right (And.right (And.right (And.right (And.right (And.right (And.right (And.right (by assumption)))))))))))))))) | exact above_sub (by assumption) (by repeat' (first | (with_reducible exact subRefl) | (with_reducible exact subNil) | (with_reducible exact subLeft) | (with_reducible refine' subBoth ?_ ?_) | (refine' subCons (by k_mem) ?_) | (with_reducible refine' subTail ?_) | (with_reducible refine' subApp ?_))) | exact above_trans (by assumption) (above_sub (by assumption) (by repeat' (first | (with_reducible exact subRefl) | (with_reducible exact subNil) | (with_reducible exact subLeft) | (with_reducible refine' subBoth ?_ ?_) | (refine' subCons (by k_mem) ?_) | (with_reducible refine' subTail ?_) | (with_reducible refine' subApp ?_))))) ?_ | refine Fresh.app (Fresh.sub (by assumption) (by repeat (first | exact subRefl | apply subTail | apply subApp))) ?_), .inr ⟨by assumption, Str.ofString "symbol", by decide, by (refine' KindRec.of ?c1 ?c2 ?c3 ?c4 ?c5; (case c4 => k_mem); (case c5 => k_mem); (case c1 => k_extra "tb_rel"); (case c2 => k_extra "tb_rel"); (case c3 => k_extra "tb_rel"))⟩⟩

theorem t_law_argument_n (w : World) (mean : ExcName → Option Value) (mg mb : Str → Option Value) (own : Led) (kind fig : Int) (tk tf : Tok) (h0 : 1 ≤ kind) (h1 : kind ≤ 2) :
   Tell w mean mg mb 8 457 [.int kind tk, .int fig tf, .none] own (fun r news' => ∃ x tl, r = .ref x ∧ news' = tl ++ own ∧ Fresh own tl ∧ ArgOk w tl x kind fig .none) := by
  refine' TellC.tell ?_
  refine' tellC_of [Str.ofString "kind", Str.ofString "figure", Str.ofString "before"] [.int kind tk, .int fig tf, .none] [] [Str.ofString "missing", Str.ofString "whole", Str.ofString "Promise", Str.ofString "call_of", Str.ofString "symbol"] ?ho ?hcd ?hb rfl ?hl ?hg ?hc ?h1 ?h2 ?R
  case ho => k_dflt k_is
  case hcd => k_dflt k_is
  case hb => exact fun _ _ _ _ => BindsTo.of_eq rfl
  case hl => kernel_rfl!
  case hg => kernel_rfl!
  case hc => kernel_rfl!
  case h1 => rfl
  case h2 => rfl
  intro LT GT dp un gd outer A₀ base g L s B F X N T hd hu
  simp only [List.map, List.cons_append, List.nil_append, List.append_nil] at F LT
  obtain ⟨hp, ge, dr, tk, os⟩ := s
  k_extra "SK"
  · refine' RunEnd.intro ?zf4 ?zn4 ?zp4
    case zf4 => k_asm
    case zn4 => k_asm
    case zp4 => exact ⟨_, _, rfl, Ext.eq (by repeat (first | exact Ext.nil | apply Ext.cons | apply Ext.app)), by repeat (first | exact Fresh.nil | refine Fresh.cons (by first | assumption | exact ltN (by k_extra "OM") | exact ktn_ltOf (by assumption) | exact ktn_ltOf (And.right (by assumption)) | exact ktn_ltOf (And.right (And.right (by assumption))) | exact ktn_ltOf (And.right (And.right (And.right (by assumption)))) | exact ktn_ltOf (And.right (And.right (And.right (And.right (by assumption))))) | exact ktn_ltOf (And.right (And.right (And.right (And.right (And.right (by assumption)))))) | exact ktn_ltOf (And.right (And.right (And.right (And.right (And.right (And.right (by assumption))))))) | exact ktn_ltOf (And.right (And.right (And.right (And.right (And.right (And.right (And.right (by assumption)))))))) | exact ktn_ltOf (And.right (And.right (And.right (And.right (And.right (And.right (And.right (And.right (by assumption))))))))) | exact ktn_ltOf (And.right (And.right (And.right (And.right (And.right (And.right (And.right (And.right (And.right (by assumption)))))))))) | exact ktn_ltOf (And.right (And.right (And.right (And.right (And.right (And.right (And.right (And.right (And.right (And.right (by assumption))))))))))) | exact ktn_ltOf (And.right (And.right (And.right (And.right (And.right (And.right (And.right (And.right (And.right (And.right (And.right (by assumption)))))))))))) | exact ktn_ltOf (And.right (And.right (And.right (And.right (And.right (And.right (And.right (And.right (And.right (And.right (And.right (And.right (by assumption))))))))))))) | exact ktn_ltOf (And.right (And.right (And.right (And.right (And.right (And.right (And.right (And.right (And.right (And.right (And.right (And.right (And.right (by assumption)))))))))))))) | exact ktn_ltOf (And.right (And.right (And.right (And.right (And.right (And.right (And.right (And.right (And.right (And.right (And.right (And.right (And.right (And.right (by assumption))))))))))))))) | exact above_trans (by assumption) (by assumption) | exact above_trans (by assumption) (above_trans (by assumption) (by assumption)) | exact above_trans (by assumption) (ktn_ltOf (by assumption)) | exact above_trans (by assumption) (ktn_ltOf (And.right (by assumption))) | exact above_trans (by assumption) (ktn_ltOf (And.right (And.right (by assumption)))) | exact above_trans (by assumption) (ktn_ltOf (And.right (And.right (And.right (by assumption))))) | exact above_trans (by assumption) (ktn_ltOf (And.right (And.right (And.right (And.right (by assumption)))))) | exact above_trans (by assumption) (ktn_ltOf (And.right (And.right (And.right (And.right (And.right (by assumption))))))) | exact above_trans (by assumption) (ktn_ltOf (And.right (And.right (And.right (And.right (And.right (And.right (by assumption)))))))) | exact above_trans (by assumption) (ktn_ltOf (And.right (And.right (And.right (And.right (And.right (And.right (And.right (by assumption))))))))) | exact above_trans (by assumption) (ktn_ltOf (And.right (And.right (And.right (And.right (And.right (And.right (And.right (And.right (by assumption)))))))))) | exact above_trans (by assumption) (ktn_ltOf (And.right (And.right (And.right (And.right (And.right (And.right (And.right (And.right (And.right (by assumption))))))))))) | exact above_trans (by assumption) (ktn_ltOf (And.right (And.right (And.right (And.right (And.right (And.right (And.right (And.right (And.right (And.right (by assumption)))))))))))) | exact above_trans (by assumption) (ktn_ltOf (And.right (And.right (And.right (And.right (And.right (And.right (And.right (And.right (And.right (And.right (And.right (by assumption))))))))))))) | exact above_trans (by assumption) (ktn_ltOf (And.right (And.right (And.right (And.right (And.right (And.right (And.right (And.right (And.right (And.right (And.right (And.right (by assumption)))))))))))))) | exact above_trans (by assumption) (ktn_ltOf (And.right (And.right (And.right (And.right (And.right (And.right (And.right (And.right (And.right (And.right (And.right (And.right (And.right (by assumption))))))))))))))) | exact above_trans (by assumption) (ktn_ltOf (And.right (And.right (And.right (And.right (And.right (And.right (And.right (And.right (And.right (And.right (And.right (And.right (And.right (And.right (by assumption)))))))))))))))) | exact above_sub (by assumption) (by repeat' (first | (with_reducible exact subRefl) | (with_reducible exact subNil) | (with_reducible exact subLeft) | (with_reducible refine' subBoth ?_ ?_) | (refine' subCons (by k_mem) ?_) | (with_reducible refine' subTail ?_) | (with_reducible refine' subApp ?_))) | exact above_trans (by assumption) (above_sub (by assumption) (by repeat' (first | (with_reducible exact subRefl) | (with_reducible exact subNil) | (with_reducible exact subLeft) | (with_reducible refine' subBoth ?_ ?_) | (refine' subCons (by k_mem) ?_) | (with_reducible refine' subTail ?_) | (with_reducible refine' subApp ?_))))) ?_ | refine Fresh.app (Fresh.sub (by assumption) (by repeat (first | exact subRefl | apply subTail | apply subApp))) ?_), .inl ⟨by assumption, ⟨_, _, _, _, _, by k_mem, by k_mem⟩⟩⟩
  · refine' RunEnd.intro ?zf5 ?zn5 ?zp5
    case zf5 => k_asm
    case zn5 => k_asm
    case zp5 => exact ⟨_, _, rfl, Ext.eq (by repeat (first | exact Ext.nil | apply Ext.cons | apply Ext.app)), by repeat (first | exact Fresh.nil | refine Fresh.cons (by first | assumption | exact ltN (by k_extra "OM") | exact ktn_ltOf (by assumption) | exact ktn_ltOf (And.right (by assumption)) | exact ktn_ltOf (And.right (And.right (by assumption))) | exact ktn_ltOf (And.right (And.right (And.right (by assumption)))) | exact ktn_ltOf (And.right (And.right (And.right (And.right (by assumption))))) | exact ktn_ltOf (And.right (And.right (And.right (And.right (And.right (by assumption)))))) | exact ktn_ltOf (And.right (And.right (And.right (And.right (And.right (And.right (by assumption))))))) | exact ktn_ltOf (And.right (And.right (And.right (And.right (And.right (And.right (And.right (by assumption)))))))) | exact ktn_ltOf (And.right (And.right (And.right (And.right (And.right (And.right (And.right (And.right (by assumption))))))))) | exact ktn_ltOf (And.right (And.right (And.right (And.right (And.right (And.right (And.right (And.right (And.right (by assumption)))))))))) | exact ktn_ltOf (And.right (And.right (And.right (And.right (And.right (And.right (And.right (And.right (And.right (And.right (by assumption))))))))))) | exact ktn_ltOf (And.right (And.right (And.right (And.right (And.right (And.right (And.right (And.right (And.right (And.right (And.right (by assumption)))))))))))) | exact ktn_ltOf (And.right (And.right (And.right (And.right (And.right (And.right (And.right (And.right (And.right (And.right (And.right (And.right (by assumption))))))))))))) | exact ktn_ltOf (And.right (And.right (And.right (And.right (And.right (And.right (And.right (And.right (And.right (And.right (And.right (And.right (And.right (by assumption)))))))))))))) | exact ktn_ltOf (And.right (And.right (And.right (And.right (And.right (And.right (And.right (And.right (And.right (And.right (And.right (And.right (And.right (And.right (by assumption))))))))))))))) | exact above_trans (by assumption) (by assumption) | exact above_trans (by assumption) (above_trans (by assumption) (by assumption)) | exact above_trans (by assumption) (ktn_ltOf (by assumption)) | exact above_trans (by assumption) (ktn_ltOf (And.right (by assumption))) | exact above_trans (by assumption) (ktn_ltOf (And.right (And.right (by assumption)))) | exact above_trans (by assumption) (ktn_ltOf (And.right (And.right (And.right (by assumption))))) | exact above_trans (by assumption) (ktn_ltOf (And.right (And.right (And.right (And.right (by assumption)))))) | exact above_trans (by assumption) (ktn_ltOf (And.right (And.right (And.right (And.right (And.right (by assumption))))))) | exact above_trans (by assumption) (ktn_ltOf (And.right (And.right (And.right (And.right (And.right (And.right (by assumption)))))))) | exact above_trans (by assumption) (ktn_ltOf (And.right (And.right (And.right (And.right (And.right (And.right (And.right (by assumption))))))))) | exact above_trans (by assumption) (ktn_ltOf (And.right (And.right (And.right (And.right (And.right (And.right (And.right (And.right (by assumption)))))))))) | exact above_trans (by assumption) (ktn_ltOf (And.right (And.right (And.right (And.right (And.right (And.right (And.right (And.right (And.right (by assumption))))))))))) | exact above_trans (by assumption) (ktn_ltOf (And.right (And.right (And.right (And.right (And.right (And.right (And.right (And.right (And.right (And.right (by assumption)))))))))))) | exact above_trans (by assumption) (ktn_ltOf (And.right (And.right (And.right (And.right (And.right (And.right (And.right (And.right (And.right (And.right (And.right (by assumption))))))))))))) | exact above_trans (by assumption) (ktn_ltOf (And.right (And.right (And.right (And.right (And.right (And.right (And.right (And.right (And.right (And.right (And.right (And.right (by assumption)))))))))))))) | exact above_trans (by assumption) (ktn_ltOf (And.right (And.right (And.right (And.right (And.right (And.right (And.right (And.right (And.right (And.right (And.right (And.right (And.right (by assumption))))))))))))))) | exact above_trans (by assumption) (ktn_ltOf (And.right (And.right (And.right (And.right (And.right (And.right (And.right (And.right (And.right (And.right (And.right (And.right (And.right (And.right (by assumption)))))))))))))))) | exact above_sub (by assumption) (by repeat' (first | (with_reducible exact subRefl) | (with_reducible exact subNil) | (with_reducible exact subLeft) | (with_reducible refine' subBoth ?_ ?_) | (refine' subCons (by k_mem) ?_) | (with_reducible refine' subTail ?_) | (with_reducible refine' subApp ?_))) | exact above_trans (by assumption) (above_sub (by assumption) (by repeat' (first | (with_reducible exact subRefl) | (with_reducible exact subNil) | (with_reducible exact subLeft) | (with_reducible refine' subBoth ?_ ?_) | (refine' subCons (by k_mem) ?_) | (with_reducible refine' subTail ?_) | (with_reducible refine' subApp ?_))))) ?_ | refine Fresh.app (Fresh.sub (by assumption) (by repeat (first | exact subRefl | apply subTail | apply subApp))) ?_), .inr (.inl ⟨by assumption, ⟨_, _, _, _, _, _, _, _, _, _, ⟨_, _, by k_mem, by k_mem⟩, by k_mem⟩⟩)⟩
  · exfalso; omega
theorem t_law_argument_r (w : World) (mean : ExcName → Option Value) (mg mb : Str → Option Value) (own : Led) (kind fig : Int) (tk tf : Tok) (b : Addr) (h0 : 1 ≤ kind) (h1 : kind < 6) :
   Tell w mean mg mb 8 457 [.int kind tk, .int fig tf, .ref b] own (fun r news' => ∃ x tl, r = .ref x ∧ news' = tl ++ own ∧ Fresh own tl ∧ ArgOk w tl x kind fig (.ref b)) := by
  refine' TellC.tell ?_
  refine' tellC_of [Str.ofString "kind", Str.ofString "figure", Str.ofString "before"] [.int kind tk, .int fig tf, .ref b] [] [Str.ofString "missing", Str.ofString "whole", Str.ofString "Promise", Str.ofString "call_of", Str.ofString "symbol"] ?ho ?hcd ?hb rfl ?hl ?hg ?hc ?h1 ?h2 ?R
  case ho => k_dflt k_is
  case hcd => k_dflt k_is
  case hb => exact fun _ _ _ _ => BindsTo.of_eq rfl
  case hl => kernel_rfl!
  case hg => kernel_rfl!
  case hc => kernel_rfl!
  case h1 => rfl
  case h2 => rfl
  intro LT GT dp un gd outer A₀ base g L s B F X N T hd hu
  simp only [List.map, List.cons_append, List.nil_append, List.append_nil] at F LT
  obtain ⟨hp, ge, dr, tk, os⟩ := s
  k_extra "SK"
  · refine' RunEnd.intro ?zf6 ?zn6 ?zp6
    case zf6 => k_asm
    case zn6 => k_asm
    case zp6 => exact ⟨_, _, rfl, Ext.eq (by repeat (first | exact Ext.nil | apply Ext.cons | apply Ext.app)), by repeat (first | exact Fresh.nil | refine Fresh.cons (by first | assumption | exact ltN (by k_extra "OM") | exact ktn_ltOf (by assumption) | exact ktn_ltOf (And.right (by assumption)) | exact ktn_ltOf (And.right (And.right (by assumption))) | exact ktn_ltOf (And.right (And.right (And.right (by assumption)))) | exact ktn_ltOf (And.right (And.right (And.right (And.right (by assumption))))) | exact ktn_ltOf (And.right (And.right (And.right (And.right (And.right (by assumption)))))) | exact ktn_ltOf (And.right (And.right (And.right (And.right (And.right (And.right (by assumption))))))) | exact ktn_ltOf (And.right (And.right (And.right (And.right (And.right (And.right (And.right (by assumption)))))))) | exact ktn_ltOf (And.right (And.right (And.right (And.right (And.right (And.right (And.right (And.right (by assumption))))))))) | exact ktn_ltOf (And.right (And.right (And.right (And.right (And.right (And.right (And.right (And.right (And.right (by assumption)))))))))) | exact ktn_ltOf (And.right (And.right (And.right (And.right (And.right (And.right (And.right (And.right (And.right (And.right (by assumption))))))))))) | exact ktn_ltOf (And.right (And.right (And.right (And.right (And.right (And.right (And.right (And.right (And.right (And.right (And.right (by assumption)))))))))))) | exact ktn_ltOf (And.right (And.right (And.right (And.right (And.right (And.right (And.right (And.right (And.right (And.right (And.right (And.right (by assumption))))))))))))) | exact ktn_ltOf (And.right (And.right (And.right (And.right (And.right (And.right (And.right (And.right (And.right (And.right (And.right (And.right (And.right (by assumption)))))))))))))) | exact ktn_ltOf (And.right (And.right (And.right (And.right (And.right (And.right (And.right (And.right (And.right (And.right (And.right (And.right (And.right (And.right (by assumption))))))))))))))) | exact above_trans (by assumption) (by assumption) | exact above_trans (by assumption) (above_trans (by assumption) (by assumption)) | exact above_trans (by assumption) (ktn_ltOf (by assumption)) | exact above_trans (by assumption) (ktn_ltOf (And.right (by assumption))) | exact above_trans (by assumption) (ktn_ltOf (And.right (And.right (by assumption)))) | exact above_trans (by assumption) (ktn_ltOf (And.right (And.right (And.right (by assumption))))) | exact above_trans (by assumption) (ktn_ltOf (And.right (And.right (And.right (And.right (by assumption)))))) | exact above_trans (by assumption) (ktn_ltOf (And.right (And.right (And.right (And.right (And.right (by assumption))))))) | exact above_trans (by assumption) (ktn_ltOf (And.right (And.right (And.right (And.right (And.right (And.right (by assumption)))))))) | exact above_trans (by assumption) (ktn_ltOf (And.right (And.right (And.right (And.right (And.right (And.right (And.right (by assumption))))))))) | exact above_trans (by assumption) (ktn_ltOf (And.right (And.right (And.right (And.right (And.right (And.right (And.right (And.right (by assumption)))))))))) | exact above_trans (by assumption) (ktn_ltOf (And.right (And.right (And.right (And.right (And.right (And.right (And.right (And.right (And.right (by assumption))))))))))) | exact above_trans (by assumption) (ktn_ltOf (And.right (And.right (And.right (And.right (And.right (And.right (And.right (And.right (And.right (And.right (by assumption)))))))))))) | exact above_trans (by assumption) (ktn_ltOf (And.right (And.right (And.right (And.right (And.right (And.right (And.right (And.right (And.right (And.right (And.right (by assumption))))))))))))) | exact above_trans (by assumption) (ktn_ltOf (And.right (And.right (And.right (And.right (And.right (And.right (And.right (And.right (And.right (And.right (And.right (And.right (by assumption)))))))))))))) | exact above_trans (by assumption) (ktn_ltOf (And.right (And.right (And.right (And.right (And.right (And.right (And.right (And.right (And.right (And.right (And.right (And.right (And.right (by assumption))))))))))))))) | exact above_trans (by assumption) (ktn_ltOf (And.right (And.right (And.right (And.right (And.right (And.right (And.right (And.right (And.right (And.right (And.right (And.right (And.right (And.right (by assumption)))))))))))))))) | exact above_sub (by assumption) (by repeat' (first | (with_reducible exact subRefl) | (with_reducible exact subNil) | (with_reducible exact subLeft) | (with_reducible refine' subBoth ?_ ?_) | (refine' subCons (by k_mem) ?_) | (with_reducible refine' subTail ?_) | (with_reducible refine' subApp ?_))) | exact above_trans (by assumption) (above_sub (by assumption) (by repeat' (first | (with_reducible exact subRefl) | (with_reducible exact subNil) | (with_reducible exact subLeft) | (with_reducible refine' subBoth ?_ ?_) | (refine' subCons (by k_mem) ?_) | (with_reducible refine' subTail ?_) | (with_reducible refine' subApp ?_))))) ?_ | refine Fresh.app (Fresh.sub (by assumption) (by repeat (first | exact subRefl | apply subTail | apply subApp))) ?_), .inl ⟨by assumption, ⟨_, _, _, _, _, by k_mem, by k_mem⟩⟩⟩
  · refine' RunEnd.intro ?zf7 ?zn7 ?zp7
    case zf7 => k_asm
    case zn7 => k_asm
    case zp7 => exact ⟨_, _, rfl, Ext.eq (by repeat (first | exact Ext.nil | apply Ext.cons | apply Ext.app)), by repeat (first | exact Fresh.nil | refine Fresh.cons (by first | assumption | exact ltN (by k_extra "OM") | exact ktn_ltOf (by assumption) | exact ktn_ltOf (And.right (by assumption)) | exact ktn_ltOf (And.right (And.right (by assumption))) | exact ktn_ltOf (And.right (And.right (And.right (by assumption)))) | exact ktn_ltOf (And.right (And.right (And.right (And.right (by assumption))))) | exact ktn_ltOf (And.right (And.right (And.right (And.right (And.right (by assumption)))))) | exact ktn_ltOf (And.right (And.right (And.right (And.right (And.right (And.right (by assumption))))))) | exact ktn_ltOf (And.right (And.right (And.right (And.right (And.right (And.right (And.right (by assumption)))))))) | exact ktn_ltOf (And.right (And.right (And.right (And.right (And.right (And.right (And.right (And.right (by assumption))))))))) | exact ktn_ltOf (And.right (And.right (And.right (And.right (And.right (And.right (And.right (And.right (And.right (by assumption)))))))))) | exact ktn_ltOf (And.right (And.right (And.right (And.right (And.right (And.right (And.right (And.right (And.right (And.right (by assumption))))))))))) | exact ktn_ltOf (And.right (And.right (And.right (And.right (And.right (And.right (And.right (And.right (And.right (And.right (And.right (by assumption)))))))))))) | exact ktn_ltOf (And.right (And.right (And.right (And.right (And.right (And.right (And.right (And.right (And.right (And.right (And.right (And.right (by assumption))))))))))))) | exact ktn_ltOf (And.right (And.right (And.right (And.right (And.right (And.right (And.right (And.right (And.right (And.right (And.right (And.right (And.right (by assumption)))))))))))))) | exact ktn_ltOf (And.right (And.right (And.right (And.right (And.right (And.right (And.right (And.right (And.right (And.right (And.right (And.right (And.right (And.right (by assumption))))))))))))))) | exact above_trans (by assumption) (by assumption) | exact above_trans (by assumption) (above_trans (by assumption) (by assumption)) | exact above_trans (by assumption) (ktn_ltOf (by assumption)) | exact above_trans (by assumption) (ktn_ltOf (And.right (by assumption))) | exact above_trans (by assumption) (ktn_ltOf (And.right (And.right (by assumption)))) | exact above_trans (by assumption) (ktn_ltOf (And.right (And.right (And.right (by assumption))))) | exact above_trans (by assumption) (ktn_ltOf (And.right (And.right (And.right (And.right (by assumption)))))) | exact above_trans (by assumption) (ktn_ltOf (And.right (And.right (And.right (And.right (And.right (by assumption))))))) | exact above_trans (by assumption) (ktn_ltOf (And.right (And.right (And.right (And.right (And.right (And.right (by assumption)))))))) | exact above_trans (by assumption) (ktn_ltOf (And.right (And.right (And.right (And.right (And.right (And.right (And.right (by assumption))))))))) | exact above_trans (by assumption) (ktn_ltOf (And.right (And.right (And.right (And.right (And.right (And.right (And.right (And.right (by assumption)))))))))) | exact above_trans (by assumption) (ktn_ltOf (And.right (And.right (And.right (And.right (And.right (And.right (And.right (And.right (And.right (by assumption))))))))))) | exact above_trans (by assumption) (ktn_ltOf (And.right (And.right (And.right (And.right (And.right (And.right (And.right (And.right (And.right (And.right (by assumption)))))))))))) | exact above_trans (by assumption) (ktn_ltOf (And.right (And.right (And.right (And.right (And.right (And.right (And.right (And.right (And.right (And.right (And.right (by assumption))))))))))))) | exact above_trans (by assumption) (ktn_ltOf (And.right (And.right (And.right (And.right (And.right (And.right (And.right (And.right (And.right (And.right (And.right (And.right (by assumption)))))))))))))) | exact above_trans (by assumption) (ktn_ltOf (And.right (And.right (And.right (And.right (And.right (And.right (And.right (And.right (And.right (And.right (And.right (And.right (And.right (by assumption))))))))))))))) | exact above_trans (by assumption) (ktn_ltOf (And.right (And.right (And.right (And.right (And.right (And.right (And.right (And.right (And.right (And.right (And.right (And.right (And.right (And.right (by assumption)))))))))))))))) | exact above_sub (by assumption) (by repeat' (first | (with_reducible exact subRefl) | (with_reducible exact subNil) | (with_reducible exact subLeft) | (with_reducible refine' subBoth ?_ ?_) | (refine' subCons (by k_mem) ?_) | (with_reducible refine' subTail ?_) | (with_reducible refine' subApp ?_))) | exact above_trans (by assumption) (above_sub (by assumption) (by repeat' (first | (with_reducible exact subRefl) | (with_reducible exact subNil) | (with_reducible exact subLeft) | (with_reducible refine' subBoth ?_ ?_) | (refine' subCons (by k_mem) ?_) | (with_reducible refine' subTail ?_) | (with_reducible refine' subApp ?_))))) ?_ | refine Fresh.app (Fresh.sub (by assumption) (by repeat (first | exact subRefl | apply subTail | apply subApp))) ?_), .inr (.inl ⟨by assumption, ⟨_, _, _, _, _, _, _, _, _, _, ⟨_, _, by k_mem, by k_mem⟩, by k_mem⟩⟩)⟩
  · refine' RunEnd.intro ?zf8 ?zn8 ?zp8
    case zf8 => k_asm
    case zn8 => k_asm
    case zp8 => exact ⟨_, _, rfl, Ext.eq (by repeat (first | exact Ext.nil | apply Ext.cons | apply Ext.app)), by repeat (first | exact Fresh.nil | refine Fresh.cons (by first | assumption | exact ltN (by k_extra "OM") | exact ktn_ltOf (by assumption) | exact ktn_ltOf (And.right (by assumption)) | exact ktn_ltOf (And.right (And.right (by assumption))) | exact ktn_ltOf (And.right (And.right (And.right (by assumption)))) | exact ktn_ltOf (And.right (And.right (And.right (And.right (by assumption))))) | exact ktn_ltOf (And.right (And.right (And.right (And.right (And.right (by assumption)))))) | exact ktn_ltOf (And.right (And.right (And.right (And.right (And.right (And.right (by assumption))))))) | exact ktn_ltOf (And.right (And.right (And.right (And.right (And.right (And.right (And.right (by assumption)))))))) | exact ktn_ltOf (And.right (And.right (And.right (And.right (And.right (And.right (And.right (And.right (by assumption))))))))) | exact ktn_ltOf (And.right (And.right (And.right (And.right (And.right (And.right (And.right (And.right (And.right (by assumption)))))))))) | exact ktn_ltOf (And.right (And.right (And.right (And.right (And.right (And.right (And.right (And.right (And.right (And.right (by assumption))))))))))) | exact ktn_ltOf (And.right (And.right (And.right (And.right (And.right (And.right (And.right (And.right (And.right (And.right (And.right (by assumption)))))))))))) | exact ktn_ltOf (And.right (And.right (And.right (And.right (And.right (And.right (And.right (And.right (And.right (And.right (And.right (And.right (by assumption))))))))))))) | exact ktn_ltOf (And.right (And.right (And.right (And.right (And.right (And.right (And.right (And.right (And.right (And.right (And.right (And.right (And.right (by assumption)))))))))))))) | exact ktn_ltOf (And.right (And.right (And.right (And.right (And.right (And.right (And.right (And.right (And.right (And.right (And.right (And.right (And.right (And.right (by assumption))))))))))))))) | exact above_trans (by assumption) (by assumption) | exact above_trans (by assumption) (above_trans (by assumption) (by assumption)) | exact above_trans (by assumption) (ktn_ltOf (by assumption)) | exact above_trans (by assumption) (ktn_ltOf (And.right (by assumption))) | exact above_trans (by assumption) (ktn_ltOf (And.right (And.right (by assumption)))) | exact above_trans (by assumption) (ktn_ltOf (And.right (And.right (And.right (by assumption))))) | exact above_trans (by assumption) (ktn_ltOf (And.right (And.right (And.right (And.right (by assumption)))))) | exact above_trans (by assumption) (ktn_ltOf (And.right (And.right (And.right (And.right (And.right (by assumption))))))) | exact above_trans (by assumption) (ktn_ltOf (And.right (And.right (And.right (And.right (And.right (And.right (by assumption)))))))) | exact above_trans (by assumption) (ktn_ltOf (And.right (And.right (And.right (And.right (And.right (And.right (And.right (by assumption))))))))) | exact above_trans (by assumption) (ktn_ltOf (And.right (And.right (And.right (And.right (And.right (And.right (And.right (And.right (by assumption)))))))))) | exact above_trans (by assumption) (ktn_ltOf (And.right (And.right (And.right (And.right (And.right (And.right (And.right (And.right (And.right (by assumption))))))))))) | exact above_trans (by assumption) (ktn_ltOf (And.right (And.right (And.right (And.right (And.right (And.right (And.right (And.right (And.right (And.right (by assumption)))))))))))) | exact above_trans (by assumption) (ktn_ltOf (And.right (And.right (And.right (And.right (And.right (And.right (And.right (And.right (And.right (And.right (And.right (by assumption))))))))))))) | exact above_trans (by assumption) (ktn_ltOf (And.right (And.right (And.right (And.right (And.right (And.right (And.right (And.right (And.right (And.right (And.right (And.right (by assumption)))))))))))))) | exact above_trans (by assumption) (ktn_ltOf (And.right (And.right (And.right (And.right (And.right (And.right (And.right (And.right (And.right (And.right (And.right (And.right (And.right (by assumption))))))))))))))) | exact above_trans (by assumption) (ktn_ltOf (And.right (And.right (And.right (And.right (And.right (And.right (And.right (And.right (And.right (And.right (And.right (And.right (And.right (And.right (by assumption)))))))))))))))) | exact above_sub (by assumption) (by repeat' (first | (with_reducible exact subRefl) | (with_reducible exact subNil) | (with_reducible exact subLeft) | (with_reducible refine' subBoth ?_ ?_) | (refine' subCons (by k_mem) ?_) | (with_reducible refine' subTail ?_) | (with_reducible refine' subApp ?_))) | exact above_trans (by assumption) (above_sub (by assumption) (by repeat' (first | (with_reducible exact subRefl) | (with_reducible exact subNil) | (with_reducible exact subLeft) | (with_reducible refine' subBoth ?_ ?_) | (refine' subCons (by k_mem) ?_) | (with_reducible refine' subTail ?_) | (with_reducible refine' subApp ?_))))) ?_ | refine Fresh.app (Fresh.sub (by assumption) (by repeat (first | exact subRefl | apply subTail | apply subApp))) ?_), .inr (.inr (.inl ⟨by assumption, _, ⟨_, _, _, _, _, _, _, _, _, _, by k_mem, by k_mem⟩, KindRec.mono (by assumption) (by repeat' (first | (with_reducible exact subRefl) | (with_reducible exact subNil) | (with_reducible exact subLeft) | (with_reducible refine' subBoth ?_ ?_) | (refine' subCons (by k_mem) ?_) | (with_reducible refine' subTail ?_) | (with_reducible refine' subApp ?_)))⟩))⟩
  · refine' RunEnd.intro ?zf9 ?zn9 ?zp9
    case zf9 => k_asm
    case zn9 => k_asm
    case zp9 => exact ⟨_, _, rfl, Ext.eq (by repeat (first | exact Ext.nil | apply Ext.cons | apply Ext.app)), by repeat (first | exact Fresh.nil | refine Fresh.cons (by first | assumption | exact ltN (by k_extra "OM") | exact ktn_ltOf (by assumption) | exact ktn_ltOf (And.right (by assumption)) | exact ktn_ltOf (And.right (And.right (by assumption))) | exact ktn_ltOf (And.right (And.right (And.right (by assumption)))) | exact ktn_ltOf (And.right (And.right (And.right (And.right (by assumption))))) | exact ktn_ltOf (And.right (And.right (And.right (And.right (And.right (by assumption)))))) | exact ktn_ltOf (And.right (And.right (And.right (And.right (And.right (And.right (by assumption))))))) | exact ktn_ltOf (And.right (And.right (And.right (And.right (And.right (And.right (And.right (by assumption)))))))) | exact ktn_ltOf (And.right (And.right (And.right (And.right (And.right (And.right (And.right (And.right (by assumption))))))))) | exact ktn_ltOf (And.right (And.right (And.right (And.right (And.right (And.right (And.right (And.right (And.right (by assumption)))))))))) | exact ktn_ltOf (And.right (And.right (And.right (And.right (And.right (And.right (And.right (And.right (And.right (And.right (by assumption))))))))))) | exact ktn_ltOf (And.right (And.right (And.right (And.right (And.right (And.right (And.right (And.right (And.right (And.right (And.right (by assumption)))))))))))) | exact ktn_ltOf (And.right (And.right (And.right (And.right (And.right (And.right (And.right (And.right (And.right (And.right (And.right (And.right (by assumption))))))))))))) | exact ktn_ltOf (And.right (And.right (And.right (And.right (And.right (And.right (And.right (And.right (And.right (And.right (And.right (And.right (And.right (by assumption)))))))))))))) | exact ktn_ltOf (And.right (And.right (And.right (And.right (And.right (And.right (And.right (And.right (And.right (And.right (And.right (And.right (And.right (And.right (by assumption))))))))))))))) | exact above_trans (by assumption) (by assumption) | exact above_trans (by assumption) (above_trans (by assumption) (by assumption)) | exact above_trans (by assumption) (ktn_ltOf (by assumption)) | exact above_trans (by assumption) (ktn_ltOf (And.right (by assumption))) | exact above_trans (by assumption) (ktn_ltOf (And.right (And.right (by assumption)))) | exact above_trans (by assumption) (ktn_ltOf (And.right (And.right (And.right (by assumption))))) | exact above_trans (by assumption) (ktn_ltOf (And.right (And.right (And.right (And.right (by assumption)))))) | exact above_trans (by assumption) (ktn_ltOf (And.right (And.right (And.right (And.right (And.right (by assumption))))))) | exact above_trans (by assumption) (ktn_ltOf (And.right (And.right (And.right (And.right (And.right (And.right (by assumption)))))))) | exact above_trans (by assumption) (ktn_ltOf (And.right (And.right (And.right (And.right (And.right (And.right (And.right (by assumption))))))))) | exact above_trans (by assumption) (ktn_ltOf (And.right (And.right (And.right (And.right (And.right (And.right (And.right (And.right (by assumption)))))))))) | exact above_trans (by assumption) (ktn_ltOf (And.right (And.right (And.right (And.right (And.right (And.right (And.right (And.right (And.right (by assumption))))))))))) | exact above_trans (by assumption) (ktn_ltOf (And.right (And.right (And.right (And.right (And.right (And.right (And.right (And.right (And.right (And.right (by assumption)))))))))))) | exact above_trans (by assumption) (ktn_ltOf (And.right (And.right (And.right (And.right (And.right (And.right (And.right (And.right (And.right (And.right (And.right (by assumption))))))))))))) | exact above_trans (by assumption) (ktn_ltOf (And.right (And.right (And.right (And.right (And.right (And.right (And.right (And.right (And.right (And.right (And.right (And.right (by assumption)))))))))))))) | exact above_trans (by assumption) (ktn_ltOf (And.right (And.right (And.right (And.right (And.right (And.right (And.right (And.right (And.right (And.right (And.right (And.right (And.right (by assumption))))))))))))))) | exact above_trans (by assumption) (ktn_ltOf (And.right (And.right (And.right (And.right (And.right (And.right (And.right (And.right (And.right (And.right (And.right (And.right (And.right (And.right (by assumption)))))))))))))))) | exact above_sub (by assumption) (by repeat' (first | (with_reducible exact subRefl) | (with_reducible exact subNil) | (with_reducible exact subLeft) | (with_reducible refine' subBoth ?_ ?_) | (refine' subCons (by k_mem) ?_) | (with_reducible refine' subTail ?_) | (with_reducible refine' subApp ?_))) | exact above_trans (by assumption) (above_sub (by assumption) (by repeat' (first | (with_reducible exact subRefl) | (with_reducible exact subNil) | (with_reducible exact subLeft) | (with_reducible refine' subBoth ?_ ?_) | (refine' subCons (by k_mem) ?_) | (with_reducible refine' subTail ?_) | (with_reducible refine' subApp ?_))))) ?_ | refine Fresh.app (Fresh.sub (by assumption) (by repeat (first | exact subRefl | apply subTail | apply subApp))) ?_), .inr (.inr (.inr ⟨by k_extra "OM", _, ⟨_, _, _, _, _, _, _, _, _, _, by k_mem, by k_mem⟩, by rw [← xyN_item (k := kind - 4) (by k_extra "OM") (by k_extra "OM")]; exact ⟨_, _, _, _, _, _, _, by k_mem, by k_mem⟩⟩))⟩
end SGArg
section SHLike

theorem putL_old {P : Params} {x : Str} {hs : Int} {key v : Value} {ks : List Str} {r r' : List (Tok × Value)} (hn : ks.Nodup) (h : PutV ks r x v r') :
    putL x hs key v (ents P ks r) = ents P ks r' ∧ ∀ n, putN x (ents P ks r) n = n := by
  induction h with
  | here => exact ⟨by simp [putL, ents, Value.isStr], fun n => by simp [putN, ents, Value.isStr]⟩
  | @there k ks p r x v r' h ih =>
    obtain ⟨p1, p2⟩ := p
    have ⟨h1, h2⟩ := List.nodup_cons.mp hn
    have hne : (k == x) = false := by
      simp only [beq_eq_false_iff_ne, ne_eq]; intro e; exact h1 (e ▸ h.mem)
    obtain ⟨i1, i2⟩ := ih h2
    refine ⟨?_, fun n => ?_⟩
    · simp only [ents, putL, Value.isStr, hne, Bool.false_eq_true, if_false, i1]
    · have := i2 n
      unfold putN at this ⊢
      simp only [ents, List.any_cons, Value.isStr, hne, Bool.false_or]
      exact this
section
variable {w : World} {A : Around} {E : Value → Shared → Prop} {h₀ h : Heap} {L x dx C : Addr} {m : Str → Option Value}
  {ge : Array GenState} {dr : Drawn} {tk n : Nat} {os : OsState} {news news' : Led} {ks : List Str} {tvs tvs' : List (Tok × Value)} {name : Str} {v : Value}
theorem set_old {Q : Unit → Shared → Prop} (F : Fr h₀ L h m) (X : (Mine.hd.heap_39 w.params).In h₀) (N : News h₀ L h news) (hx : (x, instObj C dx) ∈ news) (hc : ClsOk w C) (ha : AttrOk w C name)
    (hn : ks.Nodup) (hz : ks.length ≤ 900) (U : Upd dx (dictOf (ents w.params ks tvs) n) (dictOf (ents w.params ks tvs') n) news news') (pv : PutV ks tvs name v tvs')
    (q : ∀ h', Fr h₀ L h' m → News h₀ L h' news' → Q () ⟨h', ge, dr, tk + 2, os⟩) :
    wpAny (model PR w) A (setAttr (.ref x) name v) Q E ⟨h, ge, dr, tk, os⟩ := by
  have hd : (dx, dictOf (ents w.params ks tvs) n) ∈ news := by
    obtain ⟨pre, post, e, _⟩ := U.split
    rw [e]; simp
  obtain ⟨⟨pt, pv'⟩, hs⟩ := pv.old
  refine set_dict (s := ⟨h, ge, dr, tk, os⟩) F X N (InstAt.of_news N hx hd) rfl hc.set hc.plain ?_ hc.dict ?_ ?_ U ?_ q
  · unfold takerIn; rw [show findIn (Mine.hd.heap_39 w.params) (.ref C) name = some none from ha]; rfl
  · rw [getL_ents hn hs]; rfl
  · have e := putL_old (P := w.params) (hs := PyData.keyHash w.params name) (key := .str name (tk + 1)) hn pv
    exact Prod.ext e.1 (e.2 n)
  · exact Nat.le_trans (ents_len _ _) (by k_extra "OM")
noncomputable def setAt (news : Led) (a : Addr) (o : Obj) : Led := (a, o) :: news.filter fun p => !(p.1 == a)
theorem setAt_mem {news : Led} {a b : Addr} {o ob : Obj} (hb : (b, ob) ∈ news) (hne : b ≠ a) : (b, ob) ∈ setAt news a o :=
  List.mem_cons_of_mem _ (List.mem_filter.mpr ⟨hb, by simpa using hne⟩)
theorem setAt_adr {news : Led} {a : Addr} {o o' : Obj} (ha : (a, o) ∈ news) : ∀ p ∈ setAt news a o', ∃ q ∈ news, q.1 = p.1 := fun p hp => by
  rcases List.mem_cons.mp hp with rfl | hp
  · exact ⟨_, ha, rfl⟩
  · exact ⟨p, (List.mem_filter.mp hp).1, rfl⟩
theorem set_any {Q : Unit → Shared → Prop} (F : Fr h₀ L h m) (X : (Mine.hd.heap_39 w.params).In h₀) (N : News h₀ L h news) (hx : (x, instObj C dx) ∈ news) (hd : (dx, dictOf (ents w.params ks tvs) n) ∈ news) (hc : ClsOk w C) (ha : AttrOk w C name)
    (hn : ks.Nodup) (hz : ks.length ≤ 900) (pv : PutV ks tvs name v tvs')
    (q : ∀ h', Fr h₀ L h' m → News h₀ L h' (setAt news dx (dictOf (ents w.params ks tvs') n)) → Q () ⟨h', ge, dr, tk + 2, os⟩) :
    wpAny (model PR w) A (setAttr (.ref x) name v) Q E ⟨h, ge, dr, tk, os⟩ := by
  have hne : x ≠ dx := by
    intro e
    have h1 := (N _ hx).1
    have h2 := (N _ hd).1
    rw [show (x, instObj C dx).1 = dx from e] at h1
    rw [h2] at h1
    cases h1
  have N' : News h₀ L h ((dx, dictOf (ents w.params ks tvs) n) :: news.filter fun p => !(p.1 == dx)) := fun p hp => by
    rcases List.mem_cons.mp hp with rfl | hp
    · exact N _ hd
    · exact N _ (List.mem_filter.mp hp).1
  refine set_old F X N' (List.mem_cons_of_mem _ (List.mem_filter.mpr ⟨hx, by simpa using hne⟩)) hc ha hn hz (Upd.head fun p hp => ?_) pv q
  simpa using (List.mem_filter.mp hp).2
theorem isi_mem {Q : Value → Shared → Prop} (F : Fr h₀ L h m) (X : (Mine.hd.heap_39 w.params).In h₀) (N : News h₀ L h news) {od : Obj} (hx : (x, instObj C dx) ∈ news) (hd : (dx, od) ∈ news) (e : isIn (Mine.hd.heap_39 w.params) (.ref C) C = true) (q : Q (.bool true) ⟨h, ge, dr, tk, os⟩) :
    wpAny (model PR w) A (call (.builtin "isinstance") [.ref x, .ref C]) Q E ⟨h, ge, dr, tk, os⟩ :=
  isi_call (s := ⟨h, ge, dr, tk, os⟩) (X.keeps F.keep) (fun _ => InstAt.type (InstAt.of_news N hx hd)) e (fun z => by cases z) q
end
noncomputable def VecLike (w : World) (o o' : Obj) : Prop := ∃ t1 v1 t2 v2 t3 v3 t4 b t5 v5 n b' n', o = dictOf (ents w.params ksVector [(t1, v1), (t2, v2), (t3, v3), (t4, .bool b), (t5, v5)]) n ∧ o' = dictOf (ents w.params ksVector [(t1, v1), (t2, v2), (t3, v3), (t4, .bool b'), (t5, v5)]) n'
noncomputable def Like (w : World) (l l' : Led) : Prop := ∀ a o, (a, o) ∈ l → (a, o) ∈ l' ∨ ∃ o', (a, o') ∈ l' ∧ VecLike w o o'
theorem Like.refl {w : World} {l : Led} : Like w l l := fun _ _ h => .inl h
theorem Like.sub {w : World} {l l' : Led} (h : ∀ p ∈ l, p ∈ l') : Like w l l' := fun _ _ k => .inl (h _ k)

section
variable {w : World} {A : Around} {E : Value → Shared → Prop} {h₀ h : Heap} {L d : Addr} {m : Str → Option Value}
  {ge : Array GenState} {dr : Drawn} {tk : Nat} {os : OsState} {news : Led} {g : Obj → Led} {o : Obj} {kvs kvs' : List (Str × Value)} {k : Str} {t : Tok} {v : Value}
theorem d_meth {pl : Sem Bool} {Q : Value × List Value → Shared → Prop} {s : Shared} (N : News h₀ L s.heap news) (hp : (d, o) ∈ news) (hd : o.IsDictOf (strKind PR w) kvs) (q : Q (.builtin "dict.get", [.ref d]) s) : wpAny (model PR w) A (getMethod (.ref d) (Str.ofString "get") pl) Q E s :=
  kdg_method (knd := strKind PR w) N hp hd q
theorem d_get {Q : Value → Shared → Prop} (N : News h₀ L h news) (hp : (d, o) ∈ news) (hd : o.IsDictOf (strKind PR w) kvs) (lo : (d == sysModules) = false) (q : Q ((valueAt kvs k).getD .none) ⟨h, ge, dr, tk + 1, os⟩) :
    wpAny (model PR w) A (call (.builtin "dict.get") [.ref d, .str k t]) Q E ⟨h, ge, dr, tk, os⟩ := kdg_get1 (knd := strKind PR w) (s := ⟨h, ge, dr, tk, os⟩) N hp hd lo (strKind_is _ _ _ _) _ rfl q
theorem d_item {value slice : PySem.Expr} {Q : Value → Shared → Prop} (N : News h₀ L h news) (hp : (d, o) ∈ news) (hd : o.IsDictOf (strKind PR w) kvs) (hl : valueAt kvs k = some v) (q : Q v ⟨h, ge, dr, tk + 1, os⟩)
    (hs : subscripted slice false (.ref d) (.str k t) = operate [.ref d, .str k t] (getItem (.ref d) (.str k t))) (hg : ∀ r, letTemporaryGo value (.ref d) r = pure ()) : wpAny (model PR w) A (subscriptTail value slice (.ref d) (.str k t)) Q E ⟨h, ge, dr, tk, os⟩ :=
  kda_item (knd := strKind PR w) (s := ⟨h, ge, dr, tk, os⟩) N hp hd (strKind_is _ _ _ _) hl q hs hg
theorem d_notin {Q : Value → Shared → Prop} (N : News h₀ L h news) (hp : (d, o) ∈ news) (hd : o.IsDictOf (strKind PR w) kvs) (lo : (d == sysModules) = false) (b : Bool) (hb : (valueAt kvs k).isSome = b) (q : Q (.bool (!b)) ⟨h, ge, dr, tk + 1, os⟩) :
    wpAny (model PR w) A (compareOp .NotIn (.str k t) (.ref d)) Q E ⟨h, ge, dr, tk, os⟩ := kdg_notin (knd := strKind PR w) (s := ⟨h, ge, dr, tk, os⟩) N hp hd lo (strKind_is _ _ _ _) b hb q
theorem d_in {Q : Value → Shared → Prop} (N : News h₀ L h news) (hp : (d, o) ∈ news) (hd : o.IsDictOf (strKind PR w) kvs) (lo : (d == sysModules) = false) (b : Bool) (hb : (valueAt kvs k).isSome = b) (q : Q (.bool b) ⟨h, ge, dr, tk + 1, os⟩) :
    wpAny (model PR w) A (compareOp .In (.str k t) (.ref d)) Q E ⟨h, ge, dr, tk, os⟩ := kda_in (knd := strKind PR w) (s := ⟨h, ge, dr, tk, os⟩) N hp hd lo (strKind_is _ _ _ _) b hb q
theorem d_set {Q : Unit → Shared → Prop} (F : Fr h₀ L h m) (N : News h₀ L h news) (U : UpdF d o news g) (hd : o.IsDictOf (strKind PR w) kvs) (hz : kvs.length ≤ 1000) (e : stored kvs k v = kvs')
    (q : ∀ h' o', Fr h₀ L h' m → News h₀ L h' (g o') → o'.IsDictOf (strKind PR w) kvs' → Q () ⟨h', ge, dr, tk + 1, os⟩) : wpAny (model PR w) A (setItem (.ref d) (.str k t) v) Q E ⟨h, ge, dr, tk, os⟩ :=
  kda_set (knd := strKind PR w) (s := ⟨h, ge, dr, tk, os⟩) F N U hd (strKind_is _ _ _ _) (Nat.le_trans hz (by rw [sizeLine_eq]; decide)) fun h' o' F' N' hd' => q h' o' F' N' (e ▸ hd')
end
theorem at_here {k : Str} {v : Value} {r : List (Str × Value)} : valueAt ((k, v) :: r) k = some v := by simp [valueAt]
theorem at_there {k k' : Str} {v : Value} {r : List (Str × Value)} {o : Option Value} (hn : strNe k' k = true) (h : valueAt r k = o) : valueAt ((k', v) :: r) k = o := by
  have : ¬ k' = k := by simpa [strNe] using hn
  unfold valueAt at h ⊢
  simp [this, h]
theorem at_nil {k : Str} : valueAt ([] : List (Str × Value)) k = none := by simp [valueAt]
noncomputable def Stop (P : Prop) : Prop := P
theorem whl_ind {prog : Program} {w : World} {A : Around} {env : Env} {test : PySem.Expr} {body orelse : List Stmt} {pos : Pos} {Q : Flow → Shared → Prop} {s : Shared}
    (h : Stop (WhlRest prog w A (fun _ _ => False) env test body orelse Q 0 s)) : wpAny (model prog w) A (exec (.While test body orelse pos) env) Q (fun _ _ => False) s := whl_start 0 h
theorem whl_one {prog : Program} {w : World} {A : Around} {env : Env} {test : PySem.Expr} {body orelse : List Stmt} {Q : Flow → Shared → Prop} {s : Shared}
    (h : wpAny (model prog w) A (isTrue test env (eval test env)) (fun b s₂ => WhlIf b (wpAny (model prog w) A (execs body env) (WhlPost prog w A (fun _ _ => False) env test body orelse Q 0) (fun _ _ => False) s₂) (wpAny (model prog w) A (execs orelse env) Q (fun _ _ => False) s₂)) (fun _ _ => False) s) :
    WhlRest prog w A (fun _ _ => False) env test body orelse Q 0 s := whl_turn (k := 0) (fun _ _ h => h.elim) h
theorem whl_post {prog : Program} {w : World} {A : Around} {env : Env} {test : PySem.Expr} {body orelse : List Stmt} {Q : Flow → Shared → Prop} {s : Shared} {k : Nat}
    (h : Stop (WhlRest prog w A (fun _ _ => False) env test body orelse Q k s)) : WhlPost prog w A (fun _ _ => False) env test body orelse Q k .next s := h
end SHLike

theorem reg_macros_h : True := by
  k_with "kat_tups" => (first
  | ((with_reducible show wpAny _ _ (setAttr (Value.ref _) _ _) _ _ _); refine' set_old ?zqF ?zqX ?zqN ?zqhx ?zqhc ?zqha ?zqhn ?zqhz ?zqU ?zqpv ?_; (case zqF => k_asm); (case zqX => k_asm); (case zqN => k_asm); (case zqhx => k_extra "allgen_close_more"); (case zqhc => k_extra "tb_rel"); (case zqha => k_extra "tb_rel"); (case zqU => k_upd); (case zqpv => k_extra "allgen_close2_more"); (case zqhn => k_extra "tb_rel"); (case zqhz => decide); intro zqh' zqF' zqN'; (try k_sweep)))
  k_with "lsm_bools" => (first
  | ((with_reducible refine' isi_mem ?zqF ?zqX ?zqN ?zqhx ?zqhd ?zqhe ?_); (case zqF => k_asm); (case zqX => k_asm); (case zqN => k_asm); (case zqhx => k_extra "allgen_close_more"); (case zqhd => k_extra "allgen_close_more"); (case zqhe => k_is)))
  k_with "ktn_open" => (first | (with_reducible exact at_here) | (with_reducible exact at_nil) | ((with_reducible refine' at_there ?zqne ?zqkr); (case zqne => first | (with_reducible assumption) | decide +kernel); (case zqkr => k_extra "ktn_open")))
  k_with "kat_tups" => (first
  | ((with_reducible refine' d_meth ?zqN ?zqhp ?zqhd ?_); (case zqN => k_asm); (case zqhp => k_extra "allgen_close_more"); (case zqhd => assumption)))
  k_with "lsm_bools" => (first
  | ((with_reducible refine' d_get ?zqN ?zqhp ?zqhd ?zqlo ?_); (case zqN => k_asm); (case zqhp => k_extra "allgen_close_more"); (case zqhd => assumption); (case zqlo => assumption)))
  k_with "kpt_turns" => (first
  | (with_reducible refine whl_ind ?_))
  k_with "o_fieldsN" => (first
  | (with_reducible refine whl_post ?_))
  trivial
section SKFor
section
variable {prog : Program} {w : World} {A : Around} {env : Env} {target : PySem.Expr} {body : List Stmt} {Q : Flow → Shared → Prop} {it : Value} {s : Shared}
noncomputable def ForRest (prog : Program) (w : World) (A : Around) (env : Env) (target : PySem.Expr) (body : List Stmt) (Q : Flow → Shared → Prop) (it : Value) (s : Shared) : Prop :=
  codeAny (model prog w) A (.forLoop target it body [] env) (fun r s' => match r with | .ok f => Q f s' | .error e => cameBackBy (model prog w) A env (fun _ _ => False) e s') s
noncomputable def ForPost (prog : Program) (w : World) (A : Around) (env : Env) (target : PySem.Expr) (body : List Stmt) (Q : Flow → Shared → Prop) (it : Value) (f : Flow) (s : Shared) : Prop :=
  match f with
  | .next => ForRest prog w A env target body Q it s
  | .cont => ForRest prog w A env target body Q it s
  | .brk => Q .next s
  | .ret v => Q (.ret v) s
theorem for_start {iter : PySem.Expr} {pos : Pos} (h : wpAny (model prog w) A (eval iter env) (fun x s₁ => wpAny (model prog w) A (pyIter x) (fun it s₂ => Stop (ForRest prog w A env target body Q it s₂)) (fun _ _ => False) s₁) (fun _ _ => False) s)
    (hs : ∀ x, foldedSetIterable iter env x = pure x) : wpAny (model prog w) A (exec (.For target iter body [] pos) env) Q (fun _ _ => False) s := wpAny_For h hs
theorem for_turn (h : wpAny (model prog w) A (pyNext it) (fun r s₁ => match r with
    | none => Q .next s₁
    | some v => wpAny (model prog w) A (letOwnedTupleGo target it v) (fun _ s₁' => wpAny (model prog w) A (assign target env v) (fun _ s₂ => wpAny (model prog w) A (execs body env) (ForPost prog w A env target body Q it) (fun _ _ => False) s₂) (fun _ _ => False) s₁') (fun _ _ => False) s₁) (fun _ _ => False) s) :
    ForRest prog w A env target body Q it s := by
  refine codeAny_of_tree ?_
  show wpAny _ A ((forTurn target it body [] env).onRaise (fun x => do noteFrame x env; theTreesLotGoes x)) _ _ s
  refine wpAny_noted ?_
  simp only [forTurn]
  refine wpAny_bind (wpAny_standAt (wpAny_bind (wpAny_onRaise (wpAny_mono h (fun r s₁ h₁ => ?_) fun _ _ h' => h'.elim))))
  cases r with
  | none => exact wpAny_pure ⟨rfl, codeAny_block (wpAny_execs_nil h₁)⟩
  | some v =>
    refine wpAny_bind (wpAny_mono h₁ (fun _ s₁' h₁' => ?_) fun _ _ h' => h'.elim)
    refine wpAny_bind (wpAny_mono h₁' (fun _ s₂ h₂ => wpAny_bind (wpAny_mono h₂ (fun f s₃ h₃ => ?_) fun _ _ h' => h'.elim)) fun _ _ h' => h'.elim)
    cases f with
    | next => exact wpAny_pure ⟨rfl, h₃⟩
    | cont => exact wpAny_pure ⟨rfl, h₃⟩
    | brk => exact wpAny_pure h₃
    | ret v => exact wpAny_pure h₃
theorem for_post (h : Stop (ForRest prog w A env target body Q it s)) : ForPost prog w A env target body Q it .next s := h
theorem for_post_c (h : Stop (ForRest prog w A env target body Q it s)) : ForPost prog w A env target body Q it .cont s := h
theorem for_post_b (h : Q .next s) : ForPost prog w A env target body Q it .brk s := h
theorem for_post_r {v : Value} (h : Q (.ret v) s) : ForPost prog w A env target body Q it (.ret v) s := h
end
noncomputable abbrev rngObj (a b : Int) (t u v : Tok) : Obj := { cls := .type "range", dict := none, data := .fields #[.int a t, .int b u, .int 1 v], slots := #[] }
noncomputable abbrev rngIt (x left : Int) : Obj := { cls := .type "range_iterator", dict := none, data := .fields #[rawInt x, rawInt left, rawInt 1], slots := #[] }
noncomputable def LIt (o : Obj) (l : Addr) (i : Nat) : Prop := o.cls = .type "list_iterator" ∧ o.data = .fields #[.ref l, .int i 0]
section
variable {w : World} {A : Around} {E : Value → Shared → Prop} {h₀ h : Heap} {L I l r a : Addr} {m : Str → Option Value} {cn : Str} {cs : Scope} {ccd : Value} {cl : List (Str × Addr)}
  {ge : Array GenState} {dr : Drawn} {tk : Nat} {os : OsState} {news : Led} {ks : List Str} {vs vs' : List (Option Value)} {x : Str} {px : Pos} {body : List Stmt} {target : PySem.Expr} {Q : Flow → Shared → Prop}
theorem small_of {a b : Int} (ha : 0 ≤ a) (ha' : a ≤ 100000) (hb : 0 ≤ b) (hb' : b ≤ 100000) : Builtin.Range.small a b 1 = true := by
  unfold Builtin.Range.small Builtin.Range.rangeFitsLong Builtin.Range.rangeSize
  simp
  split <;> omega
theorem size_of {a b : Int} (h : a ≤ b) : Builtin.Range.rangeSize a b 1 = b - a := by
  unfold Builtin.Range.rangeSize
  simp
  omega
theorem it_rng {a b : Int} {t u v : Tok} {Q : Value → Shared → Prop} (F : Fr h₀ L h m) (N : News h₀ L h news) (hr : IsRange h r a b 1 t u v) (ha : 0 ≤ a) (hab : a ≤ b) (hb : b ≤ 100000)
    (q : ∀ h' I, Fr h₀ L h' m → News h₀ L h' ((I, rngIt a (b - a)) :: news) → (∀ p ∈ news, p.1 < I) → Q (.ref I) ⟨h', ge, dr, tk, os⟩) : wpAny (model PR w) A (pyIter (.ref r)) Q E ⟨h, ge, dr, tk, os⟩ := by
  refine wpAny_pyIter_range (s := ⟨h, ge, dr, tk, os⟩) hr (small_of ha (by k_extra "OM") (by k_extra "OM") hb) ?_
  have up : ∀ c o, h.get? c = some o → (h.push { cls := .type "range_iterator", data := .fields #[rawInt a, rawInt (Builtin.Range.rangeSize a b 1), rawInt 1] }).get? c = some o := fun _ _ e => Heap.get?_push_of_some _ e
  refine q _ _ (F.keeps up) (fun p hp => ?_) (fun p hp => Heap.lt_size (N p hp).1)
  rcases List.mem_cons.mp hp with rfl | hp
  · refine ⟨by rw [← size_of hab]; exact Heap.get?_push_size _ rfl, Nat.ne_of_gt F.ns.lt, ?_⟩
    cases q : h₀.get? h.objs.size with
    | none => rfl
    | some o => exact absurd (Heap.lt_size (F.keep _ _ q)) (Nat.lt_irrefl _)
  · exact ⟨up _ _ (N p hp).1, (N p hp).2⟩
theorem it_lst {ys : List Value} {n : Nat} {Q : Value → Shared → Prop} (F : Fr h₀ L h m) (N : News h₀ L h news) (hl : (l, listOf ys.toArray n) ∈ news)
    (q : ∀ h' I o, Fr h₀ L h' m → News h₀ L h' ((I, o) :: news) → LIt o l 0 → (∀ p ∈ news, p.1 < I) → Q (.ref I) ⟨h', ge, dr, tk, os⟩) : wpAny (model PR w) A (pyIter (.ref l)) Q E ⟨h, ge, dr, tk, os⟩ := by
  refine wpAny_pyIter_list (s := ⟨h, ge, dr, tk, os⟩) (News.isList N hl) ?_
  have up : ∀ c o, h.get? c = some o → (h.push { cls := .type "list_iterator", data := .fields #[.ref l, .int 0 0] }).get? c = some o := fun _ _ e => Heap.get?_push_of_some _ e
  refine q _ h.objs.size { cls := .type "list_iterator", data := .fields #[.ref l, .int 0 0] } (F.keeps up) (fun p hp => ?_) ⟨rfl, rfl⟩ (fun p hp => Heap.lt_size (N p hp).1)
  rcases List.mem_cons.mp hp with rfl | hp
  · refine ⟨Heap.get?_push_size _ rfl, Nat.ne_of_gt F.ns.lt, ?_⟩
    cases q : h₀.get? h.objs.size with
    | none => rfl
    | some o => exact absurd (Heap.lt_size (F.keep _ _ q)) (Nat.lt_irrefl _)
  · exact ⟨up _ _ (N p hp).1, (N p hp).2⟩
theorem rng_item {i left : Int} (T : LocTab cs ks) (F : Fr h₀ L h (frm ks vs)) (N : News h₀ L h ((I, rngIt i left) :: news)) (hI : ∀ p ∈ news, p.1 ≠ I) (hl : 0 < left) (hp : Put ks vs x (some (.int i tk)) vs')
    (q : ∀ h', Fr h₀ L h' (frm ks vs') → News h₀ L h' ((I, rngIt (i + 1) (left - 1)) :: news) → wpAny (model PR w) A (execs body (envX cn cs L a ccd cl)) (ForPost PR w A (envX cn cs L a ccd cl) (.Name x px) body Q (.ref I)) (fun _ _ => False) ⟨h', ge, dr, tk + 2, os⟩) :
    ForRest PR w A (envX cn cs L a ccd cl) (.Name x px) body Q (.ref I) ⟨h, ge, dr, tk, os⟩ := by
  have zI := N (I, rngIt i left) List.mem_cons_self
  refine for_turn (wpAny_pyNext_range_item (s := ⟨h, ge, dr, tk, os⟩) zI.1 hl fun h₁ e₁ s₁ => ?_)
  have hx : ∀ b o, b ∉ [I] → h.get? b = some o → h₁.get? b = some o := fun b o hb e => s₁.extBut b o (by simpa using hb) e
  have F₁ : Fr h₀ L h₁ (frm ks vs) := LCg.fr_but F hx (Ne.symm zI.2.1) zI.2.2
  have N₁ : News h₀ L h₁ ((I, rngIt (i + 1) (left - 1)) :: news) := fun p hp => by
    rcases List.mem_cons.mp hp with rfl | hp
    · exact ⟨e₁, zI.2⟩
    · exact ⟨hx _ _ (by simpa using hI p hp) (N p (List.mem_cons_of_mem _ hp)).1, (N p (List.mem_cons_of_mem _ hp)).2⟩
  show wpAny _ _ (pure ()) _ _ _
  refine wpAny_pure (wpAny_assign_Name (st_S T F₁ N₁ hp fun h₂ F₂ N₂ => ?_))
  exact q h₂ F₂ N₂
theorem rng_end {i left : Int} (hh : A.handled = none) (F : Fr h₀ L h m) (N : News h₀ L h ((I, rngIt i left) :: news)) (hI : ∀ p ∈ news, p.1 ≠ I) (hl : left ≤ 0)
    (q : ∀ h', Fr h₀ L h' m → News h₀ L h' news → Q .next ⟨h', ge, dr, tk, os⟩) :
    ForRest PR w A (envX cn cs L a ccd cl) target body Q (.ref I) ⟨h, ge, dr, tk, os⟩ := by
  have zI := N (I, rngIt i left) List.mem_cons_self
  refine for_turn (wpAny_pyNext_range_end (s := ⟨h, ge, dr, tk, os⟩) hh zI.1 hl fun h₁ e₁ => ?_)
  have hx : ∀ b o, b ∉ [I] → h.get? b = some o → h₁.get? b = some o := fun b o hb e => e₁ b o (by simpa using hb) e
  exact q h₁ (LCg.fr_but F hx (Ne.symm zI.2.1) zI.2.2) fun p hp => ⟨hx _ _ (by simpa using hI p hp) (N p (List.mem_cons_of_mem _ hp)).1, (N p (List.mem_cons_of_mem _ hp)).2⟩
theorem lst_item_any {o : Obj} {i n : Nat} {ys : List Value} {v : Value} (F : Fr h₀ L h m) (N : News h₀ L h ((I, o) :: news)) (ho : LIt o l i) (hI : ∀ p ∈ news, p.1 ≠ I) (hl : (l, listOf ys.toArray n) ∈ news) (hv : ys[i]? = some v)
    (q : ∀ h' o', Fr h₀ L h' m → News h₀ L h' ((I, o') :: news) → LIt o' l (i + 1) → wpAny (model PR w) A (assign target (envX cn cs L a ccd cl) v) (fun _ s₂ => wpAny (model PR w) A (execs body (envX cn cs L a ccd cl)) (ForPost PR w A (envX cn cs L a ccd cl) target body Q (.ref I)) (fun _ _ => False) s₂) (fun _ _ => False) ⟨h', ge, dr, tk, os⟩)
    (hgo : ∀ h' o' Q', h'.get? I = some o' → LIt o' l (i + 1) → Q' () ⟨h', ge, dr, tk, os⟩ → wpAny (model PR w) A (letOwnedTupleGo target (.ref I) v) Q' (fun _ _ => False) ⟨h', ge, dr, tk, os⟩) :
    ForRest PR w A (envX cn cs L a ccd cl) target body Q (.ref I) ⟨h, ge, dr, tk, os⟩ := by
  have zI := N (I, o) List.mem_cons_self
  have hls := News.isList N (List.mem_cons_of_mem _ hl)
  refine for_turn (wpAny_pyNext_list_item (s := ⟨h, ge, dr, tk, os⟩) ⟨o, zI.1, ho.1, ho.2⟩ hls (by simpa using hv) fun h₁ e₁ s₁ => ?_)
  obtain ⟨o', e₁, c₁, d₁⟩ := e₁
  have hx : ∀ b o, b ∉ [I] → h.get? b = some o → h₁.get? b = some o := fun b o hb e => s₁.extBut b o (by simpa using hb) e
  refine hgo h₁ o' _ e₁ ⟨c₁, d₁⟩ (q h₁ o' (LCg.fr_but F hx (Ne.symm zI.2.1) zI.2.2) (fun p hp => ?_) ⟨c₁, d₁⟩)
  rcases List.mem_cons.mp hp with rfl | hp
  · exact ⟨e₁, zI.2⟩
  · exact ⟨hx _ _ (by simpa using hI p hp) (N p (List.mem_cons_of_mem _ hp)).1, (N p (List.mem_cons_of_mem _ hp)).2⟩
theorem lst_item {o : Obj} {i n : Nat} {ys : List Value} {v : Value} (T : LocTab cs ks) (F : Fr h₀ L h (frm ks vs)) (N : News h₀ L h ((I, o) :: news)) (ho : LIt o l i) (hI : ∀ p ∈ news, p.1 ≠ I) (hl : (l, listOf ys.toArray n) ∈ news) (hv : ys[i]? = some v) (hp : Put ks vs x (some v) vs')
    (q : ∀ h' o', Fr h₀ L h' (frm ks vs') → News h₀ L h' ((I, o') :: news) → LIt o' l (i + 1) → wpAny (model PR w) A (execs body (envX cn cs L a ccd cl)) (ForPost PR w A (envX cn cs L a ccd cl) (.Name x px) body Q (.ref I)) (fun _ _ => False) ⟨h', ge, dr, tk + 1, os⟩) :
    ForRest PR w A (envX cn cs L a ccd cl) (.Name x px) body Q (.ref I) ⟨h, ge, dr, tk, os⟩ :=
  lst_item_any F N ho hI hl hv (fun h₁ o' F₁ N₁ h₁' => wpAny_assign_Name (st_S T F₁ N₁ hp fun h₂ F₂ N₂ => q h₂ o' F₂ N₂ h₁')) fun h' o' Q' _ _ hq => wpAny_pure hq
theorem lst_end {o : Obj} {i n : Nat} {ys : List Value} (hh : A.handled = none) (F : Fr h₀ L h m) (N : News h₀ L h ((I, o) :: news)) (ho : LIt o l i) (hI : ∀ p ∈ news, p.1 ≠ I) (hl : (l, listOf ys.toArray n) ∈ news) (hv : ys.length ≤ i)
    (q : ∀ h', Fr h₀ L h' m → News h₀ L h' news → Q .next ⟨h', ge, dr, tk, os⟩) :
    ForRest PR w A (envX cn cs L a ccd cl) target body Q (.ref I) ⟨h, ge, dr, tk, os⟩ := by
  have zI := N (I, o) List.mem_cons_self
  have hls := News.isList N (List.mem_cons_of_mem _ hl)
  refine for_turn (wpAny_pyNext_list_end (s := ⟨h, ge, dr, tk, os⟩) hh ⟨o, zI.1, ho.1, ho.2⟩ hls (by simpa using hv) fun h₁ e₁ => ?_)
  have hx : ∀ b o, b ∉ [I] → h.get? b = some o → h₁.get? b = some o := fun b o hb e => e₁ b o (by simpa using hb) e
  exact q h₁ (LCg.fr_but F hx (Ne.symm zI.2.1) zI.2.2) fun p hp => ⟨hx _ _ (by simpa using hI p hp) (N p (List.mem_cons_of_mem _ hp)).1, (N p (List.mem_cons_of_mem _ hp)).2⟩
end
theorem ne_of_obj {h₀ h : Heap} {L a b : Addr} {o o' : Obj} {news : Led} (N : News h₀ L h news) (ha : (a, o) ∈ news) (hb : (b, o') ∈ news) (hne : o ≠ o') : a ≠ b := fun e => by
  have h1 := (N _ ha).1
  have h2 := (N _ hb).1
  rw [show (a, o).1 = (b, o').1 from e, h2] at h1
  exact hne (Option.some.inj h1).symm
theorem lit_ne {o : Obj} {l : Addr} {i n : Nat} {ys : List Value} (ho : LIt o l i) : listOf ys.toArray n ≠ o := fun e => by
  have := ho.1
  rw [← e] at this
  exact absurd (Value.type.inj this) (by decide)
section
variable {w : World} {A : Around} {E : Value → Shared → Prop} {h₀ h : Heap} {L I l r a : Addr} {m : Str → Option Value} {cn : Str} {cs : Scope} {ccd : Value} {cl : List (Str × Addr)}
  {ge : Array GenState} {dr : Drawn} {tk : Nat} {os : OsState} {news : Led} {g : Obj → Led} {ks : List Str} {vs vs' : List (Option Value)} {x : Str} {px : Pos} {body : List Stmt} {target : PySem.Expr} {Q : Flow → Shared → Prop}
theorem updF_mem {o : Obj} (U : UpdF I o news g) : (I, o) ∈ news := by
  obtain ⟨pre, post, rfl, _⟩ := U.split
  simp
theorem updF_out {o : Obj} (N : News h₀ L h news) (U : UpdF I o news g) : ∃ rest, News h₀ L h ((I, o) :: rest) ∧ (∀ p ∈ rest, p.1 ≠ I) ∧ (∀ h' o', News h₀ L h' ((I, o') :: rest) → News h₀ L h' (g o')) ∧ (∀ p ∈ news, p.1 ≠ I → p ∈ rest) ∧ (∀ h', News h₀ L h' rest → ∀ p ∈ news, p.1 ≠ I → h'.get? p.1 = some p.2 ∧ p.1 ≠ L ∧ h₀.get? p.1 = none) := by
  obtain ⟨pre, post, rfl, hg, a, b⟩ := U.split
  have mem : ∀ p ∈ pre ++ (I, o) :: post, p.1 ≠ I → p ∈ pre ++ post := fun p hp hne => by
    rcases List.mem_append.mp hp with hp | hp
    · exact List.mem_append_left _ hp
    · rcases List.mem_cons.mp hp with rfl | hp
      · exact absurd rfl hne
      · exact List.mem_append_right _ hp
  refine ⟨pre ++ post, fun p hp => ?_, fun p hp => ?_, fun h' o' N' => ?_, mem, fun h' N' p hp hne => N' p (mem p hp hne)⟩
  · rcases List.mem_cons.mp hp with rfl | hp
    · exact N _ (by simp)
    · refine N _ ?_
      rcases List.mem_append.mp hp with hp | hp
      · exact List.mem_append_left _ hp
      · exact List.mem_append_right _ (List.mem_cons_of_mem _ hp)
  · rcases List.mem_append.mp hp with hp | hp
    · exact a p hp
    · exact b p hp
  · rw [hg]
    intro p hp
    refine N' p ?_
    rcases List.mem_append.mp hp with hp | hp
    · exact List.mem_cons_of_mem _ (List.mem_append_left _ hp)
    · rcases List.mem_cons.mp hp with rfl | hp
      · exact List.mem_cons_self
      · exact List.mem_cons_of_mem _ (List.mem_append_right _ hp)
theorem lst_itemU {o : Obj} {i n : Nat} {ys : List Value} {v : Value} (T : LocTab cs ks) (F : Fr h₀ L h (frm ks vs)) (N : News h₀ L h news) (U : UpdF I o news g) (ho : LIt o l i) (hl : (l, listOf ys.toArray n) ∈ news) (hv : ys[i]? = some v) (hp : Put ks vs x (some v) vs')
    (q : ∀ h' o', Fr h₀ L h' (frm ks vs') → News h₀ L h' (g o') → LIt o' l (i + 1) → wpAny (model PR w) A (execs body (envX cn cs L a ccd cl)) (ForPost PR w A (envX cn cs L a ccd cl) (.Name x px) body Q (.ref I)) (fun _ _ => False) ⟨h', ge, dr, tk + 1, os⟩) :
    Stop (ForRest PR w A (envX cn cs L a ccd cl) (.Name x px) body Q (.ref I) ⟨h, ge, dr, tk, os⟩) := by
  obtain ⟨rest, N1, off, back, mem, _⟩ := updF_out N U
  exact lst_item T F N1 ho off (mem _ hl (ne_of_obj N hl (updF_mem U) (lit_ne ho))) hv hp fun h' o' F' N' ho' => q h' o' F' (back _ _ N') ho'
inductive DropF (d : Addr) : Led → Led → Prop
  | head {o r} : (∀ p ∈ r, p.1 ≠ d) → DropF d ((d, o) :: r) r
  | tail {p r r'} : p.1 ≠ d → DropF d r r' → DropF d (p :: r) (p :: r')
theorem DropF.sub {d : Addr} {l l' : Led} (h : DropF d l l') : ∀ p ∈ l', p ∈ l ∧ p.1 ≠ d := by
  induction h with
  | head h => exact fun p hp => ⟨List.mem_cons_of_mem _ hp, h p hp⟩
  | tail h _ ih =>
    intro p hp
    rcases List.mem_cons.mp hp with rfl | hp
    · exact ⟨List.mem_cons_self, h⟩
    · exact ⟨List.mem_cons_of_mem _ (ih p hp).1, (ih p hp).2⟩
theorem lst_endU {o : Obj} {i n : Nat} {ys : List Value} {news' : Led} (hh : A.handled = none) (F : Fr h₀ L h m) (N : News h₀ L h news) (U : UpdF I o news g) (D : DropF I news news') (ho : LIt o l i) (hl : (l, listOf ys.toArray n) ∈ news) (hv : ys.length ≤ i)
    (q : ∀ h', Fr h₀ L h' m → News h₀ L h' news' → Q .next ⟨h', ge, dr, tk, os⟩) :
    Stop (ForRest PR w A (envX cn cs L a ccd cl) target body Q (.ref I) ⟨h, ge, dr, tk, os⟩) := by
  obtain ⟨rest, N1, off, back, mem, _⟩ := updF_out N U
  exact lst_end hh F N1 ho off (mem _ hl (ne_of_obj N hl (updF_mem U) (lit_ne ho))) hv fun h' F' N' => q h' F' fun p hp => by
    obtain ⟨h1, h2⟩ := D.sub p hp
    exact N' p (mem p h1 h2)
noncomputable def TurnEnd (g : Heap) (L : Addr) (ks : List Str) (I : Addr) (oI : Obj → Prop) (J : Flow → List (Option Value) → Led → Prop) (s : Shared) (fl : Flow) (s' : Shared) : Prop :=
  ∃ h' tk' vs' o' news', s' = { s with heap := h', toks := tk' } ∧ Fr g L h' (frm ks vs') ∧ News g L h' ((I, o') :: news') ∧ (∀ p ∈ news', p.1 ≠ I) ∧ oI o' ∧ J fl vs' news'
theorem TurnEnd.intro {g h' : Heap} {L I : Addr} {ks : List Str} {oI : Obj → Prop} {o' : Obj} {J : Flow → List (Option Value) → Led → Prop} {s : Shared} {fl : Flow} {vs' : List (Option Value)} {news all : Led} {tk' : Nat} (F : Fr g L h' (frm ks vs')) (N : News g L h' all)
    (D : DropF I all news) (hI : (I, o') ∈ all) (ho : oI o') (p : J fl vs' news) : TurnEnd g L ks I oI J s fl { s with heap := h', toks := tk' } :=
  ⟨h', tk', vs', o', news, rfl, F, fun p hp => by
    rcases List.mem_cons.mp hp with rfl | hp
    · exact N _ hI
    · exact N _ (D.sub p hp).1, fun p hp => (D.sub p hp).2, ho, p⟩
theorem put_set : ∀ {ks : List Str} {x : Str} {j : Nat}, ks[j]? = some x → ∀ vs : List (Option Value), vs.length = ks.length → ∀ v, Put ks vs x (some v) (vs.set j (some v))
  | [], _, _, h, _, _, _ => by simp at h
  | k :: ks, x, 0, h, u :: vs, _, v => by
    have e : k = x := by simpa using h
    subst e; exact Put.here
  | k :: ks, x, j + 1, h, u :: vs, hl, v => Put.there (put_set (ks := ks) (j := j) (by simpa using h) vs (Nat.succ.inj hl) v)
  | k :: ks, x, _, _, [], hl, _ => nomatch hl
theorem rng_inv {b : Int} (n : Nat) (J : Nat → List (Option Value) → Led → Prop) (hb : b = n) (hh : A.handled = none) (T : LocTab cs ks) (F : Fr h₀ L h (frm ks vs)) (N : News h₀ L h ((I, rngIt 0 b) :: news)) (hI : ∀ p ∈ news, p.1 ≠ I) (j : Nat) (hx : ks[j]? = some x)
    (hJ : ∀ i vs news, J i vs news → vs.length = ks.length) (start : J 0 vs news)
    (step : ∀ i vs news h tk, i < n → J i vs news → Fr h₀ L h (frm ks (vs.set j (some (.int i tk)))) → News h₀ L h ((I, rngIt (i + 1 : Nat) ((n : Int) - (i + 1 : Nat))) :: news) → (∀ p ∈ news, p.1 ≠ I) →
      wpAny (model PR w) A (execs body (envX cn cs L a ccd cl)) (TurnEnd h₀ L ks I (fun o => o = rngIt (i + 1 : Nat) ((n : Int) - (i + 1 : Nat))) (fun fl vs news => (fl = .next ∨ fl = .cont) ∧ J (i + 1) vs news) ⟨h, ge, dr, tk, os⟩) (fun _ _ => False) ⟨h, ge, dr, tk + 2, os⟩)
    (fin : ∀ vs news h tk, J n vs news → Fr h₀ L h (frm ks vs) → News h₀ L h news → Q .next ⟨h, ge, dr, tk, os⟩) :
    ForRest PR w A (envX cn cs L a ccd cl) (.Name x px) body Q (.ref I) ⟨h, ge, dr, tk, os⟩ := by
  subst hb
  have main : ∀ k i vs news h tk, i + k = n → J i vs news → Fr h₀ L h (frm ks vs) → News h₀ L h ((I, rngIt i ((n : Int) - i)) :: news) → (∀ p ∈ news, p.1 ≠ I) →
      ForRest PR w A (envX cn cs L a ccd cl) (.Name x px) body Q (.ref I) ⟨h, ge, dr, tk, os⟩ := by
    intro k
    induction k with
    | zero =>
      intro i vs news h tk hi hj F N off
      obtain rfl : i = n := by k_extra "OM"
      exact rng_end hh F N off (by k_extra "OM") fun h' F' N' => fin _ _ _ _ hj F' N'
    | succ k ih =>
      intro i vs news h tk hi hj F N off
      refine rng_item T F N off (by k_extra "OM") (put_set hx vs (hJ _ _ _ hj) (.int i tk)) fun h' F' N' => ?_
      have e1 : ((i : Int) + 1) = ((i + 1 : Nat) : Int) := by k_extra "OM"
      have e2 : ((n : Int) - i - 1) = ((n : Int) - (i + 1 : Nat)) := by k_extra "OM"
      rw [e1, e2] at N'
      refine wpAny_mono (step i vs news h' tk (by k_extra "OM") hj F' N' off) (fun fl s' he => ?_) fun _ _ y => y
      obtain ⟨h2, tk2, vs2, o2, news2, rfl, F2, N2, off2, rfl, hfl, hj2⟩ := he
      have r := ih (i + 1) vs2 news2 h2 tk2 (by k_extra "OM") hj2 F2 N2 off2
      rcases hfl with rfl | rfl
      · exact r
      · exact r
  exact main n 0 vs news h tk (by k_extra "OM") start F (by simpa using N) hI
theorem lst_inv (ys : List Value) (J : Nat → List (Option Value) → Led → Prop) {o : Obj} {n : Nat} (hh : A.handled = none) (T : LocTab cs ks) (F : Fr h₀ L h (frm ks vs)) (N : News h₀ L h ((I, o) :: news)) (hI : ∀ p ∈ news, p.1 ≠ I) (ho : LIt o l 0) (j : Nat) (hx : ks[j]? = some x)
    (hJ : ∀ i vs news, J i vs news → vs.length = ks.length ∧ (l, listOf ys.toArray n) ∈ news) (start : J 0 vs news)
    (step : ∀ i v vs news h tk o, ys[i]? = some v → J i vs news → Fr h₀ L h (frm ks (vs.set j (some v))) → News h₀ L h ((I, o) :: news) → LIt o l (i + 1) → (∀ p ∈ news, p.1 ≠ I) →
      wpAny (model PR w) A (execs body (envX cn cs L a ccd cl)) (TurnEnd h₀ L ks I (fun o => LIt o l (i + 1)) (fun fl vs news => (fl = .next ∨ fl = .cont) ∧ J (i + 1) vs news) ⟨h, ge, dr, tk, os⟩) (fun _ _ => False) ⟨h, ge, dr, tk + 1, os⟩)
    (fin : ∀ vs news h tk, J ys.length vs news → Fr h₀ L h (frm ks vs) → News h₀ L h news → Q .next ⟨h, ge, dr, tk, os⟩) :
    ForRest PR w A (envX cn cs L a ccd cl) (.Name x px) body Q (.ref I) ⟨h, ge, dr, tk, os⟩ := by
  have main : ∀ k i vs news h tk o, i + k = ys.length → J i vs news → Fr h₀ L h (frm ks vs) → News h₀ L h ((I, o) :: news) → LIt o l i → (∀ p ∈ news, p.1 ≠ I) →
      ForRest PR w A (envX cn cs L a ccd cl) (.Name x px) body Q (.ref I) ⟨h, ge, dr, tk, os⟩ := by
    intro k
    induction k with
    | zero =>
      intro i vs news h tk o hi hj F N ho off
      obtain rfl : i = ys.length := by k_extra "OM"
      exact lst_end hh F N ho off (hJ _ _ _ hj).2 (Nat.le_refl _) fun h' F' N' => fin _ _ _ _ hj F' N'
    | succ k ih =>
      intro i vs news h tk o hi hj F N ho off
      have hlt : i < ys.length := by k_extra "OM"
      have hv : ys[i]? = some ys[i] := List.getElem?_eq_getElem hlt
      refine lst_item T F N ho off (hJ _ _ _ hj).2 hv (put_set hx vs (hJ _ _ _ hj).1 ys[i]) fun h' o' F' N' ho' => ?_
      refine wpAny_mono (step i ys[i] vs news h' tk o' hv hj F' N' ho' off) (fun fl s' he => ?_) fun _ _ y => y
      obtain ⟨h2, tk2, vs2, o2, news2, rfl, F2, N2, off2, ho2, hfl, hj2⟩ := he
      have r := ih (i + 1) vs2 news2 h2 tk2 o2 (by k_extra "OM") hj2 F2 N2 ho2 off2
      rcases hfl with rfl | rfl
      · exact r
      · exact r
  exact main ys.length 0 vs news h tk o (by k_extra "OM") start F N ho hI
theorem lst_invR (ys : List Value) (J : Nat → List (Option Value) → Led → Prop) (R : Value → List (Option Value) → Led → Prop) {o : Obj} {n : Nat} (hh : A.handled = none) (T : LocTab cs ks) (F : Fr h₀ L h (frm ks vs)) (N : News h₀ L h ((I, o) :: news)) (hI : ∀ p ∈ news, p.1 ≠ I) (ho : LIt o l 0) (j : Nat) (hx : ks[j]? = some x)
    (hJ : ∀ i vs news, J i vs news → vs.length = ks.length ∧ (l, listOf ys.toArray n) ∈ news) (start : J 0 vs news)
    (step : ∀ i v vs news h tk o, ys[i]? = some v → J i vs news → Fr h₀ L h (frm ks (vs.set j (some v))) → News h₀ L h ((I, o) :: news) → LIt o l (i + 1) → (∀ p ∈ news, p.1 ≠ I) →
      wpAny (model PR w) A (execs body (envX cn cs L a ccd cl)) (TurnEnd h₀ L ks I (fun o => LIt o l (i + 1)) (fun fl vs news => (∃ r, fl = .ret r ∧ R r vs news) ∨ (fl = .next ∨ fl = .cont) ∧ J (i + 1) vs news) ⟨h, ge, dr, tk, os⟩) (fun _ _ => False) ⟨h, ge, dr, tk + 1, os⟩)
    (finr : ∀ r vs news h tk, R r vs news → Fr h₀ L h (frm ks vs) → News h₀ L h news → Q (.ret r) ⟨h, ge, dr, tk, os⟩)
    (fin : ∀ vs news h tk, J ys.length vs news → Fr h₀ L h (frm ks vs) → News h₀ L h news → Q .next ⟨h, ge, dr, tk, os⟩) :
    ForRest PR w A (envX cn cs L a ccd cl) (.Name x px) body Q (.ref I) ⟨h, ge, dr, tk, os⟩ := by
  have main : ∀ k i vs news h tk o, i + k = ys.length → J i vs news → Fr h₀ L h (frm ks vs) → News h₀ L h ((I, o) :: news) → LIt o l i → (∀ p ∈ news, p.1 ≠ I) →
      ForRest PR w A (envX cn cs L a ccd cl) (.Name x px) body Q (.ref I) ⟨h, ge, dr, tk, os⟩ := by
    intro k
    induction k with
    | zero =>
      intro i vs news h tk o hi hj F N ho off
      obtain rfl : i = ys.length := by k_extra "OM"
      exact lst_end hh F N ho off (hJ _ _ _ hj).2 (Nat.le_refl _) fun h' F' N' => fin _ _ _ _ hj F' N'
    | succ k ih =>
      intro i vs news h tk o hi hj F N ho off
      have hlt : i < ys.length := by k_extra "OM"
      have hv : ys[i]? = some ys[i] := List.getElem?_eq_getElem hlt
      refine lst_item T F N ho off (hJ _ _ _ hj).2 hv (put_set hx vs (hJ _ _ _ hj).1 ys[i]) fun h' o' F' N' ho' => ?_
      refine wpAny_mono (step i ys[i] vs news h' tk o' hv hj F' N' ho' off) (fun fl s' he => ?_) fun _ _ y => y
      obtain ⟨h2, tk2, vs2, o2, news2, rfl, F2, N2, off2, ho2, ⟨r, rfl, hr⟩ | ⟨hfl, hj2⟩⟩ := he
      · exact finr r vs2 news2 h2 tk2 hr F2 fun p hp => N2 p (List.mem_cons_of_mem _ hp)
      have r := ih (i + 1) vs2 news2 h2 tk2 o2 (by k_extra "OM") hj2 F2 N2 ho2 off2
      rcases hfl with rfl | rfl
      · exact r
      · exact r
  exact main ys.length 0 vs news h tk o (by k_extra "OM") start F N ho hI
theorem lst_invT {elts : List PySem.Expr} {x1 : Nat} {pos : Pos} (ys : List Value) (J : Nat → List (Option Value) → Led → Prop) {o : Obj} {n : Nat} (hh : A.handled = none) (F : Fr h₀ L h (frm ks vs)) (N : News h₀ L h ((I, o) :: news)) (hI : ∀ p ∈ news, p.1 ≠ I) (ho : LIt o l 0) (hr : ∀ (i : Nat) v, ys[i]? = some v → ∃ q, v = .ref q)
    (hJ : ∀ i vs news, J i vs news → (l, listOf ys.toArray n) ∈ news) (start : J 0 vs news)
    (step : ∀ i v vs news h tk o, ys[i]? = some v → J i vs news → Fr h₀ L h (frm ks vs) → News h₀ L h ((I, o) :: news) → LIt o l (i + 1) → (∀ p ∈ news, p.1 ≠ I) →
      wpAny (model PR w) A (assign (.Tuple elts x1 pos) (envX cn cs L a ccd cl) v) (fun _ s₂ => wpAny (model PR w) A (execs body (envX cn cs L a ccd cl)) (TurnEnd h₀ L ks I (fun o => LIt o l (i + 1)) (fun fl vs news => (fl = .next ∨ fl = .cont) ∧ J (i + 1) vs news) ⟨h, ge, dr, tk, os⟩) (fun _ _ => False) s₂) (fun _ _ => False) ⟨h, ge, dr, tk, os⟩)
    (fin : ∀ vs news h tk, J ys.length vs news → Fr h₀ L h (frm ks vs) → News h₀ L h news → Q .next ⟨h, ge, dr, tk, os⟩) :
    ForRest PR w A (envX cn cs L a ccd cl) (.Tuple elts x1 pos) body Q (.ref I) ⟨h, ge, dr, tk, os⟩ := by
  have main : ∀ k i vs news h tk o, i + k = ys.length → J i vs news → Fr h₀ L h (frm ks vs) → News h₀ L h ((I, o) :: news) → LIt o l i → (∀ p ∈ news, p.1 ≠ I) →
      ForRest PR w A (envX cn cs L a ccd cl) (.Tuple elts x1 pos) body Q (.ref I) ⟨h, ge, dr, tk, os⟩ := by
    intro k
    induction k with
    | zero =>
      intro i vs news h tk o hi hj F N ho off
      obtain rfl : i = ys.length := by k_extra "OM"
      exact lst_end hh F N ho off (hJ _ _ _ hj) (Nat.le_refl _) fun h' F' N' => fin _ _ _ _ hj F' N'
    | succ k ih =>
      intro i vs news h tk o hi hj F N ho off
      have hlt : i < ys.length := by k_extra "OM"
      have hv : ys[i]? = some ys[i] := List.getElem?_eq_getElem hlt
      refine lst_item_any F N ho off (hJ _ _ _ hj) hv (fun h' o' F' N' ho' => ?_) (fun h' o' Q' e1 e2 hq => ?_)
      · refine wpAny_mono (step i ys[i] vs news h' tk o' hv hj F' N' ho' off) (fun _ s₂ h₂ => wpAny_mono h₂ (fun fl s' he => ?_) fun _ _ y => y) fun _ _ y => y
        obtain ⟨h2, tk2, vs2, o2, news2, rfl, F2, N2, off2, ho2, hfl, hj2⟩ := he
        have r := ih (i + 1) vs2 news2 h2 tk2 o2 (by k_extra "OM") hj2 F2 N2 ho2 off2
        rcases hfl with rfl | rfl
        · exact r
        · exact r
      · obtain ⟨q, hq'⟩ := hr i _ hv
        rw [hq']
        exact wpAny_letOwnedTupleGo_listiter ⟨o', e1, e2.1, e2.2⟩ hq
  exact main ys.length 0 vs news h tk o (by k_extra "OM") start F N ho hI
end
theorem whl_rec {w : World} {A : Around} {env : Env} {h₀ h : Heap} {L : Addr} {ge : Array GenState} {dr : Drawn} {tk : Nat} {os : OsState} {news : Led} {ks : List Str} {vs : List (Option Value)} {test : PySem.Expr} {body orelse : List Stmt} {Q : Flow → Shared → Prop}
    (J : Nat → List (Option Value) → Led → Prop) (k : Nat) (F : Fr h₀ L h (frm ks vs)) (N : News h₀ L h news) (start : J k vs news)
    (step : ∀ k vs news h tk, J k vs news → Fr h₀ L h (frm ks vs) → News h₀ L h news →
      (∀ k' vs news h tk, k' < k → J k' vs news → Fr h₀ L h (frm ks vs) → News h₀ L h news → WhlRest PR w A (fun _ _ => False) env test body orelse Q 0 ⟨h, ge, dr, tk, os⟩) →
      WhlRest PR w A (fun _ _ => False) env test body orelse Q 0 ⟨h, ge, dr, tk, os⟩) :
    WhlRest PR w A (fun _ _ => False) env test body orelse Q 0 ⟨h, ge, dr, tk, os⟩ := by
  have main : ∀ b k vs news h tk, k < b → J k vs news → Fr h₀ L h (frm ks vs) → News h₀ L h news → WhlRest PR w A (fun _ _ => False) env test body orelse Q 0 ⟨h, ge, dr, tk, os⟩ := by
    intro b
    induction b with
    | zero => intro k _ _ _ _ hk; omega
    | succ b ih => exact fun k vs news h tk hk hj F N => step k vs news h tk hj F N fun k' vs news h tk hk' hj F N => ih k' vs news h tk (by k_extra "OM") hj F N
  exact main (k + 1) k vs news h tk (Nat.lt_succ_self _) start F N
theorem ki_setL_of : ∀ {vs : List Value} {k : Nat} {v : Value}, k < vs.length → ki_setL vs k v = some (vs.set k v)
  | [], _, _, h => by simp at h
  | _ :: _, 0, _, _ => rfl
  | x :: r, k + 1, v, h => by
    have := ki_setL_of (vs := r) (k := k) (v := v) (by simpa using h)
    simp [ki_setL, this]
section
variable {w : World} {A : Around} {E : Value → Shared → Prop} {s : Shared} {h₀ h : Heap} {L l : Addr} {m : Str → Option Value} {ge : Array GenState} {dr : Drawn} {tk n : Nat} {os : OsState} {news news' : Led} {vs : List Value} {v : Value} {k : Int} {u : Tok}
theorem sub_any {value slice : PySem.Expr} {Q : Value → Shared → Prop} (N : News h₀ L s.heap news) (hm : (l, listOf vs.toArray n) ∈ news) (hx : vs[k.toNat]? = some v) (h0 : 0 ≤ k) (hhi : k < 2 ^ 63) (q : Q v s)
    (hs : subscripted slice false (.ref l) (.int k u) = operate [.ref l, .int k u] (getItem (.ref l) (.int k u))) :
    wpAny (model PR w) A (subscriptTail value slice (.ref l) (.int k u)) Q E s :=
  item_litK (News.isList N hm) h0 hhi hx q hs
theorem lset {Q : Unit → Shared → Prop} (F : Fr h₀ L h m) (N : News h₀ L h news) (U : Upd l (listOf vs.toArray n) (listOf (vs.set k.toNat v).toArray n) news news') (h0 : 0 ≤ k) (hk : k < vs.length) (hz : vs.length < 1000)
    (q : ∀ h', Fr h₀ L h' m → News h₀ L h' news' → Q () ⟨h', ge, dr, tk, os⟩) : wpAny (model PR w) A (setItem (.ref l) (.int k u) v) Q E ⟨h, ge, dr, tk, os⟩ :=
  ki_set (s := ⟨h, ge, dr, tk, os⟩) F N h0 (by k_extra "OM") (ki_setL_of (vs := vs) (by k_extra "OM")) U q
end
structure MethOk (w : World) (C : Addr) (name : Str) (f : Addr) : Prop where
  get : plainGet (Mine.hd.heap_39 w.params) C name = true
  find : findIn (Mine.hd.heap_39 w.params) (.ref C) name = some (some (.ref f))
  fn : isFn (Mine.hd.heap_39 w.params) (.ref f) = true
section
variable {w : World} {A : Around} {E : Value → Shared → Prop} {h₀ h : Heap} {L x dx C f : Addr} {m : Str → Option Value}
  {ge : Array GenState} {dr : Drawn} {tk n : Nat} {os : OsState} {news own : Led} {ks : List Str} {tvs : List (Tok × Value)} {name : Str} {pl : Sem Bool} {Q : Value × List Value → Shared → Prop}
theorem meth_mem (F : Fr h₀ L h m) (X : (Mine.hd.heap_39 w.params).In h₀) (N : News h₀ L h news) (hx : (x, instObj C dx) ∈ news) (hd : (dx, dictOf (ents w.params ks tvs) n) ∈ news) (mo : MethOk w C name f) (hl : ks.length = tvs.length) (hn : ks.contains name = false)
    (q : Q (.ref f, [.ref x]) ⟨h, ge, dr, tk, os⟩) : wpAny (model PR w) A (getMethod (.ref x) name pl) Q E ⟨h, ge, dr, tk, os⟩ :=
  method_inst (s := ⟨h, ge, dr, tk, os⟩) F X (InstAt.of_news N hx hd) mo.get mo.find mo.fn (getL_new hl (by simpa using hn)) q
theorem meth_rec (F : Fr h₀ L h m) (X : (Mine.hd.heap_39 w.params).In h₀) (N : News h₀ L h news) (R : Rec w own x C ks tvs) (sub : ∀ p ∈ own, p ∈ news) (mo : MethOk w C name f) (hl : ks.length = tvs.length) (hn : ks.contains name = false)
    (q : Q (.ref f, [.ref x]) ⟨h, ge, dr, tk, os⟩) : wpAny (model PR w) A (getMethod (.ref x) name pl) Q E ⟨h, ge, dr, tk, os⟩ :=
  let ⟨_, _, h1, h2⟩ := R
  meth_mem F X N (sub _ h1) (sub _ h2) mo hl hn q
end
section
variable (w : World)
theorem mo_exact : MethOk w 110 (Str.ofString "exact") 74 := ⟨by k_is, by k_is, by k_is⟩
theorem mo_partial : MethOk w 110 (Str.ofString "partial") 81 := ⟨by k_is, by k_is, by k_is⟩
theorem mo_partial_of : MethOk w 110 (Str.ofString "partial_of") 88 := ⟨by k_is, by k_is, by k_is⟩
theorem mo_positional : MethOk w 110 (Str.ofString "positional") 95 := ⟨by k_is, by k_is, by k_is⟩
theorem mo_is_free : MethOk w 110 (Str.ofString "is_free") 102 := ⟨by k_is, by k_is, by k_is⟩
theorem mo_rest : MethOk w 110 (Str.ofString "rest") 107 := ⟨by k_is, by k_is, by k_is⟩
end
theorem bindL_filter (kindOf : Str → Option NameKind) : ∀ (binds : List (Str × Value)) (m : Str → Option Value), bindL kindOf binds m = fun y => ((binds.filter fun b => decide (kindOf b.1 = some .local)).reverse.lookup y).or (m y)
  | [], m => by funext y; simp [bindL]
  | (n, v) :: r, m => by
    rw [bindL, bindL_filter kindOf r]
    funext y
    by_cases h : kindOf n = some .local
    · simp only [h, if_true, List.filter_cons, decide_true, List.reverse_cons, List.lookup_append]
      cases (List.filter (fun b => decide (kindOf b.1 = some NameKind.local)) r).reverse.lookup y with
      | some z => simp
      | none =>
        by_cases e : y = n
        · subst e; simp [List.lookup]
        · have : (y == n) = false := by simpa using e
          simp [List.lookup, this, e]
    · simp [h, List.filter_cons]
section
variable {w : World} {mean : ExcName → Option Value} {mg mb : Str → Option Value} {n : Nat} {f : Addr} {vs : List Value} {news : Led} {Post : Value → Led → Prop}
theorem tellC_of1 {name qual : Str} {params : Arguments} {body : List Stmt} {scope : Scope} {dV kV doc pm cdv ct oc : Value} {an od : Option Addr} {osl : Array (Option Value)} (binds : List (Str × Value)) (cx : Str) (cv : Option Value) (ps : List Str) (vals : List Value) (rest gs : List Str)
    (ho : (Mine.hd.heap_39 w.params).lookup f = some ⟨oc, od, .func (fnX name qual params body scope [] dV kV doc pm an cdv ct), osl⟩) (hcd : codeIn (Mine.hd.heap_39 w.params) cdv qual = true)
    (hbind : ∀ h : Heap, (Mine.hd.heap_39 w.params).In h → ∀ s : Shared, s.heap = h → BindsTo s (fnX name qual params body scope [] dV kV doc pm an cdv ct) ⟨vs, []⟩ binds)
    (hcf : ∀ n, cellsFrom n scope.names [] = [(cx, n)]) (hfl : (binds.filter fun b => decide (scope.names.lookup b.1 = some .local)) = ps.zip vals) (hcv : bindC (fun x => scope.names.lookup x) binds (fun _ => none) cx = cv)
    (hkd : ∀ x ∈ binds, scope.names.lookup x.1 = some .local ∨ (scope.names.lookup x.1 = some .cell ∧ x.1 = cx))
    (hlen : ps.length = vals.length) (hloc : locTab scope (ps ++ rest) = true) (hglob : globTab scope gs = true) (hco : scope.isCoroutine = false) (hgen : scope.isGenerator = false)
    (R : LocTab scope (ps ++ rest) → GlobTab scope gs → ∀ (dp un : Nat) (gd : Option (List Code)) (outer : List Env) (A₀ : Around) (base g : Heap) (L c : Addr) (oc : Obj) (s : Shared),
      Below A₀ base outer g → Fr g L s.heap (frm (ps ++ rest) (vals.map some ++ rest.map fun _ => none)) → (Mine.hd.heap_39 w.params).In g → News g L s.heap ((c, oc) :: news) → oc.data = .cell cv → (∀ p ∈ news, p.1 < c) → Top VW LO mean mg mb g → dp + n < recursionLimit → un + 8 * n < cLine →
      wpAny (model PR w) (ktrTop dp un gd qual scope L f cdv [(cx, c)] outer) (execs body (envX qual scope L f cdv [(cx, c)])) (RunEnd g L (fun fl _ news' => Post (retOf fl) news') s) (fun _ _ => False) s) :
    TellC w mean mg mb (n + 1) f vs news Post := by
  intro dp un gd cn cs a ccd cl outer A₀ base h₀ L m s Q B F X N T hkf hd hu hret
  have LT := LocTab.of hloc
  have GT := GlobTab.of hglob
  have hX := X.keeps F.keep
  refine callX_cells B F N T.nolimit rfl rfl hkf (hX _ _ ho) rfl (codeRec_of hX hcd) (show dp < recursionLimit by k_extra "OM") (hbind _ hX s rfl)
    (fun k y hy => ?_) (by rw [hcf]; simp) (fun g L' h₁ tk cells FG F' N' Y B' st hlt => ?_) hco hgen LT.kind
  · rcases hkd y hy with h | ⟨h, e⟩
    · exact .inl h
    · exact .inr ⟨h, by rw [hcf, e]; simp [List.lookup]⟩
  rw [hcf] at Y
  obtain ⟨o, rfl, ho'⟩ := Y.one
  have e1 : bindL (envOfC qual scope L' f cdv).kindOf binds (fun _ => none) = frm (ps ++ rest) (vals.map some ++ rest.map fun _ => none) := by
    rw [bindL_filter]
    rw [show (binds.filter fun b => decide ((envOfC qual scope L' f cdv).kindOf b.1 = some .local)) = ps.zip vals from hfl]
    rw [← frm_binds ps vals rest (List.nodup_append.mp LT.dup).1 hlen]
    funext y
    simp
  rw [e1] at F'
  have e2 : envOfC qual scope L' f cdv = envX qual scope L' f cdv [(cx, L' + 1)] := by
    show envX qual scope L' f cdv (cellsFrom (L' + 1) scope.names []) = _
    rw [hcf]
  rw [e2]
  refine wpAny_mono (R LT GT (dp + 1) (un + 3) gd (envX cn cs L a ccd cl :: outer) _ base g L' (L' + 1) o _ B' F' (X.keeps st) N' (ho'.trans (congrArg _ hcv)) (fun p hp => Nat.lt_succ_of_lt (hlt p hp)) (T.keeps st) (by k_extra "OM") (by k_extra "OM")) (fun fl s' he => ?_) fun _ _ y => y.elim
  obtain ⟨h', tk', m', news', e, F₂, N₂, p⟩ := he
  subst e
  refine leaveK_ F₂ N₂ fun F₃ N₃ => ?_
  refine hret _ _ _ _ F₃ N₃ ?_
  cases fl <;> exact p
end
section
variable {w : World} {A : Around} {E : Value → Shared → Prop} {s : Shared} {h₀ : Heap} {L a : Addr} {m : Str → Option Value} {cn : Str} {cs : Scope} {ccd : Value} {c : Addr} {x : Str} {pos : Pos} {v : Value} {news : Led} {o : Obj}
theorem nm_C {Q : Value → Shared → Prop} (hk : cs.kind = .function) (hx : cs.names.lookup x = some .cell) (hb : (x == ("__debug__" : Str)) = false) (N : News h₀ L s.heap news) (hm : (c, o) ∈ news) (hd : o.data = .cell (some v)) (h : Q v s) :
    wpAny (model PR w) A (eval (.Name x pos) (envX cn cs L a ccd [(x, c)])) Q E s :=
  nameX_C N (by simp [List.lookup]) hm hd h hk hx hb
end
end SKFor
theorem reg_k_upd_macrosk : True := by
  k_with "k_upd_macrosk" => (first | (with_reducible refine' DropF.head ?zqa; (case zqa => k_all)) | (with_reducible refine' DropF.tail ?zqa ?zqb; (case zqa => k_ne); (case zqb => k_upd)))
  trivial
local macro_rules | `(tactic| k_upd) => `(tactic| k_extra "k_upd_macrosk")
theorem reg_macros_k : True := by
  k_with "kpt_turns" => (first
  | ((with_reducible refine' for_start ?_ ?zqhs); (case zqhs => intro _; rfl)))
  k_with "kat_tups" => (first
  | ((with_reducible refine' it_lst ?zqF ?zqN ?zqhl ?_); (case zqF => k_asm); (case zqN => k_asm); (case zqhl => k_extra "allgen_close_more"); intro zqh' zqI' zqo' zqF' zqN' zqho' zql1; (try (k_extra "ALl1")); (try k_sweep))
  | ((with_reducible refine' it_rng ?zqF ?zqN ?zqhr ?zqha ?zqhab ?zqhb ?_); (case zqhr => assumption); (case zqha => first | decide | k_extra "OM"); (case zqhab => k_extra "OM"); (case zqhb => k_extra "OM"); (case zqF => k_asm); (case zqN => k_asm); intro zqh' zqI' zqF' zqN' zql1; (try (k_extra "ALl1")); (try k_sweep)))
  k_with "o_fieldsN" => (first
  | (with_reducible refine for_post ?_)
  | (with_reducible refine for_post_c ?_)
  | (with_reducible refine for_post_b ?_)
  | (with_reducible refine for_post_r ?_))
  k_with "k_caught0" => (first
  | ((with_reducible refine' lst_itemU ?zqT ?zqF ?zqN ?zqU ?zqho ?zqhl ?zqhv ?zqhp ?_); (case zqho => assumption); (case zqT => assumption); (case zqF => k_asm); (case zqN => k_asm); (case zqU => k_updF); (case zqhl => k_extra "allgen_close_more"); (case zqhv => rfl); (case zqhp => k_extra "allgen_close2_more"); intro zqh' zqo' zqF' zqN' zqho'; (try k_sweep))
  | ((with_reducible refine' lst_endU ?zqhh ?zqF ?zqN ?zqU ?zqD ?zqho ?zqhl ?zqhv ?_); (case zqhh => rfl); (case zqho => assumption); (case zqF => k_asm); (case zqN => k_asm); (case zqU => k_updF); (case zqD => k_upd); (case zqhl => k_extra "allgen_close_more"); (case zqhv => exact Nat.le_of_ble_eq_true rfl); intro zqh' zqF' zqN'; (try k_sweep)))
  k_with "kct_strs" => (first
  | ((with_reducible refine' d_in ?zqN ?zqhp ?zqhd ?zqlo _ ?zqhb ?_); (case zqN => k_asm); (case zqhp => k_extra "allgen_close_more"); (case zqhd => assumption); (case zqlo => assumption); (case zqhb => first | assumption | exact rfl))
  | ((with_reducible refine' d_notin ?zqN ?zqhp ?zqhd ?zqlo _ ?zqhb ?_); (case zqN => k_asm); (case zqhp => k_extra "allgen_close_more"); (case zqhd => assumption); (case zqlo => assumption); (case zqhb => first | assumption | exact rfl)))
  k_with "kat_tups" => (first
  | ((with_reducible refine' d_set ?zqF ?zqN ?zqU ?zqhd ?zqhz ?zqe ?_); (case zqF => k_asm); (case zqN => k_asm); (case zqhd => assumption); (case zqU => k_updF); (case zqhz => first | assumption | k_extra "OM"); (case zqe => exact rfl); intro zqh' zqo' zqF' zqN' zqhd'; (try k_sweep))
  | ((with_reducible refine' lset ?zqF ?zqN ?zqU ?zqh0 ?zqhk ?zqhz ?_); (case zqF => k_asm); (case zqN => k_asm); (case zqU => k_upd); (case zqh0 => first | assumption | k_extra "OM"); (case zqhk => first | assumption | k_extra "OM"); (case zqhz => first | assumption | k_extra "OM"); intro zqh' zqF' zqN'; (try k_sweep)))
  k_with "kp_flats" => (first
  | ((with_reducible refine' sub_any ?zqN ?zqhm ?zqhx ?zqh0 ?zqh1 ?_ ?zqks); (case zqks => with_unfolding_all rfl); (case zqN => k_asm); (case zqhm => k_extra "allgen_close_more"); (case zqhx => first | rfl | assumption); (case zqh0 => first | assumption | k_extra "OM"); (case zqh1 => k_extra "OM")))
  k_with "tb_rel" => (first | (with_reducible exact mo_exact _) | (with_reducible exact mo_partial _) | (with_reducible exact mo_partial_of _) | (with_reducible exact mo_positional _) | (with_reducible exact mo_is_free _) | (with_reducible exact mo_rest _))
  k_with "kat_tups" => (first
  | ((with_reducible show wpAny _ _ (getMethod (Value.ref _) _ _) _ _ _); first
  | ((with_reducible refine' meth_mem ?zqF ?zqX ?zqN ?zqhx ?zqhd ?zqmo ?zqhl ?zqhn ?_); (case zqF => k_asm); (case zqX => k_asm); (case zqN => k_asm); (case zqhx => k_extra "allgen_close_more"); (case zqhd => k_extra "allgen_close_more"); (case zqmo => k_extra "tb_rel"); (case zqhl => rfl); (case zqhn => decide +kernel))
  | ((with_reducible refine' meth_rec ?zqF ?zqX ?zqN ?zqR ?zqsub ?zqmo ?zqhl ?zqhn ?_); (case zqF => k_asm); (case zqX => k_asm); (case zqN => k_asm); (case zqR => assumption); (case zqsub => repeat (first | (with_reducible exact subRefl) | (with_reducible exact subLeft) | (with_reducible refine' subTail ?_) | (with_reducible refine' subApp ?_))); (case zqmo => k_extra "tb_rel"); (case zqhl => rfl); (case zqhn => decide +kernel))))
  k_with "k_caughtB" => (first | (with_reducible assumption) | (with_reducible exact Rec.mono (by with_reducible assumption) (by repeat (first | (with_reducible exact subRefl) | (with_reducible exact subLeft) | (with_reducible refine' subTail ?_) | (with_reducible refine' subApp ?_)))) | (with_reducible exact KindRec.mono (by with_reducible assumption) (by repeat (first | (with_reducible exact subRefl) | (with_reducible exact subLeft) | (with_reducible refine' subTail ?_) | (with_reducible refine' subApp ?_)))))
  k_with "kfm_turns" => (first
  | ((with_reducible refine' nm_C ?zqhk ?zqhx ?zqhb ?zqN ?zqhm ?zqhd ?_); (case zqhk => rfl); (case zqhx => rfl); (case zqhb => decide); (case zqN => k_asm); (case zqhm => k_extra "allgen_close_more"); (case zqhd => assumption)))
  k_with "kp_flats" => (first
  | ((with_reducible refine' d_item ?zqN ?zqhp ?zqhd ?zqhl ?_ ?zqhs ?zqhg); (case zqhs => with_unfolding_all rfl); (case zqhg => intro _; rfl); (case zqN => k_asm); (case zqhp => k_extra "allgen_close_more"); (case zqhd => assumption); (case zqhl => assumption)))
  trivial
section SKComp
theorem off1_of {D : Addr} : ∀ {l : Led}, (∀ p ∈ l, p.1 ≠ D) → LCg.Off1 D l
  | [], _ => trivial
  | _ :: _, h => ⟨h _ List.mem_cons_self, off1_of fun p hp => h p (List.mem_cons_of_mem _ hp)⟩
section
variable {w : World} {A : Around} {E : Value → Shared → Prop} {s : Shared} {h₀ : Heap} {L C a : Addr} {m m₂ : Str → Option Value} {news : Led} {scope : Scope} {cl : List (Str × Addr)} {cn : Str} {cs : Scope} {ccd : Value} {cl' : List (Str × Addr)} {x : Str} {pos : Pos} {v : Value} {oC : Obj} {Q : Value → Shared → Prop} {mean : ExcName → Option Value} {mg mb : Str → Option Value}
theorem nm_GC (gv : GV w x v) (F : Fr h₀ L s.heap m) (X : (Mine.hd.heap_39 w.params).In h₀) (Tp : Top VW LO mean mg mb h₀) (h : Q v s)
    (hk : (compEnvC scope cl C (envX cn cs L a ccd cl')).scope.kind = .function) (hx : (compEnvC scope cl C (envX cn cs L a ccd cl')).kindOf x = some .globalImplicit) (hd : (x == ("__debug__" : Str)) = false) :
    wpAny (model PR w) A (eval (.Name x pos) (compEnvC scope cl C (envX cn cs L a ccd cl'))) Q E s := by
  rcases gv with e | ⟨e, e1, e2⟩
  · exact LCgL.ld_global F X Tp e h rfl hk hx hd
  · exact LCgL.ld_built F X Tp e e1 e2 h rfl rfl hk hx hd
end
theorem compEnd {h₀ : Heap} {L I C D : Addr} {m : Str → Option Value} {s₁ : Shared} {oI oC oD : Obj} {S : Led → Prop} {rest : Value → Led → Prop} {y : Value} {h' : Heap} {tk : Nat} {all : Led}
    (F : Fr h₀ L h' m) (N : News h₀ L h' all) (news' : Led) (hI : (I, oI) ∈ all) (hC : (C, oC) ∈ all) (hD : (D, oD) ∈ all) (sub : ∀ p ∈ news', p ∈ all) (off : LCg.Off3 I C D news') (hS : S news') (r : rest y news') :
    LCg.CompEnd h₀ L m s₁ I oI C oC D oD S rest y { s₁ with heap := h', toks := tk } :=
  LCg.CompEnd.intro F N news' (fun p hp => by
    rcases List.mem_cons.mp hp with rfl | hp
    · exact hI
    · rcases List.mem_cons.mp hp with rfl | hp
      · exact hC
      · rcases List.mem_cons.mp hp with rfl | hp
        · exact hD
        · exact sub p hp) off hS r
section
variable {w : World} {A : Around} {E : Value → Shared → Prop} {s : Shared} {h₀ : Heap} {L : Addr} {m : Str → Option Value} {env : Env} {elt ct iter : PySem.Expr} {x : Str} {px : Pos} {scope : Scope} {cl : List (Str × Addr)} {pos : Pos} {Q : Value → Shared → Prop}
theorem comp_T (F₀ : Fr h₀ L s.heap m)
    (hclos : closureFor scope env = pure cl) (hcell : ∀ y ∈ scope.names, y.2 ≠ .cell) (hkind : scope.kind = .function)
    (hnames : ∀ y ∈ scope.names, y.2 = .local → scope.names.lookup y.1 = some .local) (hx : scope.names.lookup x = some .local)
    (h : wpAny (model PR w) A (eval iter env) (fun xv s₁ => Stop (LCt.CompSrcT PR w A h₀ L m env ct elt x scope cl (fun s₂ => LCg.FinE h₀ L m s₂ Q) xv s₁)) E s)
    (hs : ∀ x, foldedSetIterable iter env x = pure x) :
    wpAny (model PR w) A (eval (.ListComp elt [⟨.Name x px, iter, [ct], 0⟩] scope pos) env) Q E s := LCt.ListComp_T F₀ hclos hcell hkind hnames hx h hs
theorem comp_UA {y : Str} {py spos : Pos} {Q : Flow → Shared → Prop} (F₀ : Fr h₀ L s.heap m) (hLe : env.locals = L)
    (hsw : swapsWith (.ListComp elt [⟨.Name x px, iter, [], 0⟩] scope pos) (some (.Name y py)) spos.line env = pure true)
    (hclos : closureFor scope env = pure cl) (hcell : ∀ z ∈ scope.names, z.2 ≠ .cell) (hkind : scope.kind = .function)
    (hnames : ∀ z ∈ scope.names, z.2 = .local → scope.names.lookup z.1 = some .local) (hx : scope.names.lookup x = some .local)
    (hy : env.kindOf y = some .local) (hp : (env.scope.kind == .class || (env.scope.kind == .module && env.locals != env.globals)) = false)
    (h : wpAny (model PR w) A (eval iter env) (fun xv s₁ => Stop (LCg.CompSrc PR w A h₀ L m env elt x scope cl (fun s₂ => LCg.FinA h₀ L m s₂ y Q) xv s₁)) E s)
    (hs : ∀ x, foldedSetIterable iter env x = pure x) :
    wpAny (model PR w) A (exec (.Assign [.Name y py] (.ListComp elt [⟨.Name x px, iter, [], 0⟩] scope pos) spos) env) Q E s := LCg.Assign_ListComp_U F₀ hLe hsw hclos hcell hkind hnames hx hy hp h hs
theorem comp_U (F₀ : Fr h₀ L s.heap m)
    (hclos : closureFor scope env = pure cl) (hcell : ∀ y ∈ scope.names, y.2 ≠ .cell) (hkind : scope.kind = .function)
    (hnames : ∀ y ∈ scope.names, y.2 = .local → scope.names.lookup y.1 = some .local) (hx : scope.names.lookup x = some .local)
    (h : wpAny (model PR w) A (eval iter env) (fun xv s₁ => Stop (LCg.CompSrc PR w A h₀ L m env elt x scope cl (fun s₂ => LCg.FinE h₀ L m s₂ Q) xv s₁)) E s)
    (hs : ∀ x, foldedSetIterable iter env x = pure x) :
    wpAny (model PR w) A (eval (.ListComp elt [⟨.Name x px, iter, [], 0⟩] scope pos) env) Q E s := LCg.ListComp_U F₀ hclos hcell hkind hnames hx h hs
end
section
variable {w : World} {A : Around} {s : Shared} {h₀ : Heap} {L : Addr} {m : Str → Option Value} {env : Env} {elt ct : PySem.Expr} {x : Str} {scope : Scope} {cl : List (Str × Addr)} {S : Led → Prop} {P : Nat → Value → Prop} {Fin : List Value → Led → Prop} {news : Led}
theorem compEnd_mono {I C D : Addr} {oI oC oD : Obj} {rest rest' : Value → Led → Prop} {y : Value} {s' : Shared} (h : LCg.CompEnd h₀ L m s I oI C oC D oD S rest y s') (k : ∀ y n, rest y n → rest' y n) : LCg.CompEnd h₀ L m s I oI C oC D oD S rest' y s' :=
  let ⟨h', tk, news', e, F, N, off, hS, r⟩ := h; ⟨h', tk, news', e, F, N, off, hS, k _ _ r⟩
theorem compT_inv {n : Nat} (J : Nat → List Value → Led → Prop) (start : J 0 [] news)
    (step : ∀ i ys news v I oI C oC D m₂ h tk (E' : Value → Shared → Prop), i < n → J i ys news → P i v → LCg.NsObj oC m₂ → m₂ x = some v → Fr h₀ L h m → News h₀ L h ((I, oI) :: (C, oC) :: (D, LCg.lst ys) :: news) → LCg.Off3 I C D news → ((@Ne Nat I C) ∧ (@Ne Nat I D) ∧ (@Ne Nat C D)) →
      wpAny (model PR w) A (isTrue ct (compEnvC scope cl C env) (eval ct (compEnvC scope cl C env))) (fun ok s' => if ok = true then
        wpAny (model PR w) A (eval elt (compEnvC scope cl C env)) (LCg.CompEnd h₀ L m { s with heap := h, toks := tk } I oI C oC D (LCg.lst ys) S (fun y news' => J (i + 1) (ys ++ [y]) news')) E' s'
        else LCg.CompEnd h₀ L m { s with heap := h, toks := tk } I oI C oC D (LCg.lst ys) S (fun _ news' => J (i + 1) ys news') Value.none s') E' { s with heap := h, toks := tk })
    (fin : ∀ ys news, J n ys news → Fin ys news) : LCt.CompRestT PR w A h₀ L m env ct elt x scope cl s S P Fin n 0 [] news := by
  have main : ∀ k i ys news, i + k = n → J i ys news → LCt.CompRestT PR w A h₀ L m env ct elt x scope cl s S P Fin k i ys news := by
    intro k
    induction k with
    | zero =>
      intro i ys news hi hj
      obtain rfl : i = n := by k_extra "OM"
      exact LCt.CompRestT.zero (fin _ _ hj)
    | succ k ih =>
      intro i ys news hi hj
      refine LCt.CompRestT.succ ?_
      intro v I oI C oC D m₂ h tk E' hP hC hx F N off ne
      refine wpAny_mono (step i ys news v I oI C oC D m₂ h tk E' (by k_extra "OM") hj hP hC hx F N off ne) (fun ok s' hq => ?_) fun _ _ e => e
      cases ok with
      | true =>
        simp only [if_true] at hq ⊢
        exact wpAny_mono hq (fun y s₂ hr => compEnd_mono hr fun y n hJ => ih (i + 1) _ _ (by k_extra "OM") hJ) fun _ _ e => e
      | false =>
        simp only [Bool.false_eq_true, if_false] at hq ⊢
        exact compEnd_mono hq fun y n hJ => ih (i + 1) _ _ (by k_extra "OM") hJ
  exact main n 0 [] news (by k_extra "OM") start
theorem compU_inv {n : Nat} (J : Nat → List Value → Led → Prop) (start : J 0 [] news)
    (step : ∀ i ys news v I oI C oC D m₂ h tk (E' : Value → Shared → Prop), i < n → J i ys news → P i v → LCg.NsObj oC m₂ → m₂ x = some v → Fr h₀ L h m → News h₀ L h ((I, oI) :: (C, oC) :: (D, LCg.lst ys) :: news) → LCg.Off3 I C D news → ((@Ne Nat I C) ∧ (@Ne Nat I D) ∧ (@Ne Nat C D)) →
      wpAny (model PR w) A (eval elt (compEnvC scope cl C env)) (LCg.CompEnd h₀ L m { s with heap := h, toks := tk } I oI C oC D (LCg.lst ys) S (fun y news' => J (i + 1) (ys ++ [y]) news')) E' { s with heap := h, toks := tk })
    (fin : ∀ ys news, J n ys news → Fin ys news) : LCg.CompRest PR w A h₀ L m env elt x scope cl s S P Fin n 0 [] news := by
  have main : ∀ k i ys news, i + k = n → J i ys news → LCg.CompRest PR w A h₀ L m env elt x scope cl s S P Fin k i ys news := by
    intro k
    induction k with
    | zero =>
      intro i ys news hi hj
      obtain rfl : i = n := by k_extra "OM"
      exact LCg.CompRest.zero (fin _ _ hj)
    | succ k ih =>
      intro i ys news hi hj
      refine LCg.CompRest.succ ?_
      intro v I oI C oC D m₂ h tk E' hP hC hx F N off ne
      exact wpAny_mono (step i ys news v I oI C oC D m₂ h tk E' (by k_extra "OM") hj hP hC hx F N off ne) (fun y s₂ hr => compEnd_mono hr fun y n hJ => ih (i + 1) _ _ (by k_extra "OM") hJ) fun _ _ e => e
  exact main n 0 [] news (by k_extra "OM") start
end
theorem off_lt {D : Addr} : ∀ {l : Led}, AllLt D l → LCg.Off1 D l
  | [], _ => trivial
  | _ :: _, h => ⟨Nat.ne_of_lt h.1, off_lt h.2⟩
theorem fr_put {cs : Scope} {ks : List Str} {vs vs' : List (Option Value)} {g h : Heap} {L : Addr} {x : Str} {v : Value} (T : LocTab cs ks) (F : Fr g L h (fun z => if z = x then some v else frm ks vs z)) (hp : Put ks vs x (some v) vs') : Fr g L h (frm ks vs') := frm_put T.dup hp ▸ F
end SKComp

theorem reg_macros_c : True := by
  k_with "kfm_turns" => (first
  | ((with_reducible show wpAny _ _ (eval (Expr.Name _ _) (compEnvC _ _ _ _)) _ _ _); first
  | ((with_reducible refine' LCgL.ld_own ?zqN ?zqhm ?zqhC ?zqhx ?_ ?zqhk ?zqhl ?zqhd); (case zqN => k_asm); (case zqhm => k_extra "allgen_close_more"); (case zqhC => assumption); (case zqhx => assumption); (case zqhk => rfl); (case zqhl => rfl); (case zqhd => decide))
  | ((with_reducible refine' lcf_free ?zqN ?zqc ?zqm ?zqd ?_ ?zqa ?zqb ?zqhb ?zqhn); (case zqa => rfl); (case zqb => rfl); (case zqN => k_asm); (case zqc => rfl); (case zqm => k_extra "allgen_close_more"); (case zqd => k_asm); (case zqhb => decide); (case zqhn => decide))
  | ((with_reducible refine' nm_GC ?zqv ?zqF ?zqX ?zqTp ?_ ?zqhk ?zqhx ?zqhd); (case zqv => k_extra "tb_rel"); (case zqF => k_asm); (case zqX => k_asm); (case zqTp => k_asm); (case zqhk => rfl); (case zqhx => rfl); (case zqhd => decide))))
  k_with "kfm_turns" => (first
  | ((with_reducible refine' comp_T ?zqF ?zqhclos ?zqhcell ?zqhkind ?zqhnames ?zqhx ?_ ?zqhs); (case zqF => k_asm); (case zqhclos => with_unfolding_all rfl); (case zqhcell => decide); (case zqhkind => rfl); (case zqhnames => decide); (case zqhx => rfl); (case zqhs => intro _; rfl))
  | ((with_reducible refine' comp_U ?zqF ?zqhclos ?zqhcell ?zqhkind ?zqhnames ?zqhx ?_ ?zqhs); (case zqF => k_asm); (case zqhclos => with_unfolding_all rfl); (case zqhcell => decide); (case zqhkind => rfl); (case zqhnames => decide); (case zqhx => rfl); (case zqhs => intro _; rfl)))
  k_with "kpt_turns" => (first
  | ((with_reducible refine' comp_UA ?zqF ?zqhLe ?zqhsw ?zqhclos ?zqhcell ?zqhkind ?zqhnames ?zqhx ?zqhy ?zqhp ?_ ?zqhs); (case zqF => k_asm); (case zqhLe => rfl); (case zqhsw => with_unfolding_all rfl); (case zqhclos => with_unfolding_all rfl); (case zqhcell => decide); (case zqhkind => rfl); (case zqhnames => decide); (case zqhx => rfl); (case zqhy => rfl); (case zqhp => rfl); (case zqhs => intro _; rfl)))
  trivial
section SKTup
noncomputable abbrev tupOf (vs : List Value) : Obj := { cls := .type "tuple", data := .seq vs.toArray }
section
variable {w : World} {A : Around} {E : Value → Shared → Prop} {s : Shared} {h₀ h : Heap} {L l : Addr} {m : Str → Option Value} {ge : Array GenState} {dr : Drawn} {tk : Nat} {os : OsState} {news : Led} {vs : List Value} {v : Value} {k : Int} {u : Tok}
theorem sub_tup {value slice : PySem.Expr} {Q : Value → Shared → Prop} (N : News h₀ L s.heap news) (hm : (l, tupOf vs) ∈ news) (h0 : 0 ≤ k) (hhi : k < 2 ^ 63) (hx : vs[k.toNat]? = some v) (q : Q v s)
    (hs : subscripted slice false (.ref l) (.int k u) = operate [.ref l, .int k u] (getItem (.ref l) (.int k u))) :
    wpAny (model PR w) A (subscriptTail value slice (.ref l) (.int k u)) Q E s := by
  have ht : IsTup s.heap l vs.toArray := News.isTup N hm
  have hlt : k.toNat < vs.length := (List.getElem?_eq_some_iff.mp hx).1
  have hn : k < ((vs.toArray.size : Nat) : Int) := by rw [List.size_toArray]; omega
  exact tail_any ht.typeIs slot_tuple_getitem.lookup (getItem_tuple ht (by k_extra "OM") hhi (seqIndex_of h0 hn) (by simpa using hx) q) hs
theorem new_tup {Q : Value → Shared → Prop} (F : Fr h₀ L h m) (N : News h₀ L h news) (hz : vs.length ≤ 1000)
    (q : ∀ D h', Fr h₀ L h' m → News h₀ L h' ((D, tupOf vs) :: news) → (∀ p ∈ news, p.1 < D) → Q (.ref D) ⟨h', ge, dr, tk, os⟩) : wpAny (model PR w) A (newTuple vs) Q E ⟨h, ge, dr, tk, os⟩ :=
  kup_newTuple (s := ⟨h, ge, dr, tk, os⟩) F N (fun D h' F' N' l1 => q D h' F' N' l1) (by rw [sizeLine_eq]; omega)
theorem new_lst {Q : Value → Shared → Prop} (F : Fr h₀ L h m) (N : News h₀ L h news) (hz : vs.length ≤ 1000)
    (q : ∀ D h', Fr h₀ L h' m → News h₀ L h' ((D, listOf vs.toArray 0) :: news) → (∀ p ∈ news, p.1 < D) → Q (.ref D) ⟨h', ge, dr, tk, os⟩) : wpAny (model PR w) A (newList vs) Q E ⟨h, ge, dr, tk, os⟩ :=
  newList_N (s := ⟨h, ge, dr, tk, os⟩) F N (fun h' F' N' => q _ h' F' N' fun p hp => Heap.lt_size (N p hp).1) (by rw [sizeLine_eq]; omega)
theorem notin_lst {ys : List Str} {x : Str} {n : Nat} {b : Bool} {Q : Value → Shared → Prop} (N : News h₀ L s.heap news) (hm : (l, listOf vs.toArray n) ∈ news) (hi : StrsAre vs ys) (hb : ys.any (· == x) = b) (q : Q (.bool (!b)) s) :
    wpAny (model PR w) A (compareOp .NotIn (.str x u) (.ref l)) Q E s :=
  notin_list_strs (News.isList N hm) hi (by rw [hb]; exact q)
end
noncomputable def ArgsAre (own : Led) (av : List Value) (n : Nat) (tg : Nat → Str) (vl : Nat → Value) : Prop := av.length = n ∧ ∀ p, p < n → ∃ a t, av[p]? = some (.ref a) ∧ (a, tupOf [.str (tg p) t, vl p]) ∈ own
theorem ArgsAre.mono {own own' : Led} {av : List Value} {n : Nat} {tg : Nat → Str} {vl : Nat → Value} (h : ArgsAre own av n tg vl) (hs : ∀ p ∈ own, p ∈ own') : ArgsAre own' av n tg vl :=
  ⟨h.1, fun p hp => let ⟨a, t, h1, h2⟩ := h.2 p hp; ⟨a, t, h1, hs _ h2⟩⟩
section
variable {h₀ h : Heap} {L : Addr} {r : Led}
theorem drop1 {z : Addr × Obj} (N : News h₀ L h (z :: r)) : News h₀ L h (r) := newsSub N (by exact fun p hp => List.mem_cons_of_mem _ hp)
theorem drop3 {a b z : Addr × Obj} (N : News h₀ L h (a :: b :: z :: r)) : News h₀ L h (a :: b :: r) := newsSub N (by intro p hp; simp only [List.mem_cons] at hp ⊢; rcases hp with hp | hp | hp <;> simp [hp])
theorem drop4 {a b c z : Addr × Obj} (N : News h₀ L h (a :: b :: c :: z :: r)) : News h₀ L h (a :: b :: c :: r) := newsSub N (by intro p hp; simp only [List.mem_cons] at hp ⊢; rcases hp with hp | hp | hp | hp <;> simp [hp])
end
section
variable {h₀ h : Heap} {L : Addr} {r : Led} {a b c d : Addr × Obj}
theorem swap1 (N : News h₀ L h (a :: b :: r)) : News h₀ L h (b :: a :: r) := newsSub N (by intro p hp; simp only [List.mem_cons] at hp ⊢; rcases hp with hp | hp | hp <;> simp [hp])
end
end SKTup

theorem reg_macros_t : True := by
  k_with "kp_flats" => (first
  | ((with_reducible refine' sub_tup ?zqN ?zqhm ?zqh0 ?zqh1 ?zqhx ?_ ?zqks); (case zqks => with_unfolding_all rfl); (case zqN => k_asm); (case zqhm => k_extra "allgen_close_more"); (case zqhx => first | rfl | assumption); (case zqh0 => first | decide | assumption | k_extra "OM"); (case zqh1 => first | decide | k_extra "OM")))
  k_with "kat_tups" => (first
  | ((with_reducible refine' new_tup ?zqF ?zqN ?zqhz ?_); (case zqF => k_asm); (case zqN => k_asm); (case zqhz => first | (simp only [List.length_cons, List.length_nil]; k_extra "OM") | k_extra "OM"); intro zqD' zqh' zqF' zqN' zql1; (try (k_extra "ALl1")); (try k_sweep))
  | ((with_reducible refine' new_lst ?zqF ?zqN ?zqhz ?_); (case zqF => k_asm); (case zqN => k_asm); (case zqhz => first | (simp only [List.length_cons, List.length_nil]; k_extra "OM") | k_extra "OM"); intro zqD' zqh' zqF' zqN' zql1; (try (k_extra "ALl1")); (try k_sweep)))
  k_with "k_caughtB" => (first | (with_reducible assumption) | (with_reducible exact ArgsAre.mono (by with_reducible assumption) (by repeat' (first | exact subRefl | exact subLeft | (refine' subCons ?zqhm _; (case zqhm => k_extra "allgen_close_more")) | (refine' subBoth _ _) | apply subTail | apply subApp))))
  trivial
section SIBind
theorem t_done_promise (w : World) (mean : ExcName → Option Value) (mg mb : Str → Option Value) (own : Led) (vx vv : Value) :
    Tell w mean mg mb 5 395 [vx, vv] own (fun r news' => ∃ x dx t1 t2 t3 t4 t5 t6 u u2 n, r = .ref x ∧ (∀ p ∈ own, p.1 < dx) ∧ dx < x ∧
      news' = (x, instObj 321 dx) :: (dx, dictOf (ents w.params ksPromise [(t1, .str (Str.ofString "promise") u), (t2, vx), (t3, .none), (t4, vv), (t5, .int 2 u2), (t6, .none)]) n) :: own) := by
  refine' TellC.tell ?_
  refine' tellC_of [Str.ofString "expr", Str.ofString "value"] [vx, vv] [Str.ofString "promise"] [Str.ofString "Promise"] ?ho ?hcd ?hb rfl ?hl ?hg ?hc ?h1 ?h2 ?R
  case ho => k_dflt k_is
  case hcd => k_dflt k_is
  case hb => exact fun _ _ _ _ => BindsTo.of_eq rfl
  case hl => kernel_rfl!
  case hg => kernel_rfl!
  case hc => kernel_rfl!
  case h1 => rfl
  case h2 => rfl
  intro LT GT dp un gd outer A₀ base g L s B F X N T hd hu
  simp only [List.map, List.cons_append, List.nil_append, List.append_nil] at F LT
  obtain ⟨hp, ge, dr, tk, os⟩ := s
  k_extra "SK"
  · refine' RunEnd.intro ?zf1 ?zn1 ?zp1
    case zf1 => k_asm
    case zn1 => k_asm
    case zp1 => exact ⟨_, _, _, _, _, _, _, _, _, _, _, rfl, by first | assumption | exact ltN (by k_extra "OM") | exact ktn_ltOf (by assumption) | exact ktn_ltOf (And.right (by assumption)) | exact ktn_ltOf (And.right (And.right (by assumption))) | exact ktn_ltOf (And.right (And.right (And.right (by assumption)))) | exact ktn_ltOf (And.right (And.right (And.right (And.right (by assumption))))) | exact ktn_ltOf (And.right (And.right (And.right (And.right (And.right (by assumption)))))) | exact ktn_ltOf (And.right (And.right (And.right (And.right (And.right (And.right (by assumption))))))) | exact ktn_ltOf (And.right (And.right (And.right (And.right (And.right (And.right (And.right (by assumption)))))))) | exact ktn_ltOf (And.right (And.right (And.right (And.right (And.right (And.right (And.right (And.right (by assumption))))))))) | exact ktn_ltOf (And.right (And.right (And.right (And.right (And.right (And.right (And.right (And.right (And.right (by assumption)))))))))) | exact ktn_ltOf (And.right (And.right (And.right (And.right (And.right (And.right (And.right (And.right (And.right (And.right (by assumption))))))))))) | exact ktn_ltOf (And.right (And.right (And.right (And.right (And.right (And.right (And.right (And.right (And.right (And.right (And.right (by assumption)))))))))))) | exact ktn_ltOf (And.right (And.right (And.right (And.right (And.right (And.right (And.right (And.right (And.right (And.right (And.right (And.right (by assumption))))))))))))) | exact ktn_ltOf (And.right (And.right (And.right (And.right (And.right (And.right (And.right (And.right (And.right (And.right (And.right (And.right (And.right (by assumption)))))))))))))) | exact ktn_ltOf (And.right (And.right (And.right (And.right (And.right (And.right (And.right (And.right (And.right (And.right (And.right (And.right (And.right (And.right (by assumption))))))))))))))) | exact above_trans (by assumption) (by assumption) | exact above_trans (by assumption) (above_trans (by assumption) (by assumption)) | exact above_trans (by assumption) (ktn_ltOf (by assumption)) | exact above_trans (by assumption) (ktn_ltOf (And.right (by assumption))) | exact above_trans (by assumption) (ktn_ltOf (And.right (And.right (by assumption)))) | exact above_trans (by assumption) (ktn_ltOf (And.right (And.right (And.right (by assumption))))) | exact above_trans (by assumption) (ktn_ltOf (And.right (And.right (And.right (And.right (by assumption)))))) | exact above_trans (by assumption) (ktn_ltOf (And.right (And.right (And.right (And.right (And.right (by assumption))))))) | exact above_trans (by assumption) (ktn_ltOf (And.right (And.right (And.right (And.right (And.right (And.right (by assumption)))))))) | exact above_trans (by assumption) (ktn_ltOf (And.right (And.right (And.right (And.right (And.right (And.right (And.right (by assumption))))))))) | exact above_trans (by assumption) (ktn_ltOf (And.right (And.right (And.right (And.right (And.right (And.right (And.right (And.right (by assumption)))))))))) | exact above_trans (by assumption) (ktn_ltOf (And.right (And.right (And.right (And.right (And.right (And.right (And.right (And.right (And.right (by assumption))))))))))) | exact above_trans (by assumption) (ktn_ltOf (And.right (And.right (And.right (And.right (And.right (And.right (And.right (And.right (And.right (And.right (by assumption)))))))))))) | exact above_trans (by assumption) (ktn_ltOf (And.right (And.right (And.right (And.right (And.right (And.right (And.right (And.right (And.right (And.right (And.right (by assumption))))))))))))) | exact above_trans (by assumption) (ktn_ltOf (And.right (And.right (And.right (And.right (And.right (And.right (And.right (And.right (And.right (And.right (And.right (And.right (by assumption)))))))))))))) | exact above_trans (by assumption) (ktn_ltOf (And.right (And.right (And.right (And.right (And.right (And.right (And.right (And.right (And.right (And.right (And.right (And.right (And.right (by assumption))))))))))))))) | exact above_trans (by assumption) (ktn_ltOf (And.right (And.right (And.right (And.right (And.right (And.right (And.right (And.right (And.right (And.right (And.right (And.right (And.right (And.right (by assumption)))))))))))))))) | exact above_sub (by assumption) (by repeat' (first | (with_reducible exact subRefl) | (with_reducible exact subNil) | (with_reducible exact subLeft) | (with_reducible refine' subBoth ?_ ?_) | (refine' subCons (by k_mem) ?_) | (with_reducible refine' subTail ?_) | (with_reducible refine' subApp ?_))) | exact above_trans (by assumption) (above_sub (by assumption) (by repeat' (first | (with_reducible exact subRefl) | (with_reducible exact subNil) | (with_reducible exact subLeft) | (with_reducible refine' subBoth ?_ ?_) | (refine' subCons (by k_mem) ?_) | (with_reducible refine' subTail ?_) | (with_reducible refine' subApp ?_)))), by first | assumption | exact ltN (by k_extra "OM") | exact ktn_ltOf (by assumption) | exact ktn_ltOf (And.right (by assumption)) | exact ktn_ltOf (And.right (And.right (by assumption))) | exact ktn_ltOf (And.right (And.right (And.right (by assumption)))) | exact ktn_ltOf (And.right (And.right (And.right (And.right (by assumption))))) | exact ktn_ltOf (And.right (And.right (And.right (And.right (And.right (by assumption)))))) | exact ktn_ltOf (And.right (And.right (And.right (And.right (And.right (And.right (by assumption))))))) | exact ktn_ltOf (And.right (And.right (And.right (And.right (And.right (And.right (And.right (by assumption)))))))) | exact ktn_ltOf (And.right (And.right (And.right (And.right (And.right (And.right (And.right (And.right (by assumption))))))))) | exact ktn_ltOf (And.right (And.right (And.right (And.right (And.right (And.right (And.right (And.right (And.right (by assumption)))))))))) | exact ktn_ltOf (And.right (And.right (And.right (And.right (And.right (And.right (And.right (And.right (And.right (And.right (by assumption))))))))))) | exact ktn_ltOf (And.right (And.right (And.right (And.right (And.right (And.right (And.right (And.right (And.right (And.right (And.right (by assumption)))))))))))) | exact ktn_ltOf (And.right (And.right (And.right (And.right (And.right (And.right (And.right (And.right (And.right (And.right (And.right (And.right (by assumption))))))))))))) | exact ktn_ltOf (And.right (And.right (And.right (And.right (And.right (And.right (And.right (And.right (And.right (And.right (And.right (And.right (And.right (by assumption)))))))))))))) | exact ktn_ltOf (And.right (And.right (And.right (And.right (And.right (And.right (And.right (And.right (And.right (And.right (And.right (And.right (And.right (And.right (by assumption))))))))))))))) | exact above_trans (by assumption) (by assumption) | exact above_trans (by assumption) (above_trans (by assumption) (by assumption)) | exact above_trans (by assumption) (ktn_ltOf (by assumption)) | exact above_trans (by assumption) (ktn_ltOf (And.right (by assumption))) | exact above_trans (by assumption) (ktn_ltOf (And.right (And.right (by assumption)))) | exact above_trans (by assumption) (ktn_ltOf (And.right (And.right (And.right (by assumption))))) | exact above_trans (by assumption) (ktn_ltOf (And.right (And.right (And.right (And.right (by assumption)))))) | exact above_trans (by assumption) (ktn_ltOf (And.right (And.right (And.right (And.right (And.right (by assumption))))))) | exact above_trans (by assumption) (ktn_ltOf (And.right (And.right (And.right (And.right (And.right (And.right (by assumption)))))))) | exact above_trans (by assumption) (ktn_ltOf (And.right (And.right (And.right (And.right (And.right (And.right (And.right (by assumption))))))))) | exact above_trans (by assumption) (ktn_ltOf (And.right (And.right (And.right (And.right (And.right (And.right (And.right (And.right (by assumption)))))))))) | exact above_trans (by assumption) (ktn_ltOf (And.right (And.right (And.right (And.right (And.right (And.right (And.right (And.right (And.right (by assumption))))))))))) | exact above_trans (by assumption) (ktn_ltOf (And.right (And.right (And.right (And.right (And.right (And.right (And.right (And.right (And.right (And.right (by assumption)))))))))))) | exact above_trans (by assumption) (ktn_ltOf (And.right (And.right (And.right (And.right (And.right (And.right (And.right (And.right (And.right (And.right (And.right (by assumption))))))))))))) | exact above_trans (by assumption) (ktn_ltOf (And.right (And.right (And.right (And.right (And.right (And.right (And.right (And.right (And.right (And.right (And.right (And.right (by assumption)))))))))))))) | exact above_trans (by assumption) (ktn_ltOf (And.right (And.right (And.right (And.right (And.right (And.right (And.right (And.right (And.right (And.right (And.right (And.right (And.right (by assumption))))))))))))))) | exact above_trans (by assumption) (ktn_ltOf (And.right (And.right (And.right (And.right (And.right (And.right (And.right (And.right (And.right (And.right (And.right (And.right (And.right (And.right (by assumption)))))))))))))))) | exact above_sub (by assumption) (by repeat' (first | (with_reducible exact subRefl) | (with_reducible exact subNil) | (with_reducible exact subLeft) | (with_reducible refine' subBoth ?_ ?_) | (refine' subCons (by k_mem) ?_) | (with_reducible refine' subTail ?_) | (with_reducible refine' subApp ?_))) | exact above_trans (by assumption) (above_sub (by assumption) (by repeat' (first | (with_reducible exact subRefl) | (with_reducible exact subNil) | (with_reducible exact subLeft) | (with_reducible refine' subBoth ?_ ?_) | (refine' subCons (by k_mem) ?_) | (with_reducible refine' subTail ?_) | (with_reducible refine' subApp ?_)))), rfl⟩
theorem t_default_m (w : World) (mean : ExcName → Option Value) (mg mb : Str → Option Value) (own : Led) (d : Addr) (ve : Value) (hk : KindRec w own d (Str.ofString "missing")) :
    Tell w mean mg mb 3 416 [.ref d, ve] own (fun r news' => r = .ref d ∧ news' = own) := by
  obtain ⟨C, ks, t, u, tvs, hc, ha, hn, hr⟩ := hk
  refine' TellC.tell ?_
  refine' tellC_of [Str.ofString "default", Str.ofString "env"] [.ref d, ve] [] [Str.ofString "Promise"] ?ho ?hcd ?hb rfl ?hl ?hg ?hc ?h1 ?h2 ?R
  case ho => k_dflt k_is
  case hcd => k_dflt k_is
  case hb => exact fun _ _ _ _ => BindsTo.of_eq rfl
  case hl => kernel_rfl!
  case hg => kernel_rfl!
  case hc => kernel_rfl!
  case h1 => rfl
  case h2 => rfl
  intro LT GT dp un gd outer A₀ base g L s B F X N T hd hu
  simp only [List.map, List.cons_append, List.nil_append, List.append_nil] at F LT
  obtain ⟨hp, ge, dr, tk, os⟩ := s
  k_extra "SK"
  · refine' RunEnd.intro ?zf3 ?zn3 ?zp3
    case zf3 => k_asm
    case zn3 => k_asm
    case zp3 => exact ⟨rfl, rfl⟩
theorem t_default_p (w : World) (mean : ExcName → Option Value) (mg mb : Str → Option Value) (own : Led) (d : Addr) (ve : Value) (kd : Str) (hk : KindRec w own d kd) (hne : strNe kd (Str.ofString "missing") = true) :
    Tell w mean mg mb 5 416 [.ref d, ve] own (fun r news' => ∃ x dx t1 t2 t3 t4 t5 t6 u u2 n, r = .ref x ∧ (∀ p ∈ own, p.1 < dx) ∧ dx < x ∧
      news' = (x, instObj 321 dx) :: (dx, dictOf (ents w.params ksPromise [(t1, .str (Str.ofString "promise") u), (t2, .ref d), (t3, ve), (t4, .none), (t5, .int 0 u2), (t6, .none)]) n) :: own) := by
  obtain ⟨C, ks, t, u, tvs, hc, ha, hn, hr⟩ := hk
  refine' TellC.tell ?_
  refine' tellC_of [Str.ofString "default", Str.ofString "env"] [.ref d, ve] [] [Str.ofString "Promise"] ?ho ?hcd ?hb rfl ?hl ?hg ?hc ?h1 ?h2 ?R
  case ho => k_dflt k_is
  case hcd => k_dflt k_is
  case hb => exact fun _ _ _ _ => BindsTo.of_eq rfl
  case hl => kernel_rfl!
  case hg => kernel_rfl!
  case hc => kernel_rfl!
  case h1 => rfl
  case h2 => rfl
  intro LT GT dp un gd outer A₀ base g L s B F X N T hd hu
  simp only [List.map, List.cons_append, List.nil_append, List.append_nil] at F LT
  obtain ⟨hp, ge, dr, tk, os⟩ := s
  k_extra "SK"
  · refine' RunEnd.intro ?zf4 ?zn4 ?zp4
    case zf4 => k_asm
    case zn4 => k_asm
    case zp4 => exact ⟨_, _, _, _, _, _, _, _, _, _, _, rfl, by first | assumption | exact ltN (by k_extra "OM") | exact ktn_ltOf (by assumption) | exact ktn_ltOf (And.right (by assumption)) | exact ktn_ltOf (And.right (And.right (by assumption))) | exact ktn_ltOf (And.right (And.right (And.right (by assumption)))) | exact ktn_ltOf (And.right (And.right (And.right (And.right (by assumption))))) | exact ktn_ltOf (And.right (And.right (And.right (And.right (And.right (by assumption)))))) | exact ktn_ltOf (And.right (And.right (And.right (And.right (And.right (And.right (by assumption))))))) | exact ktn_ltOf (And.right (And.right (And.right (And.right (And.right (And.right (And.right (by assumption)))))))) | exact ktn_ltOf (And.right (And.right (And.right (And.right (And.right (And.right (And.right (And.right (by assumption))))))))) | exact ktn_ltOf (And.right (And.right (And.right (And.right (And.right (And.right (And.right (And.right (And.right (by assumption)))))))))) | exact ktn_ltOf (And.right (And.right (And.right (And.right (And.right (And.right (And.right (And.right (And.right (And.right (by assumption))))))))))) | exact ktn_ltOf (And.right (And.right (And.right (And.right (And.right (And.right (And.right (And.right (And.right (And.right (And.right (by assumption)))))))))))) | exact ktn_ltOf (And.right (And.right (And.right (And.right (And.right (And.right (And.right (And.right (And.right (And.right (And.right (And.right (by assumption))))))))))))) | exact ktn_ltOf (And.right (And.right (And.right (And.right (And.right (And.right (And.right (And.right (And.right (And.right (And.right (And.right (And.right (by assumption)))))))))))))) | exact ktn_ltOf (And.right (And.right (And.right (And.right (And.right (And.right (And.right (And.right (And.right (And.right (And.right (And.right (And.right (And.right (by assumption))))))))))))))) | exact above_trans (by assumption) (by assumption) | exact above_trans (by assumption) (above_trans (by assumption) (by assumption)) | exact above_trans (by assumption) (ktn_ltOf (by assumption)) | exact above_trans (by assumption) (ktn_ltOf (And.right (by assumption))) | exact above_trans (by assumption) (ktn_ltOf (And.right (And.right (by assumption)))) | exact above_trans (by assumption) (ktn_ltOf (And.right (And.right (And.right (by assumption))))) | exact above_trans (by assumption) (ktn_ltOf (And.right (And.right (And.right (And.right (by assumption)))))) | exact above_trans (by assumption) (ktn_ltOf (And.right (And.right (And.right (And.right (And.right (by assumption))))))) | exact above_trans (by assumption) (ktn_ltOf (And.right (And.right (And.right (And.right (And.right (And.right (by assumption)))))))) | exact above_trans (by assumption) (ktn_ltOf (And.right (And.right (And.right (And.right (And.right (And.right (And.right (by assumption))))))))) | exact above_trans (by assumption) (ktn_ltOf (And.right (And.right (And.right (And.right (And.right (And.right (And.right (And.right (by assumption)))))))))) | exact above_trans (by assumption) (ktn_ltOf (And.right (And.right (And.right (And.right (And.right (And.right (And.right (And.right (And.right (by assumption))))))))))) | exact above_trans (by assumption) (ktn_ltOf (And.right (And.right (And.right (And.right (And.right (And.right (And.right (And.right (And.right (And.right (by assumption)))))))))))) | exact above_trans (by assumption) (ktn_ltOf (And.right (And.right (And.right (And.right (And.right (And.right (And.right (And.right (And.right (And.right (And.right (by assumption))))))))))))) | exact above_trans (by assumption) (ktn_ltOf (And.right (And.right (And.right (And.right (And.right (And.right (And.right (And.right (And.right (And.right (And.right (And.right (by assumption)))))))))))))) | exact above_trans (by assumption) (ktn_ltOf (And.right (And.right (And.right (And.right (And.right (And.right (And.right (And.right (And.right (And.right (And.right (And.right (And.right (by assumption))))))))))))))) | exact above_trans (by assumption) (ktn_ltOf (And.right (And.right (And.right (And.right (And.right (And.right (And.right (And.right (And.right (And.right (And.right (And.right (And.right (And.right (by assumption)))))))))))))))) | exact above_sub (by assumption) (by repeat' (first | (with_reducible exact subRefl) | (with_reducible exact subNil) | (with_reducible exact subLeft) | (with_reducible refine' subBoth ?_ ?_) | (refine' subCons (by k_mem) ?_) | (with_reducible refine' subTail ?_) | (with_reducible refine' subApp ?_))) | exact above_trans (by assumption) (above_sub (by assumption) (by repeat' (first | (with_reducible exact subRefl) | (with_reducible exact subNil) | (with_reducible exact subLeft) | (with_reducible refine' subBoth ?_ ?_) | (refine' subCons (by k_mem) ?_) | (with_reducible refine' subTail ?_) | (with_reducible refine' subApp ?_)))), by first | assumption | exact ltN (by k_extra "OM") | exact ktn_ltOf (by assumption) | exact ktn_ltOf (And.right (by assumption)) | exact ktn_ltOf (And.right (And.right (by assumption))) | exact ktn_ltOf (And.right (And.right (And.right (by assumption)))) | exact ktn_ltOf (And.right (And.right (And.right (And.right (by assumption))))) | exact ktn_ltOf (And.right (And.right (And.right (And.right (And.right (by assumption)))))) | exact ktn_ltOf (And.right (And.right (And.right (And.right (And.right (And.right (by assumption))))))) | exact ktn_ltOf (And.right (And.right (And.right (And.right (And.right (And.right (And.right (by assumption)))))))) | exact ktn_ltOf (And.right (And.right (And.right (And.right (And.right (And.right (And.right (And.right (by assumption))))))))) | exact ktn_ltOf (And.right (And.right (And.right (And.right (And.right (And.right (And.right (And.right (And.right (by assumption)))))))))) | exact ktn_ltOf (And.right (And.right (And.right (And.right (And.right (And.right (And.right (And.right (And.right (And.right (by assumption))))))))))) | exact ktn_ltOf (And.right (And.right (And.right (And.right (And.right (And.right (And.right (And.right (And.right (And.right (And.right (by assumption)))))))))))) | exact ktn_ltOf (And.right (And.right (And.right (And.right (And.right (And.right (And.right (And.right (And.right (And.right (And.right (And.right (by assumption))))))))))))) | exact ktn_ltOf (And.right (And.right (And.right (And.right (And.right (And.right (And.right (And.right (And.right (And.right (And.right (And.right (And.right (by assumption)))))))))))))) | exact ktn_ltOf (And.right (And.right (And.right (And.right (And.right (And.right (And.right (And.right (And.right (And.right (And.right (And.right (And.right (And.right (by assumption))))))))))))))) | exact above_trans (by assumption) (by assumption) | exact above_trans (by assumption) (above_trans (by assumption) (by assumption)) | exact above_trans (by assumption) (ktn_ltOf (by assumption)) | exact above_trans (by assumption) (ktn_ltOf (And.right (by assumption))) | exact above_trans (by assumption) (ktn_ltOf (And.right (And.right (by assumption)))) | exact above_trans (by assumption) (ktn_ltOf (And.right (And.right (And.right (by assumption))))) | exact above_trans (by assumption) (ktn_ltOf (And.right (And.right (And.right (And.right (by assumption)))))) | exact above_trans (by assumption) (ktn_ltOf (And.right (And.right (And.right (And.right (And.right (by assumption))))))) | exact above_trans (by assumption) (ktn_ltOf (And.right (And.right (And.right (And.right (And.right (And.right (by assumption)))))))) | exact above_trans (by assumption) (ktn_ltOf (And.right (And.right (And.right (And.right (And.right (And.right (And.right (by assumption))))))))) | exact above_trans (by assumption) (ktn_ltOf (And.right (And.right (And.right (And.right (And.right (And.right (And.right (And.right (by assumption)))))))))) | exact above_trans (by assumption) (ktn_ltOf (And.right (And.right (And.right (And.right (And.right (And.right (And.right (And.right (And.right (by assumption))))))))))) | exact above_trans (by assumption) (ktn_ltOf (And.right (And.right (And.right (And.right (And.right (And.right (And.right (And.right (And.right (And.right (by assumption)))))))))))) | exact above_trans (by assumption) (ktn_ltOf (And.right (And.right (And.right (And.right (And.right (And.right (And.right (And.right (And.right (And.right (And.right (by assumption))))))))))))) | exact above_trans (by assumption) (ktn_ltOf (And.right (And.right (And.right (And.right (And.right (And.right (And.right (And.right (And.right (And.right (And.right (And.right (by assumption)))))))))))))) | exact above_trans (by assumption) (ktn_ltOf (And.right (And.right (And.right (And.right (And.right (And.right (And.right (And.right (And.right (And.right (And.right (And.right (And.right (by assumption))))))))))))))) | exact above_trans (by assumption) (ktn_ltOf (And.right (And.right (And.right (And.right (And.right (And.right (And.right (And.right (And.right (And.right (And.right (And.right (And.right (And.right (by assumption)))))))))))))))) | exact above_sub (by assumption) (by repeat' (first | (with_reducible exact subRefl) | (with_reducible exact subNil) | (with_reducible exact subLeft) | (with_reducible refine' subBoth ?_ ?_) | (refine' subCons (by k_mem) ?_) | (with_reducible refine' subTail ?_) | (with_reducible refine' subApp ?_))) | exact above_trans (by assumption) (above_sub (by assumption) (by repeat' (first | (with_reducible exact subRefl) | (with_reducible exact subNil) | (with_reducible exact subLeft) | (with_reducible refine' subBoth ?_ ?_) | (refine' subCons (by k_mem) ?_) | (with_reducible refine' subTail ?_) | (with_reducible refine' subApp ?_)))), rfl⟩
theorem t_bound_v (w : World) (mean : ExcName → Option Value) (mg mb : Str → Option Value) (own : Led) (v : Addr) (kd : Str) (hk : KindRec w own v kd) (hkd : kd = Str.ofString "missing" ∨ kd = Str.ofString "promise") :
    Tell w mean mg mb 3 402 [.ref v] own (fun r news' => r = .ref v ∧ news' = own) := by
  obtain ⟨C, ks, t, u, tvs, hc, ha, hn, hr⟩ := hk
  refine' TellC.tell ?_
  refine' tellC_of [Str.ofString "value"] [.ref v] [] [Str.ofString "done_promise", Str.ofString "share"] ?ho ?hcd ?hb rfl ?hl ?hg ?hc ?h1 ?h2 ?R
  case ho => k_dflt k_is
  case hcd => k_dflt k_is
  case hb => exact fun _ _ _ _ => BindsTo.of_eq rfl
  case hl => kernel_rfl!
  case hg => kernel_rfl!
  case hc => kernel_rfl!
  case h1 => rfl
  case h2 => rfl
  intro LT GT dp un gd outer A₀ base g L s B F X N T hd hu
  simp only [List.map, List.cons_append, List.nil_append, List.append_nil] at F LT
  obtain ⟨hp, ge, dr, tk, os⟩ := s
  rcases hkd with rfl | rfl
  all_goals k_extra "SK"
  · refine' RunEnd.intro ?zf5 ?zn5 ?zp5
    case zf5 => k_asm
    case zn5 => k_asm
    case zp5 => exact ⟨rfl, rfl⟩
  · refine' RunEnd.intro ?zf6 ?zn6 ?zp6
    case zf6 => k_asm
    case zn6 => k_asm
    case zp6 => exact ⟨rfl, rfl⟩
theorem t_lookup (w : World) (mean : ExcName → Option Value) (mg mb : Str → Option Value) (own : Led) (e f : Addr) (fo : Obj) (kvs : List (Str × Value)) (nm : Str) (tn : Tok) (t1 t2 t3 t4 t5 t6 t7 : Tok) (v1 v2 v3 v4 v6 v7 : Value)
    (he : Rec w own e 300 ksEnvironment [(t1, v1), (t2, v2), (t3, v3), (t4, v4), (t5, .ref f), (t6, v6), (t7, v7)]) (hf : (f, fo) ∈ own) (hfo : fo.IsDictOf (strKind PR w) kvs) (lo : (f == sysModules) = false) :
    Tell w mean mg mb 3 146 [.ref e, .str nm tn] own (fun r news' => r = (valueAt kvs nm).getD .none ∧ news' = own) := by
  refine' TellC.tell ?_
  refine' tellC_of [Str.ofString "env", Str.ofString "name"] [.ref e, .str nm tn] [] [] ?ho ?hcd ?hb rfl ?hl ?hg ?hc ?h1 ?h2 ?R
  case ho => k_dflt k_is
  case hcd => k_dflt k_is
  case hb => exact fun _ _ _ _ => BindsTo.of_eq rfl
  case hl => kernel_rfl!
  case hg => kernel_rfl!
  case hc => kernel_rfl!
  case h1 => rfl
  case h2 => rfl
  intro LT GT dp un gd outer A₀ base g L s B F X N T hd hu
  simp only [List.map, List.cons_append, List.nil_append, List.append_nil] at F LT
  obtain ⟨hp, ge, dr, tk, os⟩ := s
  k_extra "SK"
  · refine' RunEnd.intro ?zf7 ?zn7 ?zp7
    case zf7 => k_asm
    case zn7 => k_asm
    case zp7 => exact ⟨rfl, rfl⟩
theorem t_lookup_s (w : World) (mean : ExcName → Option Value) (mg mb : Str → Option Value) (own : Led) (e f : Addr) (fo : Obj) (kvs : List (Str × Value)) (nm : Str) (v : Value) (tn : Tok) (t1 t2 t3 t4 t5 t6 t7 : Tok) (v1 v2 v3 v4 v6 v7 : Value)
    (he : Rec w own e 300 ksEnvironment [(t1, v1), (t2, v2), (t3, v3), (t4, v4), (t5, .ref f), (t6, v6), (t7, v7)]) (hf : (f, fo) ∈ own) (hfo : fo.IsDictOf (strKind PR w) kvs) (lo : (f == sysModules) = false) (hv : valueAt kvs nm = some v) :
    Tell w mean mg mb 3 146 [.ref e, .str nm tn] own (fun r news' => r = v ∧ news' = own) := by
  have h := t_lookup w mean mg mb own e f fo kvs nm tn t1 t2 t3 t4 t5 t6 t7 v1 v2 v3 v4 v6 v7 he hf hfo lo
  rw [hv] at h
  exact h
end SIBind

theorem reg_macros_b : True := by
  k_with "kpc_turns" => (first
  | ((with_reducible show wpAny _ _ (call (Value.ref 146) _) _ _ _); (with_reducible refine' Tell.use (t_lookup_s _ _ _ _ _ _ _ _ _ _ _ _ _ _ _ _ _ _ _ _ _ _ _ _ _ ?zqzhe ?zqzhf ?zqzho ?zqzlo ?zqzhv) ?zqB ?zqF ?zqX ?zqN ?zqsub ?zqT ?zqhk ?zqhd ?zqhu ?_); (case zqB => k_asm); (case zqF => k_asm); (case zqX => k_asm); (case zqN => k_asm); (case zqsub => exact subRefl); (case zqT => k_asm); (case zqhk => rfl); (case zqhd => first | exact lim (by assumption) rfl | k_extra "OM"); (case zqhu => first | exact lim (by assumption) rfl | k_extra "OM"); (case zqzhe => assumption); (case zqzhf => assumption); (case zqzho => assumption); (case zqzlo => assumption); (case zqzhv => first | assumption | k_extra "ktn_open"); intro zqr' zqnews' zqh' zqtk' zqF' zqN' zqpo0'; (refine sp2 zqpo0' ?_); clear zqpo0'; intro zqe1 zqe2; subst zqe1; subst zqe2; (try k_sweep)))
  trivial
section SJMiss

theorem t_is_default_n (w : World) (mean : ExcName → Option Value) (mg mb : Str → Option Value) (own : Led) (b e : Addr) (t1 t2 t3 t4 t5 t6 u : Tok) (v2 v4 v5 v6 : Value)
    (hb : Rec w own b 321 ksPromise [(t1, .str (Str.ofString "promise") u), (t2, v2), (t3, .none), (t4, v4), (t5, v5), (t6, v6)]) :
    Tell w mean mg mb 3 429 [.ref b, .ref e] own (fun r news' => r = .bool false ∧ news' = own) := by
  refine' TellC.tell ?_
  refine' tellC_of [Str.ofString "bound", Str.ofString "env"] [.ref b, .ref e] [] [] ?ho ?hcd ?hb rfl ?hl ?hg ?hc ?h1 ?h2 ?R
  case ho => k_dflt k_is
  case hcd => k_dflt k_is
  case hb => exact fun _ _ _ _ => BindsTo.of_eq rfl
  case hl => kernel_rfl!
  case hg => kernel_rfl!
  case hc => kernel_rfl!
  case h1 => rfl
  case h2 => rfl
  intro LT GT dp un gd outer A₀ base g L s B F X N T hd hu
  simp only [List.map, List.cons_append, List.nil_append, List.append_nil] at F LT
  obtain ⟨hp, ge, dr, tk, os⟩ := s
  k_extra "S0"
  · refine' RunEnd.intro ?zf1 ?zn1 ?zp1
    case zf1 => k_asm
    case zn1 => k_asm
    case zp1 => exact ⟨rfl, rfl⟩
theorem t_is_default_e (w : World) (mean : ExcName → Option Value) (mg mb : Str → Option Value) (own : Led) (b e e' : Addr) (t1 t2 t3 t4 t5 t6 u : Tok) (v2 v4 v5 v6 : Value)
    (s1 s2 s3 s4 s5 s6 s7 sn : Tok) (n : Int) (w1 w3 w4 w5 w6 w7 : Value) (q1 q2 q3 q4 q5 q6 q7 qn : Tok) (n' : Int) (z1 z3 z4 z5 z6 z7 : Value)
    (hb : Rec w own b 321 ksPromise [(t1, .str (Str.ofString "promise") u), (t2, v2), (t3, .ref e'), (t4, v4), (t5, v5), (t6, v6)])
    (he : Rec w own e 300 ksEnvironment [(s1, w1), (s2, .int n sn), (s3, w3), (s4, w4), (s5, w5), (s6, w6), (s7, w7)])
    (he' : Rec w own e' 300 ksEnvironment [(q1, z1), (q2, .int n' qn), (q3, z3), (q4, z4), (q5, z5), (q6, z6), (q7, z7)]) :
    Tell w mean mg mb 3 429 [.ref b, .ref e] own (fun r news' => r = .bool (n' == n) ∧ news' = own) := by
  refine' TellC.tell ?_
  refine' tellC_of [Str.ofString "bound", Str.ofString "env"] [.ref b, .ref e] [] [] ?ho ?hcd ?hb rfl ?hl ?hg ?hc ?h1 ?h2 ?R
  case ho => k_dflt k_is
  case hcd => k_dflt k_is
  case hb => exact fun _ _ _ _ => BindsTo.of_eq rfl
  case hl => kernel_rfl!
  case hg => kernel_rfl!
  case hc => kernel_rfl!
  case h1 => rfl
  case h2 => rfl
  intro LT GT dp un gd outer A₀ base g L s B F X N T hd hu
  simp only [List.map, List.cons_append, List.nil_append, List.append_nil] at F LT
  obtain ⟨hp, ge, dr, tk, os⟩ := s
  k_extra "S0"
  · refine' RunEnd.intro ?zf2 ?zn2 ?zp2
    case zf2 => k_asm
    case zn2 => k_asm
    case zp2 => exact ⟨rfl, rfl⟩
inductive PRec (w : World) (own : Led) (b : Addr) (ex ev : Value) : Prop
  | mk (t1) (t2) (t3) (t4) (t5) (t6) (u) (v4) (v5) (v6) (c0 : Rec w own b 321 ksPromise [(t1, .str (Str.ofString "promise") u), (t2, ex), (t3, ev), (t4, v4), (t5, v5), (t6, v6)]) : PRec w own b ex ev
inductive EnvNum (w : World) (own : Led) (e : Addr) (n : Int) : Prop
  | mk (s1) (s2) (s3) (s4) (s5) (s6) (s7) (sn) (w1) (w3) (w4) (w5) (w6) (w7) (c0 : Rec w own e 300 ksEnvironment [(s1, w1), (s2, .int n sn), (s3, w3), (s4, w4), (s5, w5), (s6, w6), (s7, w7)]) : EnvNum w own e n
inductive EnvAt (w : World) (own : Led) (e : Addr) (kvs : List (Str × Value)) : Prop
  | mk (s1) (s2) (s3) (s4) (s5) (s6) (s7) (w1) (w2) (w3) (w4) (f) (w6) (w7) (fo) (c0 : Rec w own e 300 ksEnvironment [(s1, w1), (s2, w2), (s3, w3), (s4, w4), (s5, .ref f), (s6, w6), (s7, w7)]) (c1 : (f, fo) ∈ own) (c2 : fo.IsDictOf (strKind PR w) kvs) (c3 : (f == sysModules) = false) : EnvAt w own e kvs
inductive Miss (w : World) (own : Led) : Addr → Addr → Bool → Prop
  | mis {e b} : KindRec w own b (Str.ofString "missing") → Miss w own e b true
  | dots {e b t1 t2 t3 u l vs k} : Rec w own b 342 ksDots [(t1, .str (Str.ofString "dots") u), (t2, .ref l), (t3, .none)] → (l, listOf (List.toArray vs) k) ∈ own → vs.length ≤ 100 → Miss w own e b ((vs.length : Int) == 0)
  | other {e b kd} : KindRec w own b kd → strNe kd (Str.ofString "missing") = true → strNe kd (Str.ofString "dots") = true → strNe kd (Str.ofString "promise") = true → Miss w own e b false
  | dflt {e b ex e' n} : PRec w own b ex (.ref e') → EnvNum w own e n → EnvNum w own e' n → Miss w own e b true
  | done {e b x kd} : PRec w own b (.ref x) .none → KindRec w own x kd → Miss w own e b false
  | call {e b x e' n n' kd} : PRec w own b (.ref x) (.ref e') → EnvNum w own e n → EnvNum w own e' n' → (n' == n) = false → KindRec w own x kd → strNe kd (Str.ofString "symbol") = true → Miss w own e b false
  | sym {e b x e' n n' nm kvs b' r} : PRec w own b (.ref x) (.ref e') → EnvNum w own e n → EnvNum w own e' n' → (n' == n) = false → SymRec w own x nm → EnvAt w own e' kvs → valueAt kvs nm = some (.ref b') → Miss w own e' b' r → Miss w own e b r

theorem reg_j_miss_1 : True := by
  k_with "kpc_turns" => (((with_reducible show wpAny _ _ (call (Value.ref 429) _) _ _ _); first
  | ((with_reducible refine' Tell.use (t_is_default_n _ _ _ _ _ _ _ _ _ _ _ _ _ _ _ _ _ _ ?zqzhb) ?zqB ?zqF ?zqX ?zqN ?zqsub ?zqT ?zqhk ?zqhd ?zqhu ?_); (case zqB => k_asm); (case zqF => k_asm); (case zqX => k_asm); (case zqN => k_asm); (case zqsub => exact subRefl); (case zqT => k_asm); (case zqhk => rfl); (case zqhd => first | exact lim (by assumption) rfl | k_extra "OM"); (case zqhu => first | exact lim (by assumption) rfl | k_extra "OM"); (case zqzhb => assumption); intro zqr' zqnews' zqh' zqtk' zqF' zqN' zqpo0'; (refine sp2 zqpo0' ?_); clear zqpo0'; intro zqe1 zqe2; subst zqe1; subst zqe2; (try k_sweep))
  | ((with_reducible refine' Tell.use (t_is_default_e _ _ _ _ _ _ _ _ _ _ _ _ _ _ _ _ _ _ _ _ _ _ _ _ _ _ _ _ _ _ _ _ _ _ _ _ _ _ _ _ _ _ _ _ _ _ _ _ _ ?zqzhb ?zqzhe ?zqzhf) ?zqB ?zqF ?zqX ?zqN ?zqsub ?zqT ?zqhk ?zqhd ?zqhu ?_); (case zqB => k_asm); (case zqF => k_asm); (case zqX => k_asm); (case zqN => k_asm); (case zqsub => exact subRefl); (case zqT => k_asm); (case zqhk => rfl); (case zqhd => first | exact lim (by assumption) rfl | k_extra "OM"); (case zqhu => first | exact lim (by assumption) rfl | k_extra "OM"); (case zqzhb => assumption); (case zqzhe => assumption); (case zqzhf => assumption); intro zqr' zqnews' zqh' zqtk' zqF' zqN' zqpo0'; (refine sp2 zqpo0' ?_); clear zqpo0'; intro zqe1 zqe2; subst zqe1; subst zqe2; (try k_sweep))))
  trivial
theorem t_missing_argument (w : World) (mean : ExcName → Option Value) (mg mb : Str → Option Value) (own : Led) (e b : Addr) (nm : Str) (tn : Tok) (kvs : List (Str × Value)) (r : Bool) (he : EnvAt w own e kvs) (hv : valueAt kvs nm = some (.ref b)) (hm : Miss w own e b r) :
    Tell w mean mg mb 8 436 [.none, .str nm tn, .ref e] own (fun r' news' => r' = .bool r ∧ news' = own) := by
  obtain ⟨s1, s2, s3, s4, s5, s6, s7, w1, w2, w3, w4, f, w6, w7, fo, he, hf, hfo, lo⟩ := he
  refine' TellC.tell ?_
  refine' tellC_of [Str.ofString "interp", Str.ofString "name", Str.ofString "env"] [.none, .str nm tn, .ref e] [Str.ofString "bound"] [Str.ofString "lookup_here", Str.ofString "Refusal", Str.ofString "is_default", Str.ofString "len"] ?ho ?hcd ?hb rfl ?hl ?hg ?hc ?h1 ?h2 ?R
  case ho => k_dflt k_is
  case hcd => k_dflt k_is
  case hb => exact fun _ _ _ _ => BindsTo.of_eq rfl
  case hl => kernel_rfl!
  case hg => kernel_rfl!
  case hc => kernel_rfl!
  case h1 => rfl
  case h2 => rfl
  intro LT GT dp un gd outer A₀ base g L s B F X N T hd hu
  simp only [List.map, List.cons_append, List.nil_append, List.append_nil] at F LT
  obtain ⟨hp, ge, dr, tk, os⟩ := s
  k_extra "S0"
  show WhlRest _ _ _ _ _ _ _ _ _ _ _
  clear he hv hf hfo lo
  rename Fr _ _ _ _ => F1
  rename News _ _ _ _ => N1
  rename Heap => h1
  rename Nat => tk1
  generalize tk1 + 1 = tk2
  induction hm generalizing h1 tk2 with
  | mis hk =>
    obtain ⟨C, ks, t, u0, tvs, hc, ha, hn, hr⟩ := hk
    refine whl_one ?_
    k_extra "S0"
    · refine' RunEnd.intro ?zf3 ?zn3 ?zp3
      case zf3 => k_asm
      case zn3 => k_asm
      case zp3 => exact ⟨rfl, rfl⟩
  | dots hd hl hz =>
    refine whl_one ?_
    k_extra "S0"
    · refine' RunEnd.intro ?zf4 ?zn4 ?zp4
      case zf4 => k_asm
      case zn4 => k_asm
      case zp4 => exact ⟨rfl, rfl⟩
  | other hk h1 h2 h3 =>
    obtain ⟨C, ks, t, u0, tvs, hc, ha, hn, hr⟩ := hk
    refine whl_one ?_
    k_extra "S0"
    · refine' RunEnd.intro ?zf5 ?zn5 ?zp5
      case zf5 => k_asm
      case zn5 => k_asm
      case zp5 => exact ⟨rfl, rfl⟩
  | dflt hb he he' =>
    obtain ⟨t1, t2, t3, t4, t5, t6, u, v4, v5, v6, hb⟩ := hb
    obtain ⟨s1, s2, s3, s4, s5, s6, s7, sn, w1, w3, w4, w5, w6, w7, he⟩ := he
    obtain ⟨q1, q2, q3, q4, q5, q6, q7, qn, z1, z3, z4, z5, z6, z7, he'⟩ := he'
    refine whl_one ?_
    k_extra "S0"
    all_goals try (exfalso; simp_all; done)
    · refine' RunEnd.intro ?zf6 ?zn6 ?zp6
      case zf6 => k_asm
      case zn6 => k_asm
      case zp6 => exact ⟨rfl, rfl⟩
  | done hb hk =>
    obtain ⟨t1, t2, t3, t4, t5, t6, u, v4, v5, v6, hb⟩ := hb
    obtain ⟨C, ks, t, u0, tvs, hc, ha, hn, hr⟩ := hk
    refine whl_one ?_
    k_extra "S0"
    all_goals try (exfalso; simp_all; done)
    · refine' RunEnd.intro ?zf7 ?zn7 ?zp7
      case zf7 => k_asm
      case zn7 => k_asm
      case zp7 => exact ⟨rfl, rfl⟩
    · refine' RunEnd.intro ?zf8 ?zn8 ?zp8
      case zf8 => k_asm
      case zn8 => k_asm
      case zp8 => exact ⟨rfl, rfl⟩
  | call hb he he' hne hk hs =>
    obtain ⟨t1, t2, t3, t4, t5, t6, u, v4, v5, v6, hb⟩ := hb
    obtain ⟨s1, s2, s3, s4, s5, s6, s7, sn, w1, w3, w4, w5, w6, w7, he⟩ := he
    obtain ⟨q1, q2, q3, q4, q5, q6, q7, qn, z1, z3, z4, z5, z6, z7, he'⟩ := he'
    obtain ⟨C, ks, t, u0, tvs, hc, ha, hn, hr⟩ := hk
    refine whl_one ?_
    k_extra "S0"
    all_goals try (exfalso; simp_all; done)
    · refine' RunEnd.intro ?zf9 ?zn9 ?zp9
      case zf9 => k_asm
      case zn9 => k_asm
      case zp9 => exact ⟨rfl, rfl⟩
  | sym hb he he' hne hs hat hv hm ih =>
    obtain ⟨t1, t2, t3, t4, t5, t6, u, v4, v5, v6, hb⟩ := hb
    obtain ⟨s1, s2, s3, s4, s5, s6, s7, sn, w1, w3, w4, w5, w6, w7, he⟩ := he
    obtain ⟨q1, q2, q3, q4, q5, q6, q7, qn, z1, z3, z4, z5, z6, z7, he'⟩ := he'
    obtain ⟨y1, y2, y3, y4, y5, hs⟩ := hs
    obtain ⟨s1, s2, s3, s4, s5, s6, s7, w1, w2, w3, w4, f, w6, w7, fo, hat, hf, hfo, lo⟩ := hat
    refine whl_one ?_
    k_extra "S0"
    all_goals try (exfalso; simp_all; done)
    exact ih _ (by assumption) (by assumption) _
end SJMiss

theorem reg_macros_j : True := by
  k_with "kpc_turns" => (((with_reducible show wpAny _ _ (call (Value.ref 436) _) _ _ _); (with_reducible refine' Tell.use (t_missing_argument _ _ _ _ _ _ _ _ _ _ _ ?zqz11 ?zqz12 ?zqz13) ?zqB ?zqF ?zqX ?zqN ?zqsub ?zqT ?zqhk ?zqhd ?zqhu ?_); (case zqB => k_asm); (case zqF => k_asm); (case zqX => k_asm); (case zqN => k_asm); (case zqsub => exact subRefl); (case zqT => k_asm); (case zqhk => rfl); (case zqhd => first | exact lim (by assumption) rfl | k_extra "OM"); (case zqhu => first | exact lim (by assumption) rfl | k_extra "OM"); (case zqz11 => assumption); (case zqz12 => assumption); (case zqz13 => assumption); intro zqr' zqnews' zqh' zqtk' zqF' zqN' zqpo0'; (refine sp2 zqpo0' ?_); clear zqpo0'; intro zqe1 zqe2; subst zqe1; subst zqe2; (try k_sweep)))
  trivial
section SLMatch
noncomputable def TagsFn (vs : List Value) (n : Nat) (T : Nat → Str) : Prop := vs.length = n ∧ ∀ p, p < n → ∃ t, vs[p]? = some (.str (T p) t)
noncomputable def IntsFn (vs : List Value) (n : Nat) (f : Nat → Int) : Prop := vs.length = n ∧ ∀ p, p < n → ∃ t, vs[p]? = some (.int (f p) t)
inductive MatchRec (w : World) (own : Led) (M lf lt lu dp : Addr) : Prop
  | mk (t1) (t2) (t3) (t4) (c0 : Rec w own M 110 ksMatching [(t1, .ref lf), (t2, .ref lt), (t3, .ref lu), (t4, .ref dp)]) : MatchRec w own M lf lt lu dp
theorem MatchRec.mono {w : World} {own own' : Led} {M lf lt lu dp : Addr} (h : MatchRec w own M lf lt lu dp) (hs : ∀ p ∈ own, p ∈ own') : MatchRec w own' M lf lt lu dp :=
  let ⟨t1, t2, t3, t4, r⟩ := h; ⟨t1, t2, t3, t4, r.mono hs⟩
noncomputable def PlOk (kvs : List (Str × Value)) (n : Nat) (T : Nat → Str) (D : Str → Nat → Prop) : Prop :=
  ∀ nm, (∃ p t, p < n ∧ T p = nm ∧ D nm p ∧ valueAt kvs nm = some (.int p t)) ∨ (valueAt kvs nm = none ∧ ∀ p, p < n → T p = nm → ¬ D nm p)
noncomputable def usedAt (T : Nat → Str) (D : Str → Nat → Prop) [∀ a b, Decidable (D a b)] (p : Nat) : Int := if D (T p) p then 2 else 0
noncomputable def exD (i : Nat) (nm : Str) (_ : Nat) : Prop := (nm = xyN 0 ∧ 0 < i) ∨ (nm = xyN 1 ∧ 1 < i)
noncomputable instance (i : Nat) (nm : Str) (p : Nat) : Decidable (exD i nm p) := by unfold exD; infer_instance
noncomputable def inD (i j : Nat) (nm : Str) (p : Nat) : Prop := exD i nm p ∨ (nm = xyN i ∧ p < j)
noncomputable instance (i j : Nat) (nm : Str) (p : Nat) : Decidable (inD i j nm p) := by unfold inD; infer_instance
theorem xyN_ne : xyN 0 ≠ xyN 1 := by decide +kernel
theorem inD_zero {i : Nat} {nm : Str} {p : Nat} : inD i 0 nm p ↔ exD i nm p := by simp [inD]
theorem inD_full {i n : Nat} {nm : Str} {p : Nat} (hp : p < n) (hi : i < 2) : inD i n nm p ↔ exD (i + 1) nm p := by
  have h : i = 0 ∨ i = 1 := by k_extra "OM"
  rcases h with rfl | rfl <;> simp [inD, exD, hp] <;> try (intro h; exact .inl h)
theorem usedAt_congr {T : Nat → Str} {D D' : Str → Nat → Prop} [∀ a b, Decidable (D a b)] [∀ a b, Decidable (D' a b)] {p : Nat} (h : D (T p) p ↔ D' (T p) p) : usedAt T D p = usedAt T D' p := by
  unfold usedAt
  by_cases q : D (T p) p
  · rw [if_pos q, if_pos (h.mp q)]
  · rw [if_neg q, if_neg (fun z => q (h.mpr z))]
theorem IntsFn.congr {vs : List Value} {n : Nat} {f f' : Nat → Int} (h : IntsFn vs n f) (k : ∀ p, p < n → f p = f' p) : IntsFn vs n f' := ⟨h.1, fun p hp => by rw [← k p hp]; exact h.2 p hp⟩
theorem IntsFn.set {vs : List Value} {n j : Nat} {f f' : Nat → Int} {x : Int} {t : Tok} (h : IntsFn vs n f) (hj : j < n) (hx : f' j = x) (k : ∀ p, p < n → p ≠ j → f p = f' p) : IntsFn (vs.set j (.int x t)) n f' := by
  refine ⟨by rw [List.length_set]; exact h.1, fun p hp => ?_⟩
  by_cases e : p = j
  · subst e; exact ⟨t, by rw [List.getElem?_set_self (by rw [h.1]; exact hp), hx]⟩
  · rw [List.getElem?_set_ne (Ne.symm e), ← k p hp e]; exact h.2 p hp
theorem PlOk.congr {kvs : List (Str × Value)} {n : Nat} {T : Nat → Str} {D D' : Str → Nat → Prop} (h : PlOk kvs n T D) (k : ∀ nm p, p < n → (D nm p ↔ D' nm p)) : PlOk kvs n T D' := by
  intro nm
  rcases h nm with ⟨p, t, h1, h2, h3, h4⟩ | ⟨h1, h2⟩
  · exact .inl ⟨p, t, h1, h2, (k nm p h1).mp h3, h4⟩
  · exact .inr ⟨h1, fun p hp e d => h2 p hp e ((k nm p hp).mpr d)⟩
theorem valueAt_cons {p : Str × Value} {r : List (Str × Value)} {k : Str} : valueAt (p :: r) k = if p.1 = k then some p.2 else valueAt r k := by
  unfold valueAt
  by_cases e : p.1 = k <;> simp [List.find?_cons, e]
theorem valueAt_stored {kvs : List (Str × Value)} {k k' : Str} {v : Value} : valueAt (stored kvs k v) k' = if k = k' then some v else valueAt kvs k' := by
  unfold stored
  by_cases h : (kvs.any fun kv => kv.1 = k) = true
  · rw [if_pos h]
    induction kvs with
    | nil => simp at h
    | cons p r ih =>
      rw [List.map_cons, valueAt_cons, valueAt_cons]
      by_cases e : p.1 = k
      · rw [if_pos e]
        by_cases e2 : k = k'
        · rw [if_pos (e.trans e2), if_pos e2]
        · rw [if_neg (fun q => e2 (e.symm.trans q)), if_neg e2, if_neg (fun q => e2 (e.symm.trans q))]
          by_cases h2 : (r.any fun kv => kv.1 = k) = true
          · rw [ih h2, if_neg e2]
          · congr 1
            clear ih h
            induction r with
            | nil => rfl
            | cons q r ih =>
              simp only [List.any_cons, Bool.or_eq_true, decide_eq_true_eq, not_or] at h2
              rw [List.map_cons, if_neg h2.1, ih h2.2]
      · rw [if_neg e]
        have h2 : (r.any fun kv => kv.1 = k) = true := by simpa [e] using h
        rw [ih h2]
        by_cases e2 : k = k'
        · rw [if_neg (fun q => e (q.trans e2.symm)), if_pos e2, if_pos e2]
        · rw [if_neg e2, if_neg e2]
  · rw [if_neg h]
    induction kvs with
    | nil => simp [valueAt_cons, valueAt]
    | cons p r ih =>
      simp only [List.any_cons, Bool.or_eq_true, decide_eq_true_eq, not_or] at h
      rw [List.cons_append, valueAt_cons, valueAt_cons, ih h.2]
      by_cases e2 : k = k'
      · rw [if_pos e2, if_neg (fun q => h.1 (q.trans e2.symm)), if_pos e2]
      · rw [if_neg e2, if_neg e2]
theorem stored_len {kvs : List (Str × Value)} {k : Str} {v : Value} : (stored kvs k v).length ≤ kvs.length + 1 := by
  unfold stored
  split <;> simp
theorem PlOk.start {n : Nat} {T : Nat → Str} {D : Str → Nat → Prop} (h : ∀ nm p, ¬ D nm p) : PlOk [] n T D := fun nm => .inr ⟨rfl, fun p _ _ => h nm p⟩
theorem PlOk.put {kvs : List (Str × Value)} {n j i : Nat} {T : Nat → Str} {t : Tok} (h : PlOk kvs n T (inD i j)) (hj : j < n) (hT : T j = xyN i) (hu : ∀ p, p < n → T p = xyN i → p = j) :
    PlOk (stored kvs (xyN i) (.int j t)) n T (inD i (j + 1)) := by
  intro nm
  rw [valueAt_stored]
  by_cases e : xyN i = nm
  · rw [if_pos e]
    exact .inl ⟨j, t, hj, hT.trans e, .inr ⟨e.symm, Nat.lt_succ_self _⟩, rfl⟩
  · rw [if_neg e]
    rcases h nm with ⟨p, t, h1, h2, h3, h4⟩ | ⟨h1, h2⟩
    · refine .inl ⟨p, t, h1, h2, ?_, h4⟩
      rcases h3 with h3 | h3
      · exact .inl h3
      · exact absurd h3.1.symm e
    · refine .inr ⟨h1, fun p hp eT d => h2 p hp eT ?_⟩
      rcases d with d | d
      · exact .inl d
      · exact absurd d.1.symm e
theorem PlOk.skip {kvs : List (Str × Value)} {n j i : Nat} {T : Nat → Str} (h : PlOk kvs n T (inD i j)) (hT : T j ≠ xyN i) : PlOk kvs n T (inD i (j + 1)) := by
  intro nm
  rcases h nm with ⟨p, t, h1, h2, h3, h4⟩ | ⟨h1, h2⟩
  · refine .inl ⟨p, t, h1, h2, ?_, h4⟩
    rcases h3 with h3 | ⟨h3, h5⟩
    · exact .inl h3
    · exact .inr ⟨h3, Nat.lt_succ_of_lt h5⟩
  · refine .inr ⟨h1, fun p hp eT d => h2 p hp eT ?_⟩
    rcases d with d | ⟨d, h5⟩
    · exact .inl d
    · by_cases q : p = j
      · subst q; exact absurd (eT.trans d) hT
      · exact .inr ⟨d, by k_extra "OM"⟩
theorem PlOk.open_ {kvs : List (Str × Value)} {n j i : Nat} {T : Nat → Str} (h : PlOk kvs n T (inD i j)) (hj : j < n) (hT : T j = xyN i) (hu : ∀ p, p < n → T p = xyN i → p = j) (hi : i < 2) : (valueAt kvs (xyN i)).isSome = false := by
  rcases h (xyN i) with ⟨p, t, h1, h2, h3, h4⟩ | ⟨h1, h2⟩
  · exfalso
    have e := hu p h1 h2
    subst e
    have h : i = 0 ∨ i = 1 := by k_extra "OM"
    rcases h3 with h3 | h3
    · rcases h with rfl | rfl
      · rcases h3 with ⟨_, q⟩ | ⟨_, q⟩ <;> omega
      · rcases h3 with ⟨q, _⟩ | ⟨_, q⟩
        · exact xyN_ne q.symm
        · omega
    · omega
  · rw [h1]; rfl
theorem exD_open {i j : Nat} (hi : i < 2) : ¬ inD i j (xyN i) j := by
  have h : i = 0 ∨ i = 1 := by k_extra "OM"
  rintro (h3 | h3)
  · rcases h with rfl | rfl
    · rcases h3 with ⟨_, q⟩ | ⟨_, q⟩ <;> omega
    · rcases h3 with ⟨q, _⟩ | ⟨_, q⟩
      · exact xyN_ne q.symm
      · omega
  · omega
theorem t_exact (w : World) (mean : ExcName → Option Value) (mg mb : Str → Option Value) (own : Led) (M lf lt lu dpl : Addr) (n : Nat) (tg : Nat → Str) (tv us : List Value) (po : Obj) (n1 n2 n3 : Nat) (k1 k2 k3 : Tok)
    (hM : MatchRec w own M lf lt lu dpl) (hlf : (lf, listOf [.str (xyN 0) k1, .str (xyN 1) k2, .str (Str.ofString "...") k3].toArray n1) ∈ own) (hlt : (lt, listOf tv.toArray n2) ∈ own) (htv : TagsFn tv n tg) (hn : n ≤ 10) (hun : ∀ i : Nat, i < 2 → ∀ p q, p < n → q < n → tg p = xyN i → tg q = xyN i → p = q)
    (hus : IntsFn us n fun _ => 0) (hpo : po.IsDictOf (strKind PR w) []) (lo : (dpl == sysModules) = false) (hne : @LT.lt Nat _ lu dpl) (ha1 : AllLt lu own) (ha2 : AllLt dpl own) :
    Tell w mean mg mb 4 74 [.ref M] ((lu, listOf us.toArray n3) :: (dpl, po) :: own) (fun r news' => ∃ us' po' kvs, r = .none ∧ news' = (lu, listOf us'.toArray n3) :: (dpl, po') :: own ∧ IntsFn us' n (usedAt tg (exD 2)) ∧ po'.IsDictOf (strKind PR w) kvs ∧ PlOk kvs n tg (exD 2)) := by
  have htvl : tv.length ≤ 1000 := by have := htv.1; omega
  obtain ⟨t1, t2, t3, t4, hM⟩ := hM
  refine' TellC.tell ?_
  refine' tellC_of [Str.ofString "self"] [.ref M] [Str.ofString "name", Str.ofString "place"] [Str.ofString "len", Str.ofString "range", Str.ofString "Refusal", Str.ofString "doubled_text"] ?ho ?hcd ?hb rfl ?hl ?hg ?hc ?h1 ?h2 ?R
  case ho => k_dflt k_is
  case hcd => k_dflt k_is
  case hb => exact fun _ _ _ _ => BindsTo.of_eq rfl
  case hl => kernel_rfl!
  case hg => kernel_rfl!
  case hc => kernel_rfl!
  case h1 => rfl
  case h2 => rfl
  intro LT GT dp un gd outer A₀ base g L s B F X N T hd hu
  simp only [List.map, List.cons_append, List.nil_append, List.append_nil] at F LT
  obtain ⟨hp, ge, dr, tk, os⟩ := s
  k_extra "SK"
  rename Addr => I1
  refine' lst_inv [.str (xyN 0) k1, .str (xyN 1) k2, .str (Str.ofString "...") k3] (fun i vs news => ∃ v2 v3 us po kvs, vs = [some (.ref M), v2, v3] ∧ news = (lu, listOf us.toArray n3) :: (dpl, po) :: own ∧ IntsFn us n (usedAt tg (exD (min i 2))) ∧ po.IsDictOf (strKind PR w) kvs ∧ PlOk kvs n tg (exD (min i 2)) ∧ kvs.length ≤ i * 10)
    ?hh LT ?F ?N ?hI ?ho 1 ?hx ?hJ ?start ?step ?fin
  case hh => rfl
  case F => k_asm
  case N => k_asm
  case hI => (first | k_all | fail "k_all")
  case ho => assumption
  case hx => rfl
  case hJ => rintro i vs news ⟨v2, v3, us, po, kvs, rfl, rfl, _⟩; exact ⟨rfl, by k_mem⟩
  case start => exact ⟨_, _, us, po, [], rfl, rfl, hus.congr fun p _ => by simp [usedAt, exD], hpo, PlOk.start fun nm p => by simp [exD], by simp⟩
  case fin =>
    rintro vs news h tk ⟨v2, v3, us', po', kvs, rfl, rfl, h1, h2, h3, _⟩ F N
    k_extra "SK"
    · refine' RunEnd.intro ?zf1 ?zn1 ?zp1
      case zf1 => k_asm
      case zn1 => k_asm
      case zp1 => exact ⟨us', po', kvs, rfl, rfl, h1, h2, h3⟩
  case step =>
    rintro i v vs news h tk o hv ⟨v2, v3, us', po', kvs, rfl, rfl, h1, h2, h3, h4⟩ F N ho hI
    simp only [List.set_cons_succ, List.set_cons_zero] at F
    have hi3 : i < 3 := by
      have := (List.getElem?_eq_some_iff.mp hv).1
      simpa using this
    by_cases hi2 : i < 2
    · have hv' : v = .str (xyN i) (if i = 0 then k1 else k2) := by
        have : i = 0 ∨ i = 1 := by k_extra "OM"
        rcases this with rfl | rfl
        · simpa using hv.symm
        · simpa using hv.symm
      subst hv'
      have hnd : strNe (xyN i) (Str.ofString "...") = true := by
        have : i = 0 ∨ i = 1 := by k_extra "OM"
        rcases this with rfl | rfl <;> decide +kernel
      generalize (if i = 0 then k1 else k2) = kn at F
      k_extra "SK"
      rename Addr => I2
      refine' rng_inv n (fun j vs news => ∃ v3 us po kvs, vs = [some (.ref M), some (.str (xyN i) kn), v3] ∧ news = (I1, o) :: (lu, listOf us.toArray n3) :: (dpl, po) :: own ∧ IntsFn us n (usedAt tg (inD i j)) ∧ po.IsDictOf (strKind PR w) kvs ∧ PlOk kvs n tg (inD i j) ∧ kvs.length ≤ i * 10 + j)
        ?hb ?hh LT ?F ?N ?hI 2 ?hx ?hJ ?start ?step ?fin
      case hh => rfl
      case F => k_asm
      case N => k_asm
      case hb => have := htv.1; omega
      case hI => (first | k_all | fail "k_all")
      case hx => rfl
      case hJ => rintro i vs news ⟨v3, us, po, kvs, rfl, rfl, _⟩; rfl
      case start => exact ⟨_, us', po', kvs, rfl, rfl, h1.congr fun p _ => by rw [show min i 2 = i by k_extra "OM"]; exact usedAt_congr inD_zero.symm, h2, h3.congr fun nm p _ => by rw [show min i 2 = i by k_extra "OM"]; exact inD_zero.symm, by simpa using h4⟩
      case fin =>
        clear h1 h2 h3 h4
        rintro vs news h tk ⟨v3, us', po', kvs, rfl, rfl, h1, h2, h3, h4⟩ F N
        k_extra "SK"
        exact TurnEnd.intro (by k_asm) (by k_asm) (by (first | k_upd | fail "k_upd")) (by k_mem) ho ⟨.inl rfl, _, _, _, _, _, rfl, rfl, h1.congr fun p hp => by rw [show min (i + 1) 2 = i + 1 by k_extra "OM"]; exact usedAt_congr (inD_full hp hi2), h2, h3.congr fun nm p hp => by rw [show min (i + 1) 2 = i + 1 by k_extra "OM"]; exact inD_full hp hi2, by k_extra "OM"⟩
      case step =>
        clear h1 h2 h3 h4
        rintro j vs news h tk hj ⟨v3, us', po', kvs, rfl, rfl, h1, h2, h3, h4⟩ F N off
        simp only [List.set_cons_succ, List.set_cons_zero] at F
        obtain ⟨tt, ht⟩ := htv.2 j hj
        obtain ⟨tu, hu'⟩ := h1.2 j hj
        have h1l := h1.1
        have ht2 : tv[((j : Nat) : Int).toNat]? = some (.str (tg j) tt) := by simpa using ht
        have hu2 : us'[((j : Nat) : Int).toNat]? = some (.int (usedAt tg (inD i j) j) tu) := by simpa using hu'
        by_cases hc : tg j = xyN i
        · rw [hc] at ht2
          have h0 : usedAt tg (inD i j) j = 0 := by
            unfold usedAt
            rw [hc, if_neg (exD_open hi2)]
          rw [h0] at hu2
          have hop := h3.open_ hj hc (fun p hp e => hun i hi2 p j hp hj e hc) hi2
          k_extra "SK"
          refine TurnEnd.intro (by k_asm) (by k_asm) (by (first | k_upd | fail "k_upd")) (by k_mem) rfl ⟨.inl rfl, _, _, _, _, rfl, rfl, ?_, by assumption, h3.put hj hc (fun p hp e => hun i hi2 p j hp hj e hc), Nat.le_trans stored_len (by k_extra "OM")⟩
          rw [Int.toNat_natCast]
          refine h1.set hj ?_ fun p hp hne => usedAt_congr ?_
          · unfold usedAt; rw [if_pos (.inr ⟨hc, Nat.lt_succ_self _⟩)]
          · simp only [inD]; constructor
            · rintro (q | ⟨q, q2⟩); exact .inl q; exact .inr ⟨q, by k_extra "OM"⟩
            · rintro (q | ⟨q, q2⟩); exact .inl q; exact .inr ⟨q, by k_extra "OM"⟩
        · have hc2 : strNe (tg j) (xyN i) = true := by simpa [strNe] using hc
          k_extra "SK"
          refine TurnEnd.intro (by k_asm) (by k_asm) (by (first | k_upd | fail "k_upd")) (by k_mem) rfl ⟨.inl rfl, _, _, _, _, rfl, rfl, h1.congr fun p hp => usedAt_congr ?_, by assumption, h3.skip hc, by k_extra "OM"⟩
          simp only [inD]; constructor
          · rintro (q | ⟨q, q2⟩); exact .inl q; exact .inr ⟨q, by k_extra "OM"⟩
          · rintro (q | ⟨q, q2⟩); exact .inl q
            by_cases e : p = j
            · subst e; exact absurd q hc
            · exact .inr ⟨q, by k_extra "OM"⟩
    · obtain rfl : i = 2 := by k_extra "OM"
      obtain rfl : v = .str (Str.ofString "...") k3 := by simpa using hv.symm
      k_extra "SK"
      exact TurnEnd.intro (by k_asm) (by k_asm) (by (first | k_upd | fail "k_upd")) (by k_mem) ho ⟨.inl rfl, _, _, _, _, _, rfl, rfl, h1, h2, h3, by k_extra "OM"⟩
end SLMatch

theorem reg_macros_l : True := by
  k_with "k_caughtB" => (first | (with_reducible assumption) | (with_reducible exact Rec.mono (by with_reducible assumption) (by repeat' (first | (with_reducible exact subRefl) | (with_reducible exact subNil) | (with_reducible exact subLeft) | (with_reducible refine' subBoth ?_ ?_) | (refine' subCons (by k_mem) ?_) | (with_reducible refine' subTail ?_) | (with_reducible refine' subApp ?_)))) | (with_reducible exact KindRec.mono (by with_reducible assumption) (by repeat' (first | (with_reducible exact subRefl) | (with_reducible exact subNil) | (with_reducible exact subLeft) | (with_reducible refine' subBoth ?_ ?_) | (refine' subCons (by k_mem) ?_) | (with_reducible refine' subTail ?_) | (with_reducible refine' subApp ?_)))) | (with_reducible exact MatchRec.mono (by with_reducible assumption) (by repeat' (first | (with_reducible exact subRefl) | (with_reducible exact subNil) | (with_reducible exact subLeft) | (with_reducible refine' subBoth ?_ ?_) | (refine' subCons (by k_mem) ?_) | (with_reducible refine' subTail ?_) | (with_reducible refine' subApp ?_)))))
  trivial
section SL2
noncomputable def TagOk (n : Nat) (tg : Nat → Str) : Prop := ∀ p, p < n → tg p = xyN 0 ∨ tg p = xyN 1 ∨ tg p = Str.ofString "zz"
theorem exD2 {tg : Nat → Str} {p : Nat} : exD 2 (tg p) p ↔ (tg p = xyN 0 ∨ tg p = xyN 1) := by simp [exD]
theorem xy_cases {i : Nat} (h : i < 2) : i = 0 ∨ i = 1 := by k_extra "OM"
theorem sw_xy {nm : Str} (h : nm = xyN 0 ∨ nm = xyN 1) : Txt.startswith nm (Str.ofString "zz") = false := by
  rcases h with rfl | rfl <;> decide +kernel
theorem t_partial_of (w : World) (mean : ExcName → Option Value) (mg mb : Str → Option Value) (own : Led) (M lf lt lu dpl : Addr) (n : Nat) (tg : Nat → Str) (tv us : List Value) (n2 n3 : Nat) (nm : Str) (kn : Tok)
    (hM : MatchRec w own M lf lt lu dpl) (hlt : (lt, listOf tv.toArray n2) ∈ own) (hlu : (lu, listOf us.toArray n3) ∈ own) (htv : TagsFn tv n tg) (hn : n ≤ 10) (hok : TagOk n tg) (hus : IntsFn us n (usedAt tg (exD 2))) (hi : nm = xyN 0 ∨ nm = xyN 1) :
    Tell w mean mg mb 3 88 [.ref M, .str nm kn] own (fun r news' => r = .none ∧ news' = own) := by
  have htvl : tv.length ≤ 1000 := by have := htv.1; omega
  obtain ⟨t1, t2, t3, t4, hM⟩ := hM
  refine' TellC.tell ?_
  refine' tellC_of [Str.ofString "self", Str.ofString "name"] [.ref M, .str nm kn] [Str.ofString "place", Str.ofString "tag"] [Str.ofString "len", Str.ofString "range", Str.ofString "Refusal", Str.ofString "doubled_text"] ?ho ?hcd ?hb rfl ?hl ?hg ?hc ?h1 ?h2 ?R
  case ho => k_dflt k_is
  case hcd => k_dflt k_is
  case hb => exact fun _ _ _ _ => BindsTo.of_eq rfl
  case hl => kernel_rfl!
  case hg => kernel_rfl!
  case hc => kernel_rfl!
  case h1 => rfl
  case h2 => rfl
  intro LT GT dp un gd outer A₀ base g L s B F X N T hd hu
  simp only [List.map, List.cons_append, List.nil_append, List.append_nil] at F LT
  obtain ⟨hp, ge, dr, tk, os⟩ := s
  k_extra "SK"
  rename Addr => I1
  refine' rng_inv n (fun j vs news => ∃ v3 v4, vs = [some (.ref M), some (.str nm kn), v3, v4] ∧ news = own)
        ?hb ?hh LT ?F ?N ?hI 2 ?hx ?hJ ?start ?step ?fin
  case hh => rfl
  case F => k_asm
  case N => k_asm
  case hb => have := htv.1; omega
  case hI => (first | k_all | fail "k_all")
  case hx => rfl
  case hJ => rintro i vs news ⟨v3, v4, rfl, _⟩; rfl
  case start => exact ⟨_, _, rfl, rfl⟩
  case fin =>
    rintro vs news h tk ⟨v3, v4, rfl, rfl⟩ F N
    k_extra "SK"
    · refine' RunEnd.intro ?zf1 ?zn1 ?zp1
      case zf1 => k_asm
      case zn1 => k_asm
      case zp1 => exact ⟨rfl, rfl⟩
  case step =>
    rintro j vs news h tk hj ⟨v3, v4, rfl, rfl⟩ F N off
    simp only [List.set_cons_succ, List.set_cons_zero] at F
    obtain ⟨tt, ht⟩ := htv.2 j hj
    obtain ⟨tu, hu'⟩ := hus.2 j hj
    have ht2 : tv[((j : Nat) : Int).toNat]? = some (.str (tg j) tt) := by simpa using ht
    have hu2 : us[((j : Nat) : Int).toNat]? = some (.int (usedAt tg (exD 2) j) tu) := by simpa using hu'
    by_cases hc : tg j = xyN 0 ∨ tg j = xyN 1
    · rw [show usedAt tg (exD 2) j = 2 from if_pos (exD2.mpr hc)] at hu2
      k_extra "SK"
      exact TurnEnd.intro (by k_asm) (by k_asm) (by (first | k_upd | fail "k_upd")) (by k_mem) rfl ⟨.inl rfl, _, _, rfl, rfl⟩
    · rw [show usedAt tg (exD 2) j = 0 from if_neg (fun q => hc (exD2.mp q))] at hu2
      have hz : tg j = Str.ofString "zz" := by rcases hok j hj with q | q | q; exact absurd (.inl q) hc; exact absurd (.inr q) hc; exact q
      rw [hz] at ht2
      k_extra "SK"
      · exfalso
        rename Txt.startswith _ _ = true => q
        rw [sw_xy hi] at q
        cases q
      · exact TurnEnd.intro (by k_asm) (by k_asm) (by (first | k_upd | fail "k_upd")) (by k_mem) rfl ⟨.inl rfl, _, _, rfl, rfl⟩
end SL2

theorem reg_macros_l2 : True := by
  k_with "kpc_turns" => (((with_reducible show wpAny _ _ (call (Value.ref 88) _) _ _ _); (with_reducible refine' Tell.use (t_partial_of _ _ _ _ _ _ _ _ _ _ _ _ _ _ _ _ _ _ ?zqz18 ?zqz19 ?zqz20 ?zqz21 ?zqz22 ?zqz23 ?zqz24 ?zqz25) ?zqB ?zqF ?zqX ?zqN ?zqsub ?zqT ?zqhk ?zqhd ?zqhu ?_); (case zqB => k_asm); (case zqF => k_asm); (case zqX => k_asm); (case zqN => k_asm); (case zqsub => exact subRefl); (case zqT => k_asm); (case zqhk => rfl); (case zqhd => first | exact lim (by assumption) rfl | k_extra "OM"); (case zqhu => first | exact lim (by assumption) rfl | k_extra "OM"); (case zqz18 => first | (with_reducible assumption) | k_extra "k_caughtB"); (case zqz19 => k_mem); (case zqz20 => k_mem); (case zqz21 => first | (with_reducible assumption) | k_extra "k_caughtB"); (case zqz22 => first | (with_reducible assumption) | k_extra "k_caughtB"); (case zqz23 => first | (with_reducible assumption) | k_extra "k_caughtB"); (case zqz24 => first | (with_reducible assumption) | k_extra "k_caughtB"); (case zqz25 => first | assumption | exact .inl rfl | exact .inr rfl); intro zqr' zqnews' zqh' zqtk' zqF' zqN' zqpo0'; (refine sp2 zqpo0' ?_); clear zqpo0'; intro zqe1 zqe2; subst zqe1; subst zqe2; (try k_sweep)))
  trivial
section SL3
theorem t_partial (w : World) (mean : ExcName → Option Value) (mg mb : Str → Option Value) (own : Led) (M lf lt lu dpl : Addr) (n : Nat) (tg : Nat → Str) (tv us : List Value) (po : Obj) (kvs : List (Str × Value)) (n1 n2 n3 : Nat) (k1 k2 k3 : Tok)
    (hM : MatchRec w own M lf lt lu dpl) (hlf : (lf, listOf [.str (xyN 0) k1, .str (xyN 1) k2, .str (Str.ofString "...") k3].toArray n1) ∈ own) (hlt : (lt, listOf tv.toArray n2) ∈ own) (hlu : (lu, listOf us.toArray n3) ∈ own) (hdp : (dpl, po) ∈ own) (hpo : po.IsDictOf (strKind PR w) kvs) (lo : (dpl == sysModules) = false)
    (htv : TagsFn tv n tg) (hn : n ≤ 10) (hok : TagOk n tg) (hus : IntsFn us n (usedAt tg (exD 2))) :
    Tell w mean mg mb 5 81 [.ref M] own (fun r news' => r = .none ∧ news' = own) := by
  have hM' := hM
  obtain ⟨t1, t2, t3, t4, hM⟩ := hM
  refine' TellC.tell ?_
  refine' tellC_of [Str.ofString "self"] [.ref M] [Str.ofString "name"] [] ?ho ?hcd ?hb rfl ?hl ?hg ?hc ?h1 ?h2 ?R
  case ho => k_dflt k_is
  case hcd => k_dflt k_is
  case hb => exact fun _ _ _ _ => BindsTo.of_eq rfl
  case hl => kernel_rfl!
  case hg => kernel_rfl!
  case hc => kernel_rfl!
  case h1 => rfl
  case h2 => rfl
  intro LT GT dp un gd outer A₀ base g L s B F X N T hd hu
  simp only [List.map, List.cons_append, List.nil_append, List.append_nil] at F LT
  obtain ⟨hp, ge, dr, tk, os⟩ := s
  k_extra "SLK"
  all_goals (refine' RunEnd.intro ?zf ?zn ?zp; (case zp => exact ⟨rfl, rfl⟩); (case zf => k_asm); (case zn => first | k_asm | (refine' newsSub ?zN ?zs; (case zN => k_asm); (case zs => repeat' (first | (with_reducible exact subRefl) | (with_reducible exact subNil) | (with_reducible exact subLeft) | (with_reducible refine' subBoth ?_ ?_) | (refine' subCons (by k_mem) ?_) | (with_reducible refine' subTail ?_) | (with_reducible refine' subApp ?_))) )))
theorem t_is_free (w : World) (mean : ExcName → Option Value) (mg mb : Str → Option Value) (own : Led) (M lf lt lu dpl : Addr) (n : Nat) (tg : Nat → Str) (tv us : List Value) (n2 n3 : Nat) (p : Int) (tp : Tok)
    (hM : MatchRec w own M lf lt lu dpl) (hlt : (lt, listOf tv.toArray n2) ∈ own) (hlu : (lu, listOf us.toArray n3) ∈ own) (htv : TagsFn tv n tg) (hn : n ≤ 10) (hok : TagOk n tg) (hus : IntsFn us n (usedAt tg (exD 2))) (h0 : 0 ≤ p) (hp : p < n) :
    Tell w mean mg mb 3 102 [.ref M, .int p tp] own (fun r news' => r = .bool false ∧ news' = own) := by
  obtain ⟨t1, t2, t3, t4, hM⟩ := hM
  obtain ⟨tt, ht⟩ := htv.2 p.toNat (by k_extra "OM")
  obtain ⟨tu, hu⟩ := hus.2 p.toNat (by k_extra "OM")
  have hT : strNe (tg p.toNat) (Str.ofString "") = true := by
    rcases hok p.toNat (by k_extra "OM") with q | q | q <;> rw [q] <;> decide +kernel
  refine' TellC.tell ?_
  refine' tellC_of [Str.ofString "self", Str.ofString "place"] [.ref M, .int p tp] [] [] ?ho ?hcd ?hb rfl ?hl ?hg ?hc ?h1 ?h2 ?R
  case ho => k_dflt k_is
  case hcd => k_dflt k_is
  case hb => exact fun _ _ _ _ => BindsTo.of_eq rfl
  case hl => kernel_rfl!
  case hg => kernel_rfl!
  case hc => kernel_rfl!
  case h1 => rfl
  case h2 => rfl
  intro LT GT dp un gd outer A₀ base g L s B F X N T hd hu
  simp only [List.map, List.cons_append, List.nil_append, List.append_nil] at F LT
  obtain ⟨hp, ge, dr, tk, os⟩ := s
  k_extra "SK"
  all_goals (refine' RunEnd.intro ?zf ?zn ?zp; (case zf => k_asm); (case zn => k_asm); (case zp => exact ⟨by first | rfl | (with_reducible assumption) | simp_all [retOf], rfl⟩))
end SL3

theorem reg_macros_l3 : True := by
  k_with "kpc_turns" => (((with_reducible show wpAny _ _ (call (Value.ref 102) _) _ _ _); (with_reducible refine' Tell.use (t_is_free _ _ _ _ _ _ _ _ _ _ _ _ _ _ _ _ _ _ ?zqz18 ?zqz19 ?zqz20 ?zqz21 ?zqz22 ?zqz23 ?zqz24 ?zqz25 ?zqz26) ?zqB ?zqF ?zqX ?zqN ?zqsub ?zqT ?zqhk ?zqhd ?zqhu ?_); (case zqB => k_asm); (case zqF => k_asm); (case zqX => k_asm); (case zqN => k_asm); (case zqsub => exact subRefl); (case zqT => k_asm); (case zqhk => rfl); (case zqhd => first | exact lim (by assumption) rfl | k_extra "OM"); (case zqhu => first | exact lim (by assumption) rfl | k_extra "OM"); (case zqz18 => first | (with_reducible assumption) | k_extra "k_caughtB"); (case zqz19 => k_mem); (case zqz20 => k_mem); (case zqz21 => first | (with_reducible assumption) | k_extra "k_caughtB"); (case zqz22 => first | (with_reducible assumption) | k_extra "k_caughtB"); (case zqz23 => first | (with_reducible assumption) | k_extra "k_caughtB"); (case zqz24 => first | (with_reducible assumption) | k_extra "k_caughtB"); (case zqz25 => first | assumption | k_extra "OM"); (case zqz26 => first | assumption | k_extra "OM"); intro zqr' zqnews' zqh' zqtk' zqF' zqN' zqpo0'; (refine sp2 zqpo0' ?_); clear zqpo0'; intro zqe1 zqe2; subst zqe1; subst zqe2; (try k_sweep)))
  trivial
section SL4
theorem t_positional (w : World) (mean : ExcName → Option Value) (mg mb : Str → Option Value) (own : Led) (M lf lt lu dpl : Addr) (n : Nat) (tg : Nat → Str) (tv us : List Value) (po : Obj) (kvs : List (Str × Value)) (n1 n2 n3 : Nat) (k1 k2 k3 : Tok)
    (hM : MatchRec w own M lf lt lu dpl) (hlf : (lf, listOf [.str (xyN 0) k1, .str (xyN 1) k2, .str (Str.ofString "...") k3].toArray n1) ∈ own) (hlt : (lt, listOf tv.toArray n2) ∈ own) (hlu : (lu, listOf us.toArray n3) ∈ own) (hdp : (dpl, po) ∈ own) (hpo : po.IsDictOf (strKind PR w) kvs) (lo : (dpl == sysModules) = false)
    (htv : TagsFn tv n tg) (hn : n ≤ 10) (hok : TagOk n tg) (hus : IntsFn us n (usedAt tg (exD 2))) :
    Tell w mean mg mb 5 95 [.ref M] own (fun r news' => r = .none ∧ news' = own) := by
  have hM' := hM
  obtain ⟨t1, t2, t3, t4, hM⟩ := hM
  refine' TellC.tell ?_
  refine' tellC_of [Str.ofString "self"] [.ref M] [Str.ofString "place", Str.ofString "name"] [Str.ofString "len"] ?ho ?hcd ?hb rfl ?hl ?hg ?hc ?h1 ?h2 ?R
  case ho => k_dflt k_is
  case hcd => k_dflt k_is
  case hb => exact fun _ _ _ _ => BindsTo.of_eq rfl
  case hl => kernel_rfl!
  case hg => kernel_rfl!
  case hc => kernel_rfl!
  case h1 => rfl
  case h2 => rfl
  intro LT GT dp un gd outer A₀ base g L s B F X N T hd hu
  simp only [List.map, List.cons_append, List.nil_append, List.append_nil] at F LT
  obtain ⟨hp, ge, dr, tk, os⟩ := s
  have htvl : tv.length ≤ 1000 := by have := htv.1; omega
  have htl := htv.1
  k_extra "S0"
  rename Addr => I1
  refine' lst_invR [.str (xyN 0) k1, .str (xyN 1) k2, .str (Str.ofString "...") k3] (fun i vs news => ∃ v2 p tp, vs = [some (.ref M), some (.int p tp), v2] ∧ news = own ∧ 0 ≤ p ∧ p ≤ n) (fun r vs news => r = .none ∧ news = own)
    ?hh LT ?F ?N ?hI ?ho 2 ?hx ?hJ ?start ?step ?finr ?fin
  case hh => rfl
  case F => k_asm
  case N => k_asm
  case hI => (first | k_all | fail "k_all")
  case ho => assumption
  case hx => rfl
  case hJ => rintro i vs news ⟨v2, p, tp, rfl, rfl, _⟩; exact ⟨rfl, by k_mem⟩
  case start => exact ⟨_, _, _, rfl, rfl, Int.le_refl 0, by k_extra "OM"⟩
  case finr =>
    rintro r vs news h tk ⟨rfl, rfl⟩ F N
    k_extra "S0"
    · refine' RunEnd.intro ?zf1 ?zn1 ?zp1
      case zf1 => k_asm
      case zn1 => k_asm
      case zp1 => exact ⟨rfl, rfl⟩
  case fin =>
    rintro vs news h tk ⟨v2, p, tp, rfl, rfl, _⟩ F N
    k_extra "S0"
    · refine' RunEnd.intro ?zf2 ?zn2 ?zp2
      case zf2 => k_asm
      case zn2 => k_asm
      case zp2 => exact ⟨rfl, rfl⟩
  case step =>
    rintro i v vs news h tk o hv ⟨v2, p, tp, rfl, rfl, hp0, hp1⟩ F N ho hI
    simp only [List.set_cons_succ, List.set_cons_zero] at F
    have hi3 : i < 3 := by
      have := (List.getElem?_eq_some_iff.mp hv).1
      simpa using this
    by_cases hi2 : i < 2
    · obtain ⟨nm, kn, rfl, hnm⟩ : ∃ nm kn, v = .str nm kn ∧ (nm = xyN 0 ∨ nm = xyN 1) := by
        rcases xy_cases hi2 with rfl | rfl
        · exact ⟨_, k1, by simpa using hv.symm, .inl rfl⟩
        · exact ⟨_, k2, by simpa using hv.symm, .inr rfl⟩
      have hnd : strNe nm (Str.ofString "...") = true := by
        rcases hnm with rfl | rfl <;> decide +kernel
      k_extra "S0"
      · exact TurnEnd.intro (by k_asm) (by k_asm) (by (first | k_upd | fail "k_upd")) (by k_mem) ho (.inr ⟨.inl rfl, _, _, _, rfl, rfl, hp0, hp1⟩)
      · refine' whl_rec (fun k vs news' => ∃ p tp, vs = [some (.ref M), some (.int p tp), some (.str nm kn)] ∧ news' = (I1, o) :: news ∧ 0 ≤ p ∧ p + k = n) (n - p.toNat) ?F ?N ?start ?step
        case F => k_asm
        case N => k_asm
        case start => exact ⟨p, tp, rfl, rfl, hp0, by k_extra "OM"⟩
        case step =>
          clear hp0 hp1
          rintro k vs news' h tk ⟨p, tp, rfl, rfl, hp0, hp1⟩ F N ih
          refine whl_one ?_
          k_extra "S0"
          · exact ih (k - 1) _ _ _ _ (by k_extra "OM") ⟨p + 1, _, rfl, rfl, by k_extra "OM", by k_extra "OM"⟩ (by k_asm) (by k_asm)
          · exfalso; omega
          · exact TurnEnd.intro (by k_asm) (by k_asm) (by (first | k_upd | fail "k_upd")) (by k_mem) ho (.inr ⟨.inl rfl, _, _, _, rfl, rfl, by k_extra "OM", by k_extra "OM"⟩)
    · obtain rfl : i = 2 := by k_extra "OM"
      obtain rfl : v = .str (Str.ofString "...") k3 := by simpa using hv.symm
      k_extra "S0"
      refine TurnEnd.intro (by k_asm) (by k_asm) (by (first | k_upd | fail "k_upd")) (by k_mem) ho (.inl ⟨_, rfl, rfl, rfl⟩)
end SL4
section SL5
theorem t_rest (w : World) (mean : ExcName → Option Value) (mg mb : Str → Option Value) (own : Led) (M lf lt lu dpl : Addr) (n c : Nat) (tg : Nat → Str) (tv us : List Value) (n2 n3 : Nat)
    (hM : MatchRec w own M lf lt lu dpl) (hlt : (lt, listOf tv.toArray n2) ∈ own) (hlu : (lu, listOf us.toArray n3) ∈ own)
    (htv : TagsFn tv n tg) (hn : n ≤ 10) (hus : IntsFn us n (usedAt tg (exD 2))) (hc : c ≤ n) (hc1 : ∀ p, p < c → tg p = xyN 0 ∨ tg p = xyN 1) (hc2 : ∀ p, c ≤ p → p < n → tg p = Str.ofString "zz") :
    Tell w mean mg mb 3 107 [.ref M] own (fun r news' => ∃ l rv k, r = .ref l ∧ news' = (l, listOf rv.toArray k) :: own ∧ LCg.Off1 l own ∧ IntsFn rv (n - c) fun i => c + i) := by
  have htvl : tv.length ≤ 1000 := by have := htv.1; omega
  have htl := htv.1
  obtain ⟨t1, t2, t3, t4, hM⟩ := hM
  refine' TellC.tell ?_
  refine' tellC_of1 [(Str.ofString "self", .ref M)] (Str.ofString "self") (some (.ref M)) [] [] [] [Str.ofString "len", Str.ofString "range"] ?ho ?hcd ?hb ?hcf ?hfl ?hcv ?hkd rfl ?hl ?hg ?h1 ?h2 ?R
  case ho => k_dflt k_is
  case hcd => k_dflt k_is
  case hb => exact fun _ _ _ _ => BindsTo.of_eq rfl
  case hcf => exact fun _ => rfl
  case hfl => kernel_rfl!
  case hcv => kernel_rfl!
  case hkd => simp only [List.forall_mem_cons, List.not_mem_nil, false_imp_iff, implies_true, and_true]; decide +kernel
  case hl => kernel_rfl!
  case hg => kernel_rfl!
  case h1 => rfl
  case h2 => rfl
  intro LT GT dp un gd outer A₀ base g L cc oc s B F X N hoc hlc T hd hu
  simp only [List.map, List.cons_append, List.nil_append, List.append_nil] at F LT
  obtain ⟨hp, ge, dr, tk, os⟩ := s
  k_extra "S0"
  refine' LCt.CompSrcT.range (n := n) ?hh ?F ?N ?hr ?sm ?rs ?hz ?_
  case hh => rfl
  case F => k_asm
  case N => k_asm
  case hr => assumption
  case sm => exact small_of (by decide) (by decide) (by k_extra "OM") (by k_extra "OM")
  case rs => rw [size_of (by k_extra "OM")]; omega
  case hz => rw [sizeLine_eq]; omega
  intro gg
  refine' compT_inv (fun i ys news => news = (cc, oc) :: own ∧ IntsFn ys (i - c) fun j => c + j) ?start ?step ?fin
  case start => exact ⟨rfl, by rw [show 0 - c = 0 by k_extra "OM"]; exact ⟨rfl, fun p hp => by k_extra "OM"⟩⟩
  case fin =>
    rintro ys news ⟨rfl, hys⟩
    intro D h tk F N o1
    all_goals (refine' RunEnd.intro ?zf ?zn ?zp; (case zp => exact ⟨D, ys, ys.length, rfl, rfl, o1.2, hys⟩); (case zf => k_asm); (case zn => first | k_asm | (refine' newsSub ?zN ?zs; (case zN => k_asm); (case zs => repeat' (first | (with_reducible exact subRefl) | (with_reducible exact subNil) | (with_reducible exact subLeft) | (with_reducible refine' subBoth ?_ ?_) | (refine' subCons (by k_mem) ?_) | (with_reducible refine' subTail ?_) | (with_reducible refine' subApp ?_))) )))
  case step =>
    rintro i ys news v I oI C oC D m₂ h tk E' hi ⟨rfl, hys⟩ ⟨t, rfl⟩ hC hx F N off ne
    obtain ⟨tu, hu'⟩ := hus.2 i hi
    have hu2 : us[(0 + (i : Nat) : Int).toNat]? = some (.int (usedAt tg (exD 2) i) tu) := by simpa using hu'
    dsimp only
    by_cases hic : i < c
    · rw [show usedAt tg (exD 2) i = 2 from if_pos (exD2.mpr (hc1 i hic))] at hu2
      k_extra "S0"
      exact compEnd (by k_asm) (by k_asm) _ (by k_mem) (by k_mem) (by k_mem) (by repeat' (first | (with_reducible exact subRefl) | (with_reducible exact subNil) | (with_reducible exact subLeft) | (with_reducible refine' subBoth ?_ ?_) | (refine' subCons (by k_mem) ?_) | (with_reducible refine' subTail ?_) | (with_reducible refine' subApp ?_))) off trivial ⟨rfl, by rw [show i + 1 - c = i - c by k_extra "OM"]; exact hys⟩
    · rw [show usedAt tg (exD 2) i = 0 from if_neg (fun q => by have z := hc2 i (by k_extra "OM") hi; rcases exD2.mp q with q | q <;> rw [z] at q <;> revert q <;> decide +kernel)] at hu2
      k_extra "S0"
      exact compEnd (by k_asm) (by k_asm) _ (by k_mem) (by k_mem) (by k_mem) (by repeat' (first | (with_reducible exact subRefl) | (with_reducible exact subNil) | (with_reducible exact subLeft) | (with_reducible refine' subBoth ?_ ?_) | (refine' subCons (by k_mem) ?_) | (with_reducible refine' subTail ?_) | (with_reducible refine' subApp ?_))) off trivial ⟨rfl, by
        have e : i - c + c = i := by k_extra "OM"
        refine ⟨by rw [List.length_append, hys.1]; simp; omega, fun p hp => ?_⟩
        by_cases q : p < i - c
        · rw [List.getElem?_append_left (by rw [hys.1]; exact q)]; exact hys.2 p q
        · obtain rfl : p = i - c := by k_extra "OM"
          exact ⟨t, by rw [List.getElem?_append_right (by rw [hys.1]; exact Nat.le_refl _), hys.1, Nat.sub_self]; simp; omega⟩⟩
end SL5
section SL6
theorem repl_ints {x : Int} {n k : Nat} {t : Tok} (h : k = n) : IntsFn (List.replicate k (.int x t)) n fun _ => x :=
  ⟨by rw [List.length_replicate, h], fun p hp => ⟨t, by rw [List.getElem?_replicate, if_pos (by k_extra "OM")]⟩⟩
theorem new_Matching (w : World) (mean : ExcName → Option Value) (mg mb : Str → Option Value) (own : Led) (lf lt : Addr) (n : Nat) (tg : Nat → Str) (tv : List Value) (n2 : Nat)
    (hlt : (lt, listOf tv.toArray n2) ∈ own) (htv : TagsFn tv n tg) (hn : n ≤ 10) :
    Tell w mean mg mb 4 110 [.ref lf, .ref lt] own (fun r news' => ∃ x dx t1 t2 t3 t4 nd lu dpl us k po, r = .ref x ∧ (∀ p ∈ own, p.1 < dx) ∧ (∀ p ∈ own, p.1 < lu) ∧ (∀ p ∈ own, p.1 < dpl) ∧ dx < x ∧ x < lu ∧ lu < dpl ∧ (dpl == sysModules) = false ∧ IntsFn us n (fun _ => 0) ∧ po.IsDictOf (strKind PR w) [] ∧
      news' = (lu, listOf us.toArray k) :: (dpl, po) :: (x, instObj 110 dx) :: (dx, dictOf (ents w.params ksMatching [(t1, .ref lf), (t2, .ref lt), (t3, .ref lu), (t4, .ref dpl)]) nd) :: own) := by
  have htvl : tv.length ≤ 1000 := by have := htv.1; omega
  have htl := htv.1
  refine' make_of (mk_Matching w) ?hi ?hf ?I
  case hi => k_dflt k_is
  case hf => k_dflt k_is
  intro x dx l1 l2
  replace l2 := ltN l2
  refine' tellC_of [Str.ofString "self", Str.ofString "formals", Str.ofString "tags"] [.ref x, .ref lf, .ref lt] [] [Str.ofString "len"] ?ho ?hcd ?hb rfl ?hl ?hg ?hc ?h1 ?h2 ?R
  case ho => k_dflt k_is
  case hcd => k_dflt k_is
  case hb => exact fun _ _ _ _ => BindsTo.of_eq rfl
  case hl => kernel_rfl!
  case hg => kernel_rfl!
  case hc => kernel_rfl!
  case h1 => rfl
  case h2 => rfl
  intro LT GT dp un gd outer A₀ base g L s B F X N T hd hu
  simp only [List.map, List.cons_append, List.nil_append, List.append_nil] at F LT
  obtain ⟨hp, ge, dr, tk, os⟩ := s
  k_extra "SK"
  rename News _ _ _ _ => N9
  have N10 := swap1 (drop3 N9)
  · refine' RunEnd.intro ?zf1 ?zn1 ?zp1
    case zf1 => k_asm
    case zn1 => k_asm
    case zp1 => exact ⟨rfl, _, _, _, _, _, _, _, _, _, _, _, _, rfl, l1, by first | assumption | exact ltN (by k_extra "OM") | exact ktn_ltOf (by assumption) | exact ktn_ltOf (And.right (by assumption)) | exact ktn_ltOf (And.right (And.right (by assumption))) | exact ktn_ltOf (And.right (And.right (And.right (by assumption)))) | exact ktn_ltOf (And.right (And.right (And.right (And.right (by assumption))))) | exact ktn_ltOf (And.right (And.right (And.right (And.right (And.right (by assumption)))))) | exact ktn_ltOf (And.right (And.right (And.right (And.right (And.right (And.right (by assumption))))))) | exact ktn_ltOf (And.right (And.right (And.right (And.right (And.right (And.right (And.right (by assumption)))))))) | exact ktn_ltOf (And.right (And.right (And.right (And.right (And.right (And.right (And.right (And.right (by assumption))))))))) | exact ktn_ltOf (And.right (And.right (And.right (And.right (And.right (And.right (And.right (And.right (And.right (by assumption)))))))))) | exact ktn_ltOf (And.right (And.right (And.right (And.right (And.right (And.right (And.right (And.right (And.right (And.right (by assumption))))))))))) | exact ktn_ltOf (And.right (And.right (And.right (And.right (And.right (And.right (And.right (And.right (And.right (And.right (And.right (by assumption)))))))))))) | exact ktn_ltOf (And.right (And.right (And.right (And.right (And.right (And.right (And.right (And.right (And.right (And.right (And.right (And.right (by assumption))))))))))))) | exact ktn_ltOf (And.right (And.right (And.right (And.right (And.right (And.right (And.right (And.right (And.right (And.right (And.right (And.right (And.right (by assumption)))))))))))))) | exact ktn_ltOf (And.right (And.right (And.right (And.right (And.right (And.right (And.right (And.right (And.right (And.right (And.right (And.right (And.right (And.right (by assumption))))))))))))))) | exact above_trans (by assumption) (by assumption) | exact above_trans (by assumption) (above_trans (by assumption) (by assumption)) | exact above_trans (by assumption) (ktn_ltOf (by assumption)) | exact above_trans (by assumption) (ktn_ltOf (And.right (by assumption))) | exact above_trans (by assumption) (ktn_ltOf (And.right (And.right (by assumption)))) | exact above_trans (by assumption) (ktn_ltOf (And.right (And.right (And.right (by assumption))))) | exact above_trans (by assumption) (ktn_ltOf (And.right (And.right (And.right (And.right (by assumption)))))) | exact above_trans (by assumption) (ktn_ltOf (And.right (And.right (And.right (And.right (And.right (by assumption))))))) | exact above_trans (by assumption) (ktn_ltOf (And.right (And.right (And.right (And.right (And.right (And.right (by assumption)))))))) | exact above_trans (by assumption) (ktn_ltOf (And.right (And.right (And.right (And.right (And.right (And.right (And.right (by assumption))))))))) | exact above_trans (by assumption) (ktn_ltOf (And.right (And.right (And.right (And.right (And.right (And.right (And.right (And.right (by assumption)))))))))) | exact above_trans (by assumption) (ktn_ltOf (And.right (And.right (And.right (And.right (And.right (And.right (And.right (And.right (And.right (by assumption))))))))))) | exact above_trans (by assumption) (ktn_ltOf (And.right (And.right (And.right (And.right (And.right (And.right (And.right (And.right (And.right (And.right (by assumption)))))))))))) | exact above_trans (by assumption) (ktn_ltOf (And.right (And.right (And.right (And.right (And.right (And.right (And.right (And.right (And.right (And.right (And.right (by assumption))))))))))))) | exact above_trans (by assumption) (ktn_ltOf (And.right (And.right (And.right (And.right (And.right (And.right (And.right (And.right (And.right (And.right (And.right (And.right (by assumption)))))))))))))) | exact above_trans (by assumption) (ktn_ltOf (And.right (And.right (And.right (And.right (And.right (And.right (And.right (And.right (And.right (And.right (And.right (And.right (And.right (by assumption))))))))))))))) | exact above_trans (by assumption) (ktn_ltOf (And.right (And.right (And.right (And.right (And.right (And.right (And.right (And.right (And.right (And.right (And.right (And.right (And.right (And.right (by assumption)))))))))))))))) | exact above_sub (by assumption) (by repeat' (first | (with_reducible exact subRefl) | (with_reducible exact subNil) | (with_reducible exact subLeft) | (with_reducible refine' subBoth ?_ ?_) | (refine' subCons (by k_mem) ?_) | (with_reducible refine' subTail ?_) | (with_reducible refine' subApp ?_))) | exact above_trans (by assumption) (above_sub (by assumption) (by repeat' (first | (with_reducible exact subRefl) | (with_reducible exact subNil) | (with_reducible exact subLeft) | (with_reducible refine' subBoth ?_ ?_) | (refine' subCons (by k_mem) ?_) | (with_reducible refine' subTail ?_) | (with_reducible refine' subApp ?_)))), by first | assumption | exact ltN (by k_extra "OM") | exact ktn_ltOf (by assumption) | exact ktn_ltOf (And.right (by assumption)) | exact ktn_ltOf (And.right (And.right (by assumption))) | exact ktn_ltOf (And.right (And.right (And.right (by assumption)))) | exact ktn_ltOf (And.right (And.right (And.right (And.right (by assumption))))) | exact ktn_ltOf (And.right (And.right (And.right (And.right (And.right (by assumption)))))) | exact ktn_ltOf (And.right (And.right (And.right (And.right (And.right (And.right (by assumption))))))) | exact ktn_ltOf (And.right (And.right (And.right (And.right (And.right (And.right (And.right (by assumption)))))))) | exact ktn_ltOf (And.right (And.right (And.right (And.right (And.right (And.right (And.right (And.right (by assumption))))))))) | exact ktn_ltOf (And.right (And.right (And.right (And.right (And.right (And.right (And.right (And.right (And.right (by assumption)))))))))) | exact ktn_ltOf (And.right (And.right (And.right (And.right (And.right (And.right (And.right (And.right (And.right (And.right (by assumption))))))))))) | exact ktn_ltOf (And.right (And.right (And.right (And.right (And.right (And.right (And.right (And.right (And.right (And.right (And.right (by assumption)))))))))))) | exact ktn_ltOf (And.right (And.right (And.right (And.right (And.right (And.right (And.right (And.right (And.right (And.right (And.right (And.right (by assumption))))))))))))) | exact ktn_ltOf (And.right (And.right (And.right (And.right (And.right (And.right (And.right (And.right (And.right (And.right (And.right (And.right (And.right (by assumption)))))))))))))) | exact ktn_ltOf (And.right (And.right (And.right (And.right (And.right (And.right (And.right (And.right (And.right (And.right (And.right (And.right (And.right (And.right (by assumption))))))))))))))) | exact above_trans (by assumption) (by assumption) | exact above_trans (by assumption) (above_trans (by assumption) (by assumption)) | exact above_trans (by assumption) (ktn_ltOf (by assumption)) | exact above_trans (by assumption) (ktn_ltOf (And.right (by assumption))) | exact above_trans (by assumption) (ktn_ltOf (And.right (And.right (by assumption)))) | exact above_trans (by assumption) (ktn_ltOf (And.right (And.right (And.right (by assumption))))) | exact above_trans (by assumption) (ktn_ltOf (And.right (And.right (And.right (And.right (by assumption)))))) | exact above_trans (by assumption) (ktn_ltOf (And.right (And.right (And.right (And.right (And.right (by assumption))))))) | exact above_trans (by assumption) (ktn_ltOf (And.right (And.right (And.right (And.right (And.right (And.right (by assumption)))))))) | exact above_trans (by assumption) (ktn_ltOf (And.right (And.right (And.right (And.right (And.right (And.right (And.right (by assumption))))))))) | exact above_trans (by assumption) (ktn_ltOf (And.right (And.right (And.right (And.right (And.right (And.right (And.right (And.right (by assumption)))))))))) | exact above_trans (by assumption) (ktn_ltOf (And.right (And.right (And.right (And.right (And.right (And.right (And.right (And.right (And.right (by assumption))))))))))) | exact above_trans (by assumption) (ktn_ltOf (And.right (And.right (And.right (And.right (And.right (And.right (And.right (And.right (And.right (And.right (by assumption)))))))))))) | exact above_trans (by assumption) (ktn_ltOf (And.right (And.right (And.right (And.right (And.right (And.right (And.right (And.right (And.right (And.right (And.right (by assumption))))))))))))) | exact above_trans (by assumption) (ktn_ltOf (And.right (And.right (And.right (And.right (And.right (And.right (And.right (And.right (And.right (And.right (And.right (And.right (by assumption)))))))))))))) | exact above_trans (by assumption) (ktn_ltOf (And.right (And.right (And.right (And.right (And.right (And.right (And.right (And.right (And.right (And.right (And.right (And.right (And.right (by assumption))))))))))))))) | exact above_trans (by assumption) (ktn_ltOf (And.right (And.right (And.right (And.right (And.right (And.right (And.right (And.right (And.right (And.right (And.right (And.right (And.right (And.right (by assumption)))))))))))))))) | exact above_sub (by assumption) (by repeat' (first | (with_reducible exact subRefl) | (with_reducible exact subNil) | (with_reducible exact subLeft) | (with_reducible refine' subBoth ?_ ?_) | (refine' subCons (by k_mem) ?_) | (with_reducible refine' subTail ?_) | (with_reducible refine' subApp ?_))) | exact above_trans (by assumption) (above_sub (by assumption) (by repeat' (first | (with_reducible exact subRefl) | (with_reducible exact subNil) | (with_reducible exact subLeft) | (with_reducible refine' subBoth ?_ ?_) | (refine' subCons (by k_mem) ?_) | (with_reducible refine' subTail ?_) | (with_reducible refine' subApp ?_)))), l2, ltN (by k_extra "OM"), ltN (by k_extra "OM"), by assumption, repl_ints (by k_extra "OM"), by assumption, rfl⟩
end SL6

theorem reg_macros_l6 : True := by
  k_with "kpc_turns" => (((with_reducible show wpAny _ _ (call (Value.ref 110) _) _ _ _); (with_reducible refine' Tell.use (new_Matching _ _ _ _ _ _ _ _ _ _ _ ?zqz11 ?zqz12 ?zqz13) ?zqB ?zqF ?zqX ?zqN ?zqsub ?zqT ?zqhk ?zqhd ?zqhu ?_); (case zqB => k_asm); (case zqF => k_asm); (case zqX => k_asm); (case zqN => k_asm); (case zqsub => exact subRefl); (case zqT => k_asm); (case zqhk => rfl); (case zqhd => first | exact lim (by assumption) rfl | k_extra "OM"); (case zqhu => first | exact lim (by assumption) rfl | k_extra "OM"); (case zqz11 => k_mem); (case zqz12 => first | (with_reducible assumption) | k_extra "k_caughtB"); (case zqz13 => first | (with_reducible assumption) | k_extra "k_caughtB"); intro zqr' zqnews' zqh' zqtk' zqF' zqN' zqpo0'; (refine ex12 zqpo0' ?_); clear zqpo0'; intro zqx' zqdx' _ _ _ _ _ zqlu' zqdpl' zqus' _ zqpo' zqpo0'; (refine sp11 zqpo0' ?_); clear zqpo0'; intro zqe1 zql1 zql5 zql6 zql2 zql3 zql4 zqlo' zqhus' zqhpo' zqe2; subst zqe1; subst zqe2; (try (k_extra "ALl1")); (try (k_extra "ALl5")); (try (k_extra "ALl6")); (try k_lt2 zql2); (try k_lt2 zql3); (try k_lt2 zql4); (try k_sweep)))
  k_with "kpc_turns" => (((with_reducible show wpAny _ _ (call (Value.ref 74) _) _ _ _); (with_reducible refine' Tell.use (t_exact _ _ _ _ _ _ _ _ _ _ _ _ _ _ _ _ _ _ _ _ _ ?zqz21 ?zqz22 ?zqz23 ?zqz24 ?zqz25 ?zqz26 ?zqz27 ?zqz28 ?zqz29 ?zqz30 ?zqz31 ?zqz32) ?zqB ?zqF ?zqX ?zqN ?zqsub ?zqT ?zqhk ?zqhd ?zqhu ?_); (case zqB => k_asm); (case zqF => k_asm); (case zqX => k_asm); (case zqN => k_asm); (case zqsub => exact subRefl); (case zqT => k_asm); (case zqhk => rfl); (case zqhd => first | exact lim (by assumption) rfl | k_extra "OM"); (case zqhu => first | exact lim (by assumption) rfl | k_extra "OM"); (case zqz21 => first | k_extra "k_caughtB" | exact ⟨_, _, _, _, _, _, by k_mem, by k_mem⟩); (case zqz22 => k_mem); (case zqz23 => k_mem); (case zqz24 => first | (with_reducible assumption) | k_extra "k_caughtB"); (case zqz25 => first | (with_reducible assumption) | k_extra "k_caughtB"); (case zqz26 => first | (with_reducible assumption) | k_extra "k_caughtB"); (case zqz27 => first | (with_reducible assumption) | k_extra "k_caughtB"); (case zqz28 => first | (with_reducible assumption) | k_extra "k_caughtB"); (case zqz29 => first | (with_reducible assumption) | k_extra "k_caughtB"); (case zqz30 => first | assumption | k_extra "OM"); (case zqz31 => repeat' (first | (with_reducible assumption) | (refine ltN ?_; k_extra "OM") | refine And.intro ?_ ?_)); (case zqz32 => repeat' (first | (with_reducible assumption) | (refine ltN ?_; k_extra "OM") | refine And.intro ?_ ?_)); intro zqr' zqnews' zqh' zqtk' zqF' zqN' zqpo0'; (refine ex3 zqpo0' ?_); clear zqpo0'; intro zqus' zqpo' zqkvs' zqpo0'; (refine sp5 zqpo0' ?_); clear zqpo0'; intro zqe1 zqe2 zqhus' zqhpo' zqhpl'; subst zqe1; subst zqe2; (try k_sweep)))
  k_with "kpc_turns" => (((with_reducible show wpAny _ _ (call (Value.ref 81) _) _ _ _); (with_reducible refine' Tell.use (t_partial _ _ _ _ _ _ _ _ _ _ _ _ _ _ _ _ _ _ _ _ _ _ ?zqz22 ?zqz23 ?zqz24 ?zqz25 ?zqz26 ?zqz27 ?zqz28 ?zqz29 ?zqz30 ?zqz31 ?zqz32) ?zqB ?zqF ?zqX ?zqN ?zqsub ?zqT ?zqhk ?zqhd ?zqhu ?_); (case zqB => k_asm); (case zqF => k_asm); (case zqX => k_asm); (case zqN => k_asm); (case zqsub => exact subRefl); (case zqT => k_asm); (case zqhk => rfl); (case zqhd => first | exact lim (by assumption) rfl | k_extra "OM"); (case zqhu => first | exact lim (by assumption) rfl | k_extra "OM"); (case zqz22 => first | k_extra "k_caughtB" | exact ⟨_, _, _, _, _, _, by k_mem, by k_mem⟩); (case zqz23 => k_mem); (case zqz24 => k_mem); (case zqz25 => k_mem); (case zqz26 => k_mem); (case zqz27 => first | (with_reducible assumption) | k_extra "k_caughtB"); (case zqz28 => first | (with_reducible assumption) | k_extra "k_caughtB"); (case zqz29 => first | (with_reducible assumption) | k_extra "k_caughtB"); (case zqz30 => first | (with_reducible assumption) | k_extra "k_caughtB"); (case zqz31 => first | (with_reducible assumption) | k_extra "k_caughtB"); (case zqz32 => first | (with_reducible assumption) | k_extra "k_caughtB"); intro zqr' zqnews' zqh' zqtk' zqF' zqN' zqpo0'; (refine sp2 zqpo0' ?_); clear zqpo0'; intro zqe1 zqe2; subst zqe1; subst zqe2; (try k_sweep)))
  k_with "kpc_turns" => (((with_reducible show wpAny _ _ (call (Value.ref 95) _) _ _ _); (with_reducible refine' Tell.use (t_positional _ _ _ _ _ _ _ _ _ _ _ _ _ _ _ _ _ _ _ _ _ _ ?zqz22 ?zqz23 ?zqz24 ?zqz25 ?zqz26 ?zqz27 ?zqz28 ?zqz29 ?zqz30 ?zqz31 ?zqz32) ?zqB ?zqF ?zqX ?zqN ?zqsub ?zqT ?zqhk ?zqhd ?zqhu ?_); (case zqB => k_asm); (case zqF => k_asm); (case zqX => k_asm); (case zqN => k_asm); (case zqsub => exact subRefl); (case zqT => k_asm); (case zqhk => rfl); (case zqhd => first | exact lim (by assumption) rfl | k_extra "OM"); (case zqhu => first | exact lim (by assumption) rfl | k_extra "OM"); (case zqz22 => first | k_extra "k_caughtB" | exact ⟨_, _, _, _, _, _, by k_mem, by k_mem⟩); (case zqz23 => k_mem); (case zqz24 => k_mem); (case zqz25 => k_mem); (case zqz26 => k_mem); (case zqz27 => first | (with_reducible assumption) | k_extra "k_caughtB"); (case zqz28 => first | (with_reducible assumption) | k_extra "k_caughtB"); (case zqz29 => first | (with_reducible assumption) | k_extra "k_caughtB"); (case zqz30 => first | (with_reducible assumption) | k_extra "k_caughtB"); (case zqz31 => first | (with_reducible assumption) | k_extra "k_caughtB"); (case zqz32 => first | (with_reducible assumption) | k_extra "k_caughtB"); intro zqr' zqnews' zqh' zqtk' zqF' zqN' zqpo0'; (refine sp2 zqpo0' ?_); clear zqpo0'; intro zqe1 zqe2; subst zqe1; subst zqe2; (try k_sweep)))
  k_with "kpc_turns" => (((with_reducible show wpAny _ _ (call (Value.ref 107) _) _ _ _); (with_reducible refine' Tell.use (t_rest _ _ _ _ _ _ _ _ _ _ _ _ _ _ _ _ _ ?zqz17 ?zqz18 ?zqz19 ?zqz20 ?zqz21 ?zqz22 ?zqz23 ?zqz24 ?zqz25) ?zqB ?zqF ?zqX ?zqN ?zqsub ?zqT ?zqhk ?zqhd ?zqhu ?_); (case zqB => k_asm); (case zqF => k_asm); (case zqX => k_asm); (case zqN => k_asm); (case zqsub => exact subRefl); (case zqT => k_asm); (case zqhk => rfl); (case zqhd => first | exact lim (by assumption) rfl | k_extra "OM"); (case zqhu => first | exact lim (by assumption) rfl | k_extra "OM"); (case zqz17 => first | k_extra "k_caughtB" | exact ⟨_, _, _, _, _, _, by k_mem, by k_mem⟩); (case zqz18 => k_mem); (case zqz19 => k_mem); (case zqz20 => first | (with_reducible assumption) | k_extra "k_caughtB"); (case zqz21 => first | (with_reducible assumption) | k_extra "k_caughtB"); (case zqz22 => first | (with_reducible assumption) | k_extra "k_caughtB"); (case zqz23 => first | (with_reducible assumption) | k_extra "k_caughtB"); (case zqz24 => first | (with_reducible assumption) | k_extra "k_caughtB"); (case zqz25 => first | (with_reducible assumption) | k_extra "k_caughtB"); intro zqr' zqnews' zqh' zqtk' zqF' zqN' zqpo0'; (refine ex3 zqpo0' ?_); clear zqpo0'; intro zqlr' zqrv' zqk' zqpo0'; (refine sp4 zqpo0' ?_); clear zqpo0'; intro zqe1 zqe2 zqo1' zqhrv'; subst zqe1; subst zqe2; (try simp only [LCg.Off1, and_true] at zqo1'); (repeat (obtain ⟨_, zqo1'⟩ := zqo1')); (have hrl' := And.left zqhrv'); (try k_sweep)))
  k_with "kct_strs" => (((with_reducible refine' notin_lst (b := true) ?zqN ?zqhm ?zqhi ?zqhb ?_); (case zqN => k_asm); (case zqhm => k_extra "allgen_close_more"); (case zqhi => repeat constructor); (case zqhb => decide +kernel)))
  trivial
section SL7
theorem t_match_names (w : World) (mean : ExcName → Option Value) (mg mb : Str → Option Value) (own : Led) (lf la : Addr) (n c : Nat) (tg : Nat → Str) (vl : Nat → Value) (av : List Value) (n1 na : Nat) (k1 k2 k3 : Tok)
    (hlf : (lf, listOf [.str (xyN 0) k1, .str (xyN 1) k2, .str (Str.ofString "...") k3].toArray n1) ∈ own) (hla : (la, listOf av.toArray na) ∈ own) (hav : ArgsAre own av n tg vl) (hn : n ≤ 10) (hu : ∀ i : Nat, i < 2 → ∀ p q, p < n → q < n → tg p = xyN i → tg q = xyN i → p = q)
    (hc : c ≤ n) (hc1 : ∀ p, p < c → tg p = xyN 0 ∨ tg p = xyN 1) (hc2 : ∀ p, c ≤ p → p < n → tg p = Str.ofString "zz") :
    Tell w mean mg mb 9 139 [.ref lf, .ref la, .none] own (fun r news' => ∃ tp dpl lr rv po kvs k, r = .ref tp ∧ news' = (tp, tupOf [.ref dpl, .ref lr]) :: (lr, listOf rv.toArray k) :: (dpl, po) :: own ∧ LCg.Off1 tp own ∧ LCg.Off1 lr own ∧ LCg.Off1 dpl own ∧
      (dpl == sysModules) = false ∧ po.IsDictOf (strKind PR w) kvs ∧ PlOk kvs n tg (exD 2) ∧ IntsFn rv (n - c) fun i => c + i) := by
  refine' TellC.tell ?_
  refine' tellC_of [Str.ofString "formals", Str.ofString "args", Str.ofString "show"] [.ref lf, .ref la, .none] [Str.ofString "matching", Str.ofString "rest"] [Str.ofString "Matching", Str.ofString "len", Str.ofString "Refusal", Str.ofString "unused_text"] ?ho ?hcd ?hb rfl ?hl ?hg ?hc ?h1 ?h2 ?R
  case ho => k_dflt k_is
  case hcd => k_dflt k_is
  case hb => exact fun _ hX _ e => binds_K (e ▸ hX) rfl (by k_is) rfl rfl rfl
  case hl => kernel_rfl!
  case hg => kernel_rfl!
  case hc => kernel_rfl!
  case h1 => rfl
  case h2 => rfl
  intro LT GT dp un gd outer A₀ base g L s B F X N T hd hu
  simp only [List.map, List.cons_append, List.nil_append, List.append_nil] at F LT
  obtain ⟨hp, ge, dr, tk, os⟩ := s
  k_extra "SK"
  refine' LCg.CompSrc.ledger ?hh ?F ?N ?hm ?hz ?_
  case hh => rfl
  case F => k_asm
  case N => k_asm
  case hm => k_mem
  case hz => rw [sizeLine_eq, List.size_toArray, hav.1]; omega
  intro gg
  refine' compU_inv (fun i ys news => news = own ∧ TagsFn ys i tg) ?start ?step ?fin
  case start => exact ⟨rfl, rfl, fun p hp => by k_extra "OM"⟩
  case step =>
    rintro i ys news v I oI C oC D m₂ h tk E' hi ⟨rfl, hys⟩ hv hC hx F N off ne
    rw [List.size_toArray, hav.1] at hi
    obtain ⟨a, t, h1, h2⟩ := hav.2 i hi
    obtain rfl : v = .ref a := by
      have hv' : av[i]? = some v := by simpa using hv
      rw [h1] at hv'; exact (Option.some.inj hv').symm
    dsimp only
    k_extra "SK"
    exact compEnd (by k_asm) (by k_asm) _ (by k_mem) (by k_mem) (by k_mem) (by repeat' (first | (with_reducible exact subRefl) | (with_reducible exact subNil) | (with_reducible exact subLeft) | (with_reducible refine' subBoth ?_ ?_) | (refine' subCons (by k_mem) ?_) | (with_reducible refine' subTail ?_) | (with_reducible refine' subApp ?_))) off (.inr ⟨_, hla, rfl, _, rfl⟩) ⟨rfl, by rw [List.length_append, hys.1]; rfl, fun p hp => by
        by_cases q : p < i
        · rw [List.getElem?_append_left (by rw [hys.1]; exact q)]; exact hys.2 p q
        · obtain rfl : p = i := by k_extra "OM"
          exact ⟨t, by rw [List.getElem?_append_right (by rw [hys.1]; exact Nat.le_refl _), hys.1, Nat.sub_self]; simp⟩⟩
  case fin =>
    rintro ys news ⟨rfl, hys⟩
    rw [List.size_toArray, hav.1] at hys
    have hok : TagOk n tg := fun p hp => by
      by_cases q : p < c
      · rcases hc1 p q with h | h
        · exact .inl h
        · exact .inr (.inl h)
      · exact .inr (.inr (hc2 p (by k_extra "OM") hp))
    intro D h tk F N o1
    dsimp only at *
    k_extra "SK"
    all_goals (rename News _ _ _ _ => N9; have N10 := drop4 (drop4 (drop4 (drop3 N9))))
    all_goals (refine' RunEnd.intro ?zf ?zn ?zp; (case zf => k_asm); (case zn => exact N10); (case zp => exact ⟨_, _, _, _, _, _, _, rfl, rfl, off_lt (by k_asm), (by k_asm), off_lt (by k_asm), by k_asm, by k_asm, by k_asm, by k_asm⟩))
end SL7
section SM1
noncomputable def UpdM (d : Addr) (o o' : Obj) (own own' : Led) : Prop := (d, o) ∈ own ∧ ∀ p ∈ own', p = (d, o') ∨ (p ∈ own ∧ p.1 ≠ d)
section
variable {w : World} {A : Around} {E : Value → Shared → Prop} {h₀ h : Heap} {L x dx C : Addr} {m : Str → Option Value}
  {ge : Array GenState} {dr : Drawn} {tk n : Nat} {os : OsState} {news news' : Led} {ks : List Str} {tvs tvs' : List (Tok × Value)} {name : Str} {v : Value}
theorem set_anyU {Q : Unit → Shared → Prop} (F : Fr h₀ L h m) (X : (Mine.hd.heap_39 w.params).In h₀) (N : News h₀ L h news) (hx : (x, instObj C dx) ∈ news) (U : UpdM dx (dictOf (ents w.params ks tvs) n) (dictOf (ents w.params ks tvs') n) news news') (hc : ClsOk w C) (ha : AttrOk w C name)
    (hn : ks.Nodup) (hz : ks.length ≤ 900) (pv : PutV ks tvs name v tvs')
    (q : ∀ h', Fr h₀ L h' m → News h₀ L h' news' → Q () ⟨h', ge, dr, tk + 2, os⟩) :
    wpAny (model PR w) A (setAttr (.ref x) name v) Q E ⟨h, ge, dr, tk, os⟩ :=
  set_any F X N hx U.1 hc ha hn hz pv fun h' F' N' => q h' F' fun p hp => by
    rcases U.2 p hp with rfl | ⟨h1, h2⟩
    · exact N' _ List.mem_cons_self
    · exact N' p (List.mem_cons_of_mem _ (List.mem_filter.mpr ⟨h1, by simpa using h2⟩))
end
theorem t_share_u (w : World) (mean : ExcName → Option Value) (mg mb : Str → Option Value) (own own' : Led) (v dv : Addr) (t1 t2 t3 t4 t5 : Tok) (v1 v2 v3 v5 : Value) (b : Bool) (n : Nat) (hx : (v, instObj 213 dv) ∈ own)
    (hU : UpdM dv (dictOf (ents w.params ksVector [(t1, v1), (t2, v2), (t3, v3), (t4, .bool b), (t5, v5)]) n) (dictOf (ents w.params ksVector [(t1, v1), (t2, v2), (t3, v3), (t4, .bool true), (t5, v5)]) n) own own') :
    Tell w mean mg mb 3 388 [.ref v] own (fun r news' => r = .ref v ∧ news' = own') := by
  have hd := hU.1
  refine' TellC.tell ?_
  refine' tellC_of [Str.ofString "v"] [.ref v] [] [Str.ofString "isinstance", Str.ofString "Vector"] ?ho ?hcd ?hb rfl ?hl ?hg ?hc ?h1 ?h2 ?R
  case ho => k_dflt k_is
  case hcd => k_dflt k_is
  case hb => exact fun _ _ _ _ => BindsTo.of_eq rfl
  case hl => kernel_rfl!
  case hg => kernel_rfl!
  case hc => kernel_rfl!
  case h1 => rfl
  case h2 => rfl
  intro LT GT dp un gd outer A₀ base g L s B F X N T hd hu
  simp only [List.map, List.cons_append, List.nil_append, List.append_nil] at F LT
  obtain ⟨hp, ge, dr, tk, os⟩ := s
  repeat' (first | k_extra "k_KC" | k_extra "tb_start" | ((with_reducible show wpAny _ _ (setAttr (Value.ref _) _ _) _ _ _); refine' set_anyU ?F ?X ?N ?hx hU ?hc ?ha ?hn ?hz ?pv ?_; (case F => k_asm); (case X => k_asm); (case N => k_asm); (case hx => k_mem); (case hc => k_extra "tb_rel"); (case ha => k_extra "tb_rel"); (case pv => k_extra "ktr_rel"); (case hn => k_extra "tb_rel"); (case hz => decide); intro h' F' N'; (try k_sweep)) | (k_unfold; (try dsimp only)) | (k_end; wrow_close) | (dsimp only [List.nil_append, List.append_nil, List.cons_append]; k_extra "tb_start") | (walk1; (try dsimp only)) | (dsimp only; walk1) | (leave1; try dsimp only) | fail "no step")
  · refine' RunEnd.intro ?zf1 ?zn1 ?zp1
    case zf1 => k_asm
    case zn1 => k_asm
    case zp1 => exact ⟨rfl, rfl⟩
end SM1

theorem reg_macros_m1 : True := by
  k_with "kpc_turns" => (((with_reducible show wpAny _ _ (call (Value.ref 388) _) _ _ _); (with_reducible refine' Tell.use (t_share_u _ _ _ _ _ _ _ _ _ _ _ _ _ _ _ _ _ _ _ ?zqz19 ?zqz20) ?zqB ?zqF ?zqX ?zqN ?zqsub ?zqT ?zqhk ?zqhd ?zqhu ?_); (case zqB => k_asm); (case zqF => k_asm); (case zqX => k_asm); (case zqN => k_asm); (case zqsub => exact subRefl); (case zqT => k_asm); (case zqhk => rfl); (case zqhd => first | exact lim (by assumption) rfl | k_extra "OM"); (case zqhu => first | exact lim (by assumption) rfl | k_extra "OM"); (case zqz19 => k_mem); (case zqz20 => first | (with_reducible assumption) | k_extra "k_caughtB"); intro zqr' zqnews' zqh' zqtk' zqF' zqN' zqpo0'; (refine sp2 zqpo0' ?_); clear zqpo0'; intro zqe1 zqe2; subst zqe1; subst zqe2; (try k_sweep)))
  k_with "kpc_turns" => (((with_reducible show wpAny _ _ (call (Value.ref 395) _) _ _ _); (with_reducible refine' Tell.use (t_done_promise _ _ _ _ _ _ _) ?zqB ?zqF ?zqX ?zqN ?zqsub ?zqT ?zqhk ?zqhd ?zqhu ?_); (case zqB => k_asm); (case zqF => k_asm); (case zqX => k_asm); (case zqN => k_asm); (case zqsub => exact subRefl); (case zqT => k_asm); (case zqhk => rfl); (case zqhd => first | exact lim (by assumption) rfl | k_extra "OM"); (case zqhu => first | exact lim (by assumption) rfl | k_extra "OM"); intro zqr' zqnews' zqh' zqtk' zqF' zqN' zqpo0'; (refine ex11 zqpo0' ?_); clear zqpo0'; intro zqx' zqdx' _ _ _ _ _ _ _ _ _ zqpo0'; (refine sp4 zqpo0' ?_); clear zqpo0'; intro zqe1 zql1 zql2 zqe2; subst zqe1; subst zqe2; (try (k_extra "ALl1")); (try k_lt2 zql2); (try k_sweep)))
  trivial
section SM2
theorem t_bound_n (w : World) (mean : ExcName → Option Value) (mg mb : Str → Option Value) (own own' : Led) (v dv : Addr) (t1 t2 t3 t4 t5 u : Tok) (v2 v3 v5 : Value) (b : Bool) (n : Nat) (hx : (v, instObj 213 dv) ∈ own)
    (hU : UpdM dv (dictOf (ents w.params ksVector [(t1, .str (Str.ofString "integer") u), (t2, v2), (t3, v3), (t4, .bool b), (t5, v5)]) n) (dictOf (ents w.params ksVector [(t1, .str (Str.ofString "integer") u), (t2, v2), (t3, v3), (t4, .bool true), (t5, v5)]) n) own own') :
    Tell w mean mg mb 6 402 [.ref v] own (fun r news' => ∃ x dx t1 t2 t3 t4 t5 t6 u u2 n, r = .ref x ∧ (∀ p ∈ own', p.1 < dx) ∧ dx < x ∧
      news' = (x, instObj 321 dx) :: (dx, dictOf (ents w.params ksPromise [(t1, .str (Str.ofString "promise") u), (t2, .ref v), (t3, .none), (t4, .ref v), (t5, .int 2 u2), (t6, .none)]) n) :: own') := by
  have hd := hU.1
  refine' TellC.tell ?_
  refine' tellC_of [Str.ofString "value"] [.ref v] [] [Str.ofString "done_promise", Str.ofString "share"] ?ho ?hcd ?hb rfl ?hl ?hg ?hc ?h1 ?h2 ?R
  case ho => k_dflt k_is
  case hcd => k_dflt k_is
  case hb => exact fun _ _ _ _ => BindsTo.of_eq rfl
  case hl => kernel_rfl!
  case hg => kernel_rfl!
  case hc => kernel_rfl!
  case h1 => rfl
  case h2 => rfl
  intro LT GT dp un gd outer A₀ base g L s B F X N T hd hu
  simp only [List.map, List.cons_append, List.nil_append, List.append_nil] at F LT
  obtain ⟨hp, ge, dr, tk, os⟩ := s
  k_extra "SK"
  · refine' RunEnd.intro ?zf1 ?zn1 ?zp1
    case zf1 => k_asm
    case zn1 => k_asm
    case zp1 => exact ⟨_, _, _, _, _, _, _, _, _, _, _, rfl, by first | assumption | exact ltN (by k_extra "OM") | exact ktn_ltOf (by assumption) | exact ktn_ltOf (And.right (by assumption)) | exact ktn_ltOf (And.right (And.right (by assumption))) | exact ktn_ltOf (And.right (And.right (And.right (by assumption)))) | exact ktn_ltOf (And.right (And.right (And.right (And.right (by assumption))))) | exact ktn_ltOf (And.right (And.right (And.right (And.right (And.right (by assumption)))))) | exact ktn_ltOf (And.right (And.right (And.right (And.right (And.right (And.right (by assumption))))))) | exact ktn_ltOf (And.right (And.right (And.right (And.right (And.right (And.right (And.right (by assumption)))))))) | exact ktn_ltOf (And.right (And.right (And.right (And.right (And.right (And.right (And.right (And.right (by assumption))))))))) | exact ktn_ltOf (And.right (And.right (And.right (And.right (And.right (And.right (And.right (And.right (And.right (by assumption)))))))))) | exact ktn_ltOf (And.right (And.right (And.right (And.right (And.right (And.right (And.right (And.right (And.right (And.right (by assumption))))))))))) | exact ktn_ltOf (And.right (And.right (And.right (And.right (And.right (And.right (And.right (And.right (And.right (And.right (And.right (by assumption)))))))))))) | exact ktn_ltOf (And.right (And.right (And.right (And.right (And.right (And.right (And.right (And.right (And.right (And.right (And.right (And.right (by assumption))))))))))))) | exact ktn_ltOf (And.right (And.right (And.right (And.right (And.right (And.right (And.right (And.right (And.right (And.right (And.right (And.right (And.right (by assumption)))))))))))))) | exact ktn_ltOf (And.right (And.right (And.right (And.right (And.right (And.right (And.right (And.right (And.right (And.right (And.right (And.right (And.right (And.right (by assumption))))))))))))))) | exact above_trans (by assumption) (by assumption) | exact above_trans (by assumption) (above_trans (by assumption) (by assumption)) | exact above_trans (by assumption) (ktn_ltOf (by assumption)) | exact above_trans (by assumption) (ktn_ltOf (And.right (by assumption))) | exact above_trans (by assumption) (ktn_ltOf (And.right (And.right (by assumption)))) | exact above_trans (by assumption) (ktn_ltOf (And.right (And.right (And.right (by assumption))))) | exact above_trans (by assumption) (ktn_ltOf (And.right (And.right (And.right (And.right (by assumption)))))) | exact above_trans (by assumption) (ktn_ltOf (And.right (And.right (And.right (And.right (And.right (by assumption))))))) | exact above_trans (by assumption) (ktn_ltOf (And.right (And.right (And.right (And.right (And.right (And.right (by assumption)))))))) | exact above_trans (by assumption) (ktn_ltOf (And.right (And.right (And.right (And.right (And.right (And.right (And.right (by assumption))))))))) | exact above_trans (by assumption) (ktn_ltOf (And.right (And.right (And.right (And.right (And.right (And.right (And.right (And.right (by assumption)))))))))) | exact above_trans (by assumption) (ktn_ltOf (And.right (And.right (And.right (And.right (And.right (And.right (And.right (And.right (And.right (by assumption))))))))))) | exact above_trans (by assumption) (ktn_ltOf (And.right (And.right (And.right (And.right (And.right (And.right (And.right (And.right (And.right (And.right (by assumption)))))))))))) | exact above_trans (by assumption) (ktn_ltOf (And.right (And.right (And.right (And.right (And.right (And.right (And.right (And.right (And.right (And.right (And.right (by assumption))))))))))))) | exact above_trans (by assumption) (ktn_ltOf (And.right (And.right (And.right (And.right (And.right (And.right (And.right (And.right (And.right (And.right (And.right (And.right (by assumption)))))))))))))) | exact above_trans (by assumption) (ktn_ltOf (And.right (And.right (And.right (And.right (And.right (And.right (And.right (And.right (And.right (And.right (And.right (And.right (And.right (by assumption))))))))))))))) | exact above_trans (by assumption) (ktn_ltOf (And.right (And.right (And.right (And.right (And.right (And.right (And.right (And.right (And.right (And.right (And.right (And.right (And.right (And.right (by assumption)))))))))))))))) | exact above_sub (by assumption) (by repeat' (first | (with_reducible exact subRefl) | (with_reducible exact subNil) | (with_reducible exact subLeft) | (with_reducible refine' subBoth ?_ ?_) | (refine' subCons (by k_mem) ?_) | (with_reducible refine' subTail ?_) | (with_reducible refine' subApp ?_))) | exact above_trans (by assumption) (above_sub (by assumption) (by repeat' (first | (with_reducible exact subRefl) | (with_reducible exact subNil) | (with_reducible exact subLeft) | (with_reducible refine' subBoth ?_ ?_) | (refine' subCons (by k_mem) ?_) | (with_reducible refine' subTail ?_) | (with_reducible refine' subApp ?_)))), by first | assumption | exact ltN (by k_extra "OM") | exact ktn_ltOf (by assumption) | exact ktn_ltOf (And.right (by assumption)) | exact ktn_ltOf (And.right (And.right (by assumption))) | exact ktn_ltOf (And.right (And.right (And.right (by assumption)))) | exact ktn_ltOf (And.right (And.right (And.right (And.right (by assumption))))) | exact ktn_ltOf (And.right (And.right (And.right (And.right (And.right (by assumption)))))) | exact ktn_ltOf (And.right (And.right (And.right (And.right (And.right (And.right (by assumption))))))) | exact ktn_ltOf (And.right (And.right (And.right (And.right (And.right (And.right (And.right (by assumption)))))))) | exact ktn_ltOf (And.right (And.right (And.right (And.right (And.right (And.right (And.right (And.right (by assumption))))))))) | exact ktn_ltOf (And.right (And.right (And.right (And.right (And.right (And.right (And.right (And.right (And.right (by assumption)))))))))) | exact ktn_ltOf (And.right (And.right (And.right (And.right (And.right (And.right (And.right (And.right (And.right (And.right (by assumption))))))))))) | exact ktn_ltOf (And.right (And.right (And.right (And.right (And.right (And.right (And.right (And.right (And.right (And.right (And.right (by assumption)))))))))))) | exact ktn_ltOf (And.right (And.right (And.right (And.right (And.right (And.right (And.right (And.right (And.right (And.right (And.right (And.right (by assumption))))))))))))) | exact ktn_ltOf (And.right (And.right (And.right (And.right (And.right (And.right (And.right (And.right (And.right (And.right (And.right (And.right (And.right (by assumption)))))))))))))) | exact ktn_ltOf (And.right (And.right (And.right (And.right (And.right (And.right (And.right (And.right (And.right (And.right (And.right (And.right (And.right (And.right (by assumption))))))))))))))) | exact above_trans (by assumption) (by assumption) | exact above_trans (by assumption) (above_trans (by assumption) (by assumption)) | exact above_trans (by assumption) (ktn_ltOf (by assumption)) | exact above_trans (by assumption) (ktn_ltOf (And.right (by assumption))) | exact above_trans (by assumption) (ktn_ltOf (And.right (And.right (by assumption)))) | exact above_trans (by assumption) (ktn_ltOf (And.right (And.right (And.right (by assumption))))) | exact above_trans (by assumption) (ktn_ltOf (And.right (And.right (And.right (And.right (by assumption)))))) | exact above_trans (by assumption) (ktn_ltOf (And.right (And.right (And.right (And.right (And.right (by assumption))))))) | exact above_trans (by assumption) (ktn_ltOf (And.right (And.right (And.right (And.right (And.right (And.right (by assumption)))))))) | exact above_trans (by assumption) (ktn_ltOf (And.right (And.right (And.right (And.right (And.right (And.right (And.right (by assumption))))))))) | exact above_trans (by assumption) (ktn_ltOf (And.right (And.right (And.right (And.right (And.right (And.right (And.right (And.right (by assumption)))))))))) | exact above_trans (by assumption) (ktn_ltOf (And.right (And.right (And.right (And.right (And.right (And.right (And.right (And.right (And.right (by assumption))))))))))) | exact above_trans (by assumption) (ktn_ltOf (And.right (And.right (And.right (And.right (And.right (And.right (And.right (And.right (And.right (And.right (by assumption)))))))))))) | exact above_trans (by assumption) (ktn_ltOf (And.right (And.right (And.right (And.right (And.right (And.right (And.right (And.right (And.right (And.right (And.right (by assumption))))))))))))) | exact above_trans (by assumption) (ktn_ltOf (And.right (And.right (And.right (And.right (And.right (And.right (And.right (And.right (And.right (And.right (And.right (And.right (by assumption)))))))))))))) | exact above_trans (by assumption) (ktn_ltOf (And.right (And.right (And.right (And.right (And.right (And.right (And.right (And.right (And.right (And.right (And.right (And.right (And.right (by assumption))))))))))))))) | exact above_trans (by assumption) (ktn_ltOf (And.right (And.right (And.right (And.right (And.right (And.right (And.right (And.right (And.right (And.right (And.right (And.right (And.right (And.right (by assumption)))))))))))))))) | exact above_sub (by assumption) (by repeat' (first | (with_reducible exact subRefl) | (with_reducible exact subNil) | (with_reducible exact subLeft) | (with_reducible refine' subBoth ?_ ?_) | (refine' subCons (by k_mem) ?_) | (with_reducible refine' subTail ?_) | (with_reducible refine' subApp ?_))) | exact above_trans (by assumption) (above_sub (by assumption) (by repeat' (first | (with_reducible exact subRefl) | (with_reducible exact subNil) | (with_reducible exact subLeft) | (with_reducible refine' subBoth ?_ ?_) | (refine' subCons (by k_mem) ?_) | (with_reducible refine' subTail ?_) | (with_reducible refine' subApp ?_)))), rfl⟩
theorem t_dots_n (w : World) (mean : ExcName → Option Value) (mg mb : Str → Option Value) (own : Led) (a v : Addr) (tg : Value) (kd : Str) (ha : (a, tupOf [tg, .ref v]) ∈ own) (hk : KindRec w own v kd) (h1 : strNe kd (Str.ofString "symbol") = true) (h2 : strNe kd (Str.ofString "language") = true) :
    Tell w mean mg mb 3 409 [.ref a] own (fun r news' => r = .ref a ∧ news' = own) := by
  obtain ⟨C, ks, t, u, tvs, hc, hat, hn, hr⟩ := hk
  refine' TellC.tell ?_
  refine' tellC_of [Str.ofString "arg"] [.ref a] [Str.ofString "tag", Str.ofString "value"] [Str.ofString "done_promise"] ?ho ?hcd ?hb rfl ?hl ?hg ?hc ?h1 ?h2 ?R
  case ho => k_dflt k_is
  case hcd => k_dflt k_is
  case hb => exact fun _ _ _ _ => BindsTo.of_eq rfl
  case hl => kernel_rfl!
  case hg => kernel_rfl!
  case hc => kernel_rfl!
  case h1 => rfl
  case h2 => rfl
  intro LT GT dp un gd outer A₀ base g L s B F X N T hd hu
  simp only [List.map, List.cons_append, List.nil_append, List.append_nil] at F LT
  obtain ⟨hp, ge, dr, tk, os⟩ := s
  k_extra "SK"
  · refine' RunEnd.intro ?zf2 ?zn2 ?zp2
    case zf2 => k_asm
    case zn2 => k_asm
    case zp2 => exact ⟨rfl, rfl⟩
theorem t_dots_s (w : World) (mean : ExcName → Option Value) (mg mb : Str → Option Value) (own : Led) (a v : Addr) (tg : Value) (ha : (a, tupOf [tg, .ref v]) ∈ own) (hk : KindRec w own v (Str.ofString "symbol")) :
    Tell w mean mg mb 6 409 [.ref a] own (fun r news' => ∃ c x dx t1 t2 t3 t4 t5 t6 u u2 n, r = .ref c ∧ (∀ p ∈ own, p.1 < dx) ∧ dx < x ∧ x < c ∧
      news' = (c, tupOf [tg, .ref x]) :: (x, instObj 321 dx) :: (dx, dictOf (ents w.params ksPromise [(t1, .str (Str.ofString "promise") u), (t2, .ref v), (t3, .none), (t4, .ref v), (t5, .int 2 u2), (t6, .none)]) n) :: own) := by
  obtain ⟨C, ks, t, u, tvs, hc, hat, hn, hr⟩ := hk
  refine' TellC.tell ?_
  refine' tellC_of [Str.ofString "arg"] [.ref a] [Str.ofString "tag", Str.ofString "value"] [Str.ofString "done_promise"] ?ho ?hcd ?hb rfl ?hl ?hg ?hc ?h1 ?h2 ?R
  case ho => k_dflt k_is
  case hcd => k_dflt k_is
  case hb => exact fun _ _ _ _ => BindsTo.of_eq rfl
  case hl => kernel_rfl!
  case hg => kernel_rfl!
  case hc => kernel_rfl!
  case h1 => rfl
  case h2 => rfl
  intro LT GT dp un gd outer A₀ base g L s B F X N T hd hu
  simp only [List.map, List.cons_append, List.nil_append, List.append_nil] at F LT
  obtain ⟨hp, ge, dr, tk, os⟩ := s
  k_extra "SK"
  · refine' RunEnd.intro ?zf3 ?zn3 ?zp3
    case zf3 => k_asm
    case zn3 => k_asm
    case zp3 => exact ⟨_, _, _, _, _, _, _, _, _, _, _, _, rfl, by first | assumption | exact ltN (by k_extra "OM") | exact ktn_ltOf (by assumption) | exact ktn_ltOf (And.right (by assumption)) | exact ktn_ltOf (And.right (And.right (by assumption))) | exact ktn_ltOf (And.right (And.right (And.right (by assumption)))) | exact ktn_ltOf (And.right (And.right (And.right (And.right (by assumption))))) | exact ktn_ltOf (And.right (And.right (And.right (And.right (And.right (by assumption)))))) | exact ktn_ltOf (And.right (And.right (And.right (And.right (And.right (And.right (by assumption))))))) | exact ktn_ltOf (And.right (And.right (And.right (And.right (And.right (And.right (And.right (by assumption)))))))) | exact ktn_ltOf (And.right (And.right (And.right (And.right (And.right (And.right (And.right (And.right (by assumption))))))))) | exact ktn_ltOf (And.right (And.right (And.right (And.right (And.right (And.right (And.right (And.right (And.right (by assumption)))))))))) | exact ktn_ltOf (And.right (And.right (And.right (And.right (And.right (And.right (And.right (And.right (And.right (And.right (by assumption))))))))))) | exact ktn_ltOf (And.right (And.right (And.right (And.right (And.right (And.right (And.right (And.right (And.right (And.right (And.right (by assumption)))))))))))) | exact ktn_ltOf (And.right (And.right (And.right (And.right (And.right (And.right (And.right (And.right (And.right (And.right (And.right (And.right (by assumption))))))))))))) | exact ktn_ltOf (And.right (And.right (And.right (And.right (And.right (And.right (And.right (And.right (And.right (And.right (And.right (And.right (And.right (by assumption)))))))))))))) | exact ktn_ltOf (And.right (And.right (And.right (And.right (And.right (And.right (And.right (And.right (And.right (And.right (And.right (And.right (And.right (And.right (by assumption))))))))))))))) | exact above_trans (by assumption) (by assumption) | exact above_trans (by assumption) (above_trans (by assumption) (by assumption)) | exact above_trans (by assumption) (ktn_ltOf (by assumption)) | exact above_trans (by assumption) (ktn_ltOf (And.right (by assumption))) | exact above_trans (by assumption) (ktn_ltOf (And.right (And.right (by assumption)))) | exact above_trans (by assumption) (ktn_ltOf (And.right (And.right (And.right (by assumption))))) | exact above_trans (by assumption) (ktn_ltOf (And.right (And.right (And.right (And.right (by assumption)))))) | exact above_trans (by assumption) (ktn_ltOf (And.right (And.right (And.right (And.right (And.right (by assumption))))))) | exact above_trans (by assumption) (ktn_ltOf (And.right (And.right (And.right (And.right (And.right (And.right (by assumption)))))))) | exact above_trans (by assumption) (ktn_ltOf (And.right (And.right (And.right (And.right (And.right (And.right (And.right (by assumption))))))))) | exact above_trans (by assumption) (ktn_ltOf (And.right (And.right (And.right (And.right (And.right (And.right (And.right (And.right (by assumption)))))))))) | exact above_trans (by assumption) (ktn_ltOf (And.right (And.right (And.right (And.right (And.right (And.right (And.right (And.right (And.right (by assumption))))))))))) | exact above_trans (by assumption) (ktn_ltOf (And.right (And.right (And.right (And.right (And.right (And.right (And.right (And.right (And.right (And.right (by assumption)))))))))))) | exact above_trans (by assumption) (ktn_ltOf (And.right (And.right (And.right (And.right (And.right (And.right (And.right (And.right (And.right (And.right (And.right (by assumption))))))))))))) | exact above_trans (by assumption) (ktn_ltOf (And.right (And.right (And.right (And.right (And.right (And.right (And.right (And.right (And.right (And.right (And.right (And.right (by assumption)))))))))))))) | exact above_trans (by assumption) (ktn_ltOf (And.right (And.right (And.right (And.right (And.right (And.right (And.right (And.right (And.right (And.right (And.right (And.right (And.right (by assumption))))))))))))))) | exact above_trans (by assumption) (ktn_ltOf (And.right (And.right (And.right (And.right (And.right (And.right (And.right (And.right (And.right (And.right (And.right (And.right (And.right (And.right (by assumption)))))))))))))))) | exact above_sub (by assumption) (by repeat' (first | (with_reducible exact subRefl) | (with_reducible exact subNil) | (with_reducible exact subLeft) | (with_reducible refine' subBoth ?_ ?_) | (refine' subCons (by k_mem) ?_) | (with_reducible refine' subTail ?_) | (with_reducible refine' subApp ?_))) | exact above_trans (by assumption) (above_sub (by assumption) (by repeat' (first | (with_reducible exact subRefl) | (with_reducible exact subNil) | (with_reducible exact subLeft) | (with_reducible refine' subBoth ?_ ?_) | (refine' subCons (by k_mem) ?_) | (with_reducible refine' subTail ?_) | (with_reducible refine' subApp ?_)))), by first | assumption | exact ltN (by k_extra "OM") | exact ktn_ltOf (by assumption) | exact ktn_ltOf (And.right (by assumption)) | exact ktn_ltOf (And.right (And.right (by assumption))) | exact ktn_ltOf (And.right (And.right (And.right (by assumption)))) | exact ktn_ltOf (And.right (And.right (And.right (And.right (by assumption))))) | exact ktn_ltOf (And.right (And.right (And.right (And.right (And.right (by assumption)))))) | exact ktn_ltOf (And.right (And.right (And.right (And.right (And.right (And.right (by assumption))))))) | exact ktn_ltOf (And.right (And.right (And.right (And.right (And.right (And.right (And.right (by assumption)))))))) | exact ktn_ltOf (And.right (And.right (And.right (And.right (And.right (And.right (And.right (And.right (by assumption))))))))) | exact ktn_ltOf (And.right (And.right (And.right (And.right (And.right (And.right (And.right (And.right (And.right (by assumption)))))))))) | exact ktn_ltOf (And.right (And.right (And.right (And.right (And.right (And.right (And.right (And.right (And.right (And.right (by assumption))))))))))) | exact ktn_ltOf (And.right (And.right (And.right (And.right (And.right (And.right (And.right (And.right (And.right (And.right (And.right (by assumption)))))))))))) | exact ktn_ltOf (And.right (And.right (And.right (And.right (And.right (And.right (And.right (And.right (And.right (And.right (And.right (And.right (by assumption))))))))))))) | exact ktn_ltOf (And.right (And.right (And.right (And.right (And.right (And.right (And.right (And.right (And.right (And.right (And.right (And.right (And.right (by assumption)))))))))))))) | exact ktn_ltOf (And.right (And.right (And.right (And.right (And.right (And.right (And.right (And.right (And.right (And.right (And.right (And.right (And.right (And.right (by assumption))))))))))))))) | exact above_trans (by assumption) (by assumption) | exact above_trans (by assumption) (above_trans (by assumption) (by assumption)) | exact above_trans (by assumption) (ktn_ltOf (by assumption)) | exact above_trans (by assumption) (ktn_ltOf (And.right (by assumption))) | exact above_trans (by assumption) (ktn_ltOf (And.right (And.right (by assumption)))) | exact above_trans (by assumption) (ktn_ltOf (And.right (And.right (And.right (by assumption))))) | exact above_trans (by assumption) (ktn_ltOf (And.right (And.right (And.right (And.right (by assumption)))))) | exact above_trans (by assumption) (ktn_ltOf (And.right (And.right (And.right (And.right (And.right (by assumption))))))) | exact above_trans (by assumption) (ktn_ltOf (And.right (And.right (And.right (And.right (And.right (And.right (by assumption)))))))) | exact above_trans (by assumption) (ktn_ltOf (And.right (And.right (And.right (And.right (And.right (And.right (And.right (by assumption))))))))) | exact above_trans (by assumption) (ktn_ltOf (And.right (And.right (And.right (And.right (And.right (And.right (And.right (And.right (by assumption)))))))))) | exact above_trans (by assumption) (ktn_ltOf (And.right (And.right (And.right (And.right (And.right (And.right (And.right (And.right (And.right (by assumption))))))))))) | exact above_trans (by assumption) (ktn_ltOf (And.right (And.right (And.right (And.right (And.right (And.right (And.right (And.right (And.right (And.right (by assumption)))))))))))) | exact above_trans (by assumption) (ktn_ltOf (And.right (And.right (And.right (And.right (And.right (And.right (And.right (And.right (And.right (And.right (And.right (by assumption))))))))))))) | exact above_trans (by assumption) (ktn_ltOf (And.right (And.right (And.right (And.right (And.right (And.right (And.right (And.right (And.right (And.right (And.right (And.right (by assumption)))))))))))))) | exact above_trans (by assumption) (ktn_ltOf (And.right (And.right (And.right (And.right (And.right (And.right (And.right (And.right (And.right (And.right (And.right (And.right (And.right (by assumption))))))))))))))) | exact above_trans (by assumption) (ktn_ltOf (And.right (And.right (And.right (And.right (And.right (And.right (And.right (And.right (And.right (And.right (And.right (And.right (And.right (And.right (by assumption)))))))))))))))) | exact above_sub (by assumption) (by repeat' (first | (with_reducible exact subRefl) | (with_reducible exact subNil) | (with_reducible exact subLeft) | (with_reducible refine' subBoth ?_ ?_) | (refine' subCons (by k_mem) ?_) | (with_reducible refine' subTail ?_) | (with_reducible refine' subApp ?_))) | exact above_trans (by assumption) (above_sub (by assumption) (by repeat' (first | (with_reducible exact subRefl) | (with_reducible exact subNil) | (with_reducible exact subLeft) | (with_reducible refine' subBoth ?_ ?_) | (refine' subCons (by k_mem) ?_) | (with_reducible refine' subTail ?_) | (with_reducible refine' subApp ?_)))), by first | assumption | exact ltN (by k_extra "OM") | exact ktn_ltOf (by assumption) | exact ktn_ltOf (And.right (by assumption)) | exact ktn_ltOf (And.right (And.right (by assumption))) | exact ktn_ltOf (And.right (And.right (And.right (by assumption)))) | exact ktn_ltOf (And.right (And.right (And.right (And.right (by assumption))))) | exact ktn_ltOf (And.right (And.right (And.right (And.right (And.right (by assumption)))))) | exact ktn_ltOf (And.right (And.right (And.right (And.right (And.right (And.right (by assumption))))))) | exact ktn_ltOf (And.right (And.right (And.right (And.right (And.right (And.right (And.right (by assumption)))))))) | exact ktn_ltOf (And.right (And.right (And.right (And.right (And.right (And.right (And.right (And.right (by assumption))))))))) | exact ktn_ltOf (And.right (And.right (And.right (And.right (And.right (And.right (And.right (And.right (And.right (by assumption)))))))))) | exact ktn_ltOf (And.right (And.right (And.right (And.right (And.right (And.right (And.right (And.right (And.right (And.right (by assumption))))))))))) | exact ktn_ltOf (And.right (And.right (And.right (And.right (And.right (And.right (And.right (And.right (And.right (And.right (And.right (by assumption)))))))))))) | exact ktn_ltOf (And.right (And.right (And.right (And.right (And.right (And.right (And.right (And.right (And.right (And.right (And.right (And.right (by assumption))))))))))))) | exact ktn_ltOf (And.right (And.right (And.right (And.right (And.right (And.right (And.right (And.right (And.right (And.right (And.right (And.right (And.right (by assumption)))))))))))))) | exact ktn_ltOf (And.right (And.right (And.right (And.right (And.right (And.right (And.right (And.right (And.right (And.right (And.right (And.right (And.right (And.right (by assumption))))))))))))))) | exact above_trans (by assumption) (by assumption) | exact above_trans (by assumption) (above_trans (by assumption) (by assumption)) | exact above_trans (by assumption) (ktn_ltOf (by assumption)) | exact above_trans (by assumption) (ktn_ltOf (And.right (by assumption))) | exact above_trans (by assumption) (ktn_ltOf (And.right (And.right (by assumption)))) | exact above_trans (by assumption) (ktn_ltOf (And.right (And.right (And.right (by assumption))))) | exact above_trans (by assumption) (ktn_ltOf (And.right (And.right (And.right (And.right (by assumption)))))) | exact above_trans (by assumption) (ktn_ltOf (And.right (And.right (And.right (And.right (And.right (by assumption))))))) | exact above_trans (by assumption) (ktn_ltOf (And.right (And.right (And.right (And.right (And.right (And.right (by assumption)))))))) | exact above_trans (by assumption) (ktn_ltOf (And.right (And.right (And.right (And.right (And.right (And.right (And.right (by assumption))))))))) | exact above_trans (by assumption) (ktn_ltOf (And.right (And.right (And.right (And.right (And.right (And.right (And.right (And.right (by assumption)))))))))) | exact above_trans (by assumption) (ktn_ltOf (And.right (And.right (And.right (And.right (And.right (And.right (And.right (And.right (And.right (by assumption))))))))))) | exact above_trans (by assumption) (ktn_ltOf (And.right (And.right (And.right (And.right (And.right (And.right (And.right (And.right (And.right (And.right (by assumption)))))))))))) | exact above_trans (by assumption) (ktn_ltOf (And.right (And.right (And.right (And.right (And.right (And.right (And.right (And.right (And.right (And.right (And.right (by assumption))))))))))))) | exact above_trans (by assumption) (ktn_ltOf (And.right (And.right (And.right (And.right (And.right (And.right (And.right (And.right (And.right (And.right (And.right (And.right (by assumption)))))))))))))) | exact above_trans (by assumption) (ktn_ltOf (And.right (And.right (And.right (And.right (And.right (And.right (And.right (And.right (And.right (And.right (And.right (And.right (And.right (by assumption))))))))))))))) | exact above_trans (by assumption) (ktn_ltOf (And.right (And.right (And.right (And.right (And.right (And.right (And.right (And.right (And.right (And.right (And.right (And.right (And.right (And.right (by assumption)))))))))))))))) | exact above_sub (by assumption) (by repeat' (first | (with_reducible exact subRefl) | (with_reducible exact subNil) | (with_reducible exact subLeft) | (with_reducible refine' subBoth ?_ ?_) | (refine' subCons (by k_mem) ?_) | (with_reducible refine' subTail ?_) | (with_reducible refine' subApp ?_))) | exact above_trans (by assumption) (above_sub (by assumption) (by repeat' (first | (with_reducible exact subRefl) | (with_reducible exact subNil) | (with_reducible exact subLeft) | (with_reducible refine' subBoth ?_ ?_) | (refine' subCons (by k_mem) ?_) | (with_reducible refine' subTail ?_) | (with_reducible refine' subApp ?_)))), rfl⟩
end SM2

theorem reg_macros_m2 : True := by
  k_with "kpc_turns" => (((with_reducible show wpAny _ _ (call (Value.ref 402) _) _ _ _); (with_reducible refine' Tell.use (t_bound_v _ _ _ _ _ _ _ ?zqz7 ?zqz8) ?zqB ?zqF ?zqX ?zqN ?zqsub ?zqT ?zqhk ?zqhd ?zqhu ?_); (case zqB => k_asm); (case zqF => k_asm); (case zqX => k_asm); (case zqN => k_asm); (case zqsub => exact subRefl); (case zqT => k_asm); (case zqhk => rfl); (case zqhd => first | exact lim (by assumption) rfl | k_extra "OM"); (case zqhu => first | exact lim (by assumption) rfl | k_extra "OM"); (case zqz7 => first | (with_reducible assumption) | k_extra "k_caughtB"); (case zqz8 => first | exact .inl rfl | exact .inr rfl); intro zqr' zqnews' zqh' zqtk' zqF' zqN' zqpo0'; (refine sp2 zqpo0' ?_); clear zqpo0'; intro zqe1 zqe2; subst zqe1; subst zqe2; (try k_sweep)))
  k_with "kpc_turns" => (((with_reducible show wpAny _ _ (call (Value.ref 402) _) _ _ _); (with_reducible refine' Tell.use (t_bound_n _ _ _ _ _ _ _ _ _ _ _ _ _ _ _ _ _ _ _ ?zqz19 ?zqz20) ?zqB ?zqF ?zqX ?zqN ?zqsub ?zqT ?zqhk ?zqhd ?zqhu ?_); (case zqB => k_asm); (case zqF => k_asm); (case zqX => k_asm); (case zqN => k_asm); (case zqsub => exact subRefl); (case zqT => k_asm); (case zqhk => rfl); (case zqhd => first | exact lim (by assumption) rfl | k_extra "OM"); (case zqhu => first | exact lim (by assumption) rfl | k_extra "OM"); (case zqz19 => k_mem); (case zqz20 => first | (with_reducible assumption) | k_extra "k_caughtB"); intro zqr' zqnews' zqh' zqtk' zqF' zqN' zqpo0'; (refine ex11 zqpo0' ?_); clear zqpo0'; intro zqx' zqdx' _ _ _ _ _ _ _ _ _ zqpo0'; (refine sp4 zqpo0' ?_); clear zqpo0'; intro zqe1 zql1 zql2 zqe2; subst zqe1; subst zqe2; (try (k_extra "ALl1")); (try k_lt2 zql2); (try k_sweep)))
  k_with "kpc_turns" => (((with_reducible show wpAny _ _ (call (Value.ref 416) _) _ _ _); (with_reducible refine' Tell.use (t_default_m _ _ _ _ _ _ _ ?zqz7) ?zqB ?zqF ?zqX ?zqN ?zqsub ?zqT ?zqhk ?zqhd ?zqhu ?_); (case zqB => k_asm); (case zqF => k_asm); (case zqX => k_asm); (case zqN => k_asm); (case zqsub => exact subRefl); (case zqT => k_asm); (case zqhk => rfl); (case zqhd => first | exact lim (by assumption) rfl | k_extra "OM"); (case zqhu => first | exact lim (by assumption) rfl | k_extra "OM"); (case zqz7 => first | (with_reducible assumption) | k_extra "k_caughtB"); intro zqr' zqnews' zqh' zqtk' zqF' zqN' zqpo0'; (refine sp2 zqpo0' ?_); clear zqpo0'; intro zqe1 zqe2; subst zqe1; subst zqe2; (try k_sweep)))
  k_with "kpc_turns" => (((with_reducible show wpAny _ _ (call (Value.ref 416) _) _ _ _); (with_reducible refine' Tell.use (t_default_p _ _ _ _ _ _ _ _ ?zqz8 ?zqz9) ?zqB ?zqF ?zqX ?zqN ?zqsub ?zqT ?zqhk ?zqhd ?zqhu ?_); (case zqB => k_asm); (case zqF => k_asm); (case zqX => k_asm); (case zqN => k_asm); (case zqsub => exact subRefl); (case zqT => k_asm); (case zqhk => rfl); (case zqhd => first | exact lim (by assumption) rfl | k_extra "OM"); (case zqhu => first | exact lim (by assumption) rfl | k_extra "OM"); (case zqz8 => first | (with_reducible assumption) | k_extra "k_caughtB"); (case zqz9 => first | (with_reducible assumption) | k_extra "k_caughtB"); intro zqr' zqnews' zqh' zqtk' zqF' zqN' zqpo0'; (refine ex11 zqpo0' ?_); clear zqpo0'; intro zqx' zqdx' _ _ _ _ _ _ _ _ _ zqpo0'; (refine sp4 zqpo0' ?_); clear zqpo0'; intro zqe1 zql1 zql2 zqe2; subst zqe1; subst zqe2; (try (k_extra "ALl1")); (try k_lt2 zql2); (try k_sweep)))
  k_with "kpc_turns" => (((with_reducible show wpAny _ _ (call (Value.ref 409) _) _ _ _); (with_reducible refine' Tell.use (t_dots_n _ _ _ _ _ _ _ _ _ ?zqz9 ?zqz10 ?zqz11 ?zqz12) ?zqB ?zqF ?zqX ?zqN ?zqsub ?zqT ?zqhk ?zqhd ?zqhu ?_); (case zqB => k_asm); (case zqF => k_asm); (case zqX => k_asm); (case zqN => k_asm); (case zqsub => exact subRefl); (case zqT => k_asm); (case zqhk => rfl); (case zqhd => first | exact lim (by assumption) rfl | k_extra "OM"); (case zqhu => first | exact lim (by assumption) rfl | k_extra "OM"); (case zqz9 => k_mem); (case zqz10 => first | (with_reducible assumption) | k_extra "k_caughtB"); (case zqz11 => decide +kernel); (case zqz12 => decide +kernel); intro zqr' zqnews' zqh' zqtk' zqF' zqN' zqpo0'; (refine sp2 zqpo0' ?_); clear zqpo0'; intro zqe1 zqe2; subst zqe1; subst zqe2; (try k_sweep)))
  k_with "kpc_turns" => (((with_reducible show wpAny _ _ (call (Value.ref 409) _) _ _ _); (with_reducible refine' Tell.use (t_dots_s _ _ _ _ _ _ _ _ ?zqz8 ?zqz9) ?zqB ?zqF ?zqX ?zqN ?zqsub ?zqT ?zqhk ?zqhd ?zqhu ?_); (case zqB => k_asm); (case zqF => k_asm); (case zqX => k_asm); (case zqN => k_asm); (case zqsub => exact subRefl); (case zqT => k_asm); (case zqhk => rfl); (case zqhd => first | exact lim (by assumption) rfl | k_extra "OM"); (case zqhu => first | exact lim (by assumption) rfl | k_extra "OM"); (case zqz8 => k_mem); (case zqz9 => first | (with_reducible assumption) | k_extra "k_caughtB"); intro zqr' zqnews' zqh' zqtk' zqF' zqN' zqpo0'; (refine ex12 zqpo0' ?_); clear zqpo0'; intro zqc' zqx' zqdx' _ _ _ _ _ _ _ _ _ zqpo0'; (refine sp5 zqpo0' ?_); clear zqpo0'; intro zqe1 zql1 zql2 zql3 zqe2; subst zqe1; subst zqe2; (try (k_extra "ALl1")); (try k_lt2 zql2); (try k_lt2 zql3); (try k_sweep)))
  trivial
section SM3
noncomputable def nmOf : Nat → Str
  | 0 => xyN 0
  | 1 => xyN 1
  | _ => Str.ofString "..."
theorem nmOf_xy {i : Nat} (h : i < 2) : nmOf i = xyN i := by
  rcases xy_cases h with rfl | rfl <;> rfl
theorem nmOf_nd {i : Nat} (h : i < 2) : strNe (nmOf i) (Str.ofString "...") = true := by
  rcases xy_cases h with rfl | rfl <;> decide +kernel
theorem nmOf_two : nmOf 2 = Str.ofString "..." := rfl
noncomputable def DfOk (w : World) (own : Led) (d : Addr) (dk : Int) : Prop := (dk = 0 ∧ KindRec w own d (Str.ofString "missing")) ∨ (dk ≠ 0 ∧ ∃ kd, kd ≠ Str.ofString "missing" ∧ KindRec w own d kd)
theorem DfOk.mono {w : World} {own own' : Led} {d : Addr} {dk : Int} (h : DfOk w own d dk) (hs : ∀ p ∈ own, p ∈ own') : DfOk w own' d dk := by
  rcases h with ⟨h, k⟩ | ⟨h, kd, h2, k⟩
  · exact .inl ⟨h, k.mono hs⟩
  · exact .inr ⟨h, kd, h2, k.mono hs⟩
inductive DoneRec (w : World) (n : Led) (x : Addr) (v : Addr) : Prop
  | mk (t1) (t2) (t3) (t4) (t5) (t6) (u) (u2) (c0 : Rec w n x 321 ksPromise [(t1, .str (Str.ofString "promise") u), (t2, .ref v), (t3, .none), (t4, .ref v), (t5, .int 2 u2), (t6, .none)]) : DoneRec w n x v
theorem DoneRec.mono {w : World} {own own' : Led} {x v : Addr} (h : DoneRec w own x v) (hs : ∀ p ∈ own, p ∈ own') : DoneRec w own' x v :=
  let ⟨t1, t2, t3, t4, t5, t6, u, u2, r⟩ := h; ⟨t1, t2, t3, t4, t5, t6, u, u2, r.mono hs⟩
theorem PromRec.mono {w : World} {own own' : Led} {x : Addr} {ex ev : Value} (h : PromRec w own x ex ev) (hs : ∀ p ∈ own, p ∈ own') : PromRec w own' x ex ev :=
  let ⟨t1, t2, t3, t4, t5, t6, u, u2, r⟩ := h; ⟨t1, t2, t3, t4, t5, t6, u, u2, r.mono hs⟩
theorem SymRec.mono {w : World} {own own' : Led} {x : Addr} {nm : Str} (h : SymRec w own x nm) (hs : ∀ p ∈ own, p ∈ own') : SymRec w own' x nm :=
  let ⟨t1, t2, t3, u, u2, r⟩ := h; ⟨t1, t2, t3, u, u2, r.mono hs⟩
theorem NumRec.mono {w : World} {own own' : Led} {x : Addr} {fig : Int} (h : NumRec w own x fig) (hs : ∀ p ∈ own, p ∈ own') : NumRec w own' x fig :=
  let ⟨l, nl, tf, t1, t2, t3, t4, t5, u, b, r, h2⟩ := h; ⟨l, nl, tf, t1, t2, t3, t4, t5, u, b, r.mono hs, hs _ h2⟩
theorem MisRec.kind {w : World} {own : Led} {x : Addr} (h : MisRec w own x) : KindRec w own x (Str.ofString "missing") :=
  let ⟨t1, t2, u, dx, n, h1, h2⟩ := h; KindRec.of (co_Missing w) (ao_Missing_kind w) kN_Missing h1 h2
theorem PromRec.kind {w : World} {own : Led} {x : Addr} {ex ev : Value} (h : PromRec w own x ex ev) : KindRec w own x (Str.ofString "promise") :=
  let ⟨t1, t2, t3, t4, t5, t6, u, u2, dx, n, h1, h2⟩ := h; KindRec.of (co_Promise w) (ao_Promise_kind w) kN_Promise h1 h2
theorem SymRec.kind {w : World} {own : Led} {x : Addr} {nm : Str} (h : SymRec w own x nm) : KindRec w own x (Str.ofString "symbol") :=
  let ⟨t1, t2, t3, u, u2, dx, n, h1, h2⟩ := h; KindRec.of (co_Symbol w) (ao_Symbol_kind w) kN_Symbol h1 h2
theorem NumRec.kind {w : World} {own : Led} {x : Addr} {fig : Int} (h : NumRec w own x fig) : KindRec w own x (Str.ofString "integer") :=
  let ⟨l, nl, tf, t1, t2, t3, t4, t5, u, b, ⟨dx, n, h1, h2⟩, _⟩ := h; KindRec.of (co_Vector w) (ao_Vector_kind w) kN_Vector h1 h2
noncomputable def BndOk (w : World) (L : Led) (e : Addr) (bf : Value) (kind dk fig : Int) (b : Addr) : Prop :=
  (kind ≤ 1 ∧ dk = 0 ∧ KindRec w L b (Str.ofString "missing")) ∨ (kind ≤ 1 ∧ dk ≠ 0 ∧ ∃ ex, PromRec w L b ex (.ref e)) ∨ (kind = 2 ∧ ∃ v, DoneRec w L b v ∧ NumRec w L v fig) ∨
    (kind = 3 ∧ ∃ x, PromRec w L b (.ref x) bf ∧ KindRec w L x (Str.ofString "language")) ∨ (4 ≤ kind ∧ ∃ x, PromRec w L b (.ref x) bf ∧ SymRec w L x (xyN (kind - 4)))
theorem BndOk.mono {w : World} {L L' : Led} {e : Addr} {bf : Value} {kind dk fig : Int} {b : Addr} (h : BndOk w L e bf kind dk fig b) (hs : ∀ p ∈ L, p ∈ L') : BndOk w L' e bf kind dk fig b := by
  rcases h with ⟨h1, h2, h3⟩ | ⟨h1, h2, ex, h3⟩ | ⟨h1, v, h2, h3⟩ | ⟨h1, x, h2, h3⟩ | ⟨h1, x, h2, h3⟩
  · exact .inl ⟨h1, h2, h3.mono hs⟩
  · exact .inr (.inl ⟨h1, h2, ex, h3.mono hs⟩)
  · exact .inr (.inr (.inl ⟨h1, v, h2.mono hs, h3.mono hs⟩))
  · exact .inr (.inr (.inr (.inl ⟨h1, x, h2.mono hs, h3.mono hs⟩)))
  · exact .inr (.inr (.inr (.inr ⟨h1, x, h2.mono hs, h3.mono hs⟩)))
noncomputable def XtOk (w : World) (L : Led) (va : Addr) (g : Int) : Prop := (g < 50 ∧ NumRec w L va g) ∨ (50 ≤ g ∧ KindRec w L va (Str.ofString "symbol"))
theorem XtOk.mono {w : World} {L L' : Led} {va : Addr} {g : Int} (h : XtOk w L va g) (hs : ∀ p ∈ L, p ∈ L') : XtOk w L' va g := by
  rcases h with ⟨h1, h2⟩ | ⟨h1, h2⟩
  · exact .inl ⟨h1, h2.mono hs⟩
  · exact .inr ⟨h1, h2.mono hs⟩
inductive DItem (w : World) (L : Led) (a : Addr) (g : Int) : Prop
  | mk (t) (va) (c0 : (a, tupOf [.str (Str.ofString "zz") t, .ref va]) ∈ L) (c1 : ((g < 50 ∧ NumRec w L va g) ∨ (50 ≤ g ∧ ∃ x, DoneRec w L va x ∧ KindRec w L x (Str.ofString "symbol")))) : DItem w L a g
theorem DItem.mono {w : World} {L L' : Led} {a : Addr} {g : Int} (h : DItem w L a g) (hs : ∀ p ∈ L, p ∈ L') : DItem w L' a g := by
  obtain ⟨t, va, h1, h2⟩ := h
  refine ⟨t, va, hs _ h1, ?_⟩
  rcases h2 with ⟨h1, h2⟩ | ⟨h1, x, h2, h3⟩
  · exact .inl ⟨h1, h2.mono hs⟩
  · exact .inr ⟨h1, x, h2.mono hs, h3.mono hs⟩
noncomputable def DItems (w : World) (L : Led) (vs : List Value) (n : Nat) (ex : Nat → Int) : Prop := vs.length = n ∧ ∀ j, j < n → ∃ a, vs[j]? = some (.ref a) ∧ DItem w L a (ex j)
theorem DItems.mono {w : World} {L L' : Led} {vs : List Value} {n : Nat} {ex : Nat → Int} (h : DItems w L vs n ex) (hs : ∀ p ∈ L, p ∈ L') : DItems w L' vs n ex :=
  ⟨h.1, fun j hj => let ⟨a, h1, h2⟩ := h.2 j hj; ⟨a, h1, h2.mono hs⟩⟩
theorem DItems.snoc {w : World} {L : Led} {vs : List Value} {n : Nat} {ex : Nat → Int} {a : Addr} (h : DItems w L vs n ex) (hi : DItem w L a (ex n)) : DItems w L (vs ++ [.ref a]) (n + 1) ex :=
  ⟨by rw [List.length_append, h.1]; rfl, fun j hj => by
    by_cases q : j < n
    · obtain ⟨b, h1, h2⟩ := h.2 j q
      exact ⟨b, by rw [List.getElem?_append_left (by rw [h.1]; exact q)]; exact h1, h2⟩
    · obtain rfl : j = n := by k_extra "OM"
      exact ⟨a, by rw [List.getElem?_append_right (by rw [h.1]; exact Nat.le_refl _), h.1, Nat.sub_self]; rfl, hi⟩⟩
inductive DotsOk (w : World) (L : Led) (d : Addr) (n : Nat) (ex : Nat → Int) : Prop
  | mk (t1) (t2) (t3) (u) (l) (vs) (k) (c0 : Rec w L d 342 ksDots [(t1, .str (Str.ofString "dots") u), (t2, .ref l), (t3, .none)]) (c1 : (l, listOf (List.toArray vs) k) ∈ L) (c2 : DItems w L vs n ex) : DotsOk w L d n ex
theorem DotsOk.mono {w : World} {L L' : Led} {d : Addr} {n : Nat} {ex : Nat → Int} (h : DotsOk w L d n ex) (hs : ∀ p ∈ L, p ∈ L') : DotsOk w L' d n ex :=
  let ⟨t1, t2, t3, u, l, vs, k, h1, h2, h3⟩ := h; ⟨t1, t2, t3, u, l, vs, k, h1.mono hs, hs _ h2, h3.mono hs⟩
noncomputable def Apart (a b : Led) : Prop := ∀ p ∈ a, ∀ q ∈ b, p.1 ≠ q.1
noncomputable def SameAdr (a b : Led) : Prop := ∀ p ∈ a, ∃ q ∈ b, q.1 = p.1
theorem SameAdr.refl {a : Led} : SameAdr a a := fun p hp => ⟨p, hp, rfl⟩
theorem valueAt_absent {k : Str} : ∀ {kvs : List (Str × Value)}, k ∉ kvs.map (·.1) → valueAt kvs k = none
  | [], _ => rfl
  | p :: r, h => by
    rw [valueAt_cons, if_neg (fun e => h (by simp [e])), valueAt_absent (fun q => h (by simp only [List.map_cons, List.mem_cons]; exact .inr q))]
theorem keys_stored {kvs : List (Str × Value)} {k : Str} {v : Value} (h : k ∉ kvs.map (·.1)) : (stored kvs k v).map (·.1) = kvs.map (·.1) ++ [k] := by
  rw [stored_absent (valueAt_absent h)]; simp
theorem TurnEnd.mk' {g h' : Heap} {L I : Addr} {ks : List Str} {oI : Obj → Prop} {o' : Obj} {J : Flow → List (Option Value) → Led → Prop} {s : Shared} {fl : Flow} {vs' : List (Option Value)} {all : Led} {tk' : Nat} (news : Led) (F : Fr g L h' (frm ks vs')) (N : News g L h' all)
    (hI : (I, o') ∈ all) (sub : ∀ p ∈ news, p ∈ all) (off : ∀ p ∈ news, p.1 ≠ I) (ho : oI o') (p : J fl vs' news) : TurnEnd g L ks I oI J s fl { s with heap := h', toks := tk' } :=
  ⟨h', tk', vs', o', news, rfl, F, fun p hp => by
    rcases List.mem_cons.mp hp with rfl | hp
    · exact N _ hI
    · exact N _ (sub p hp), off, ho, p⟩
noncomputable def upB (Bs : Nat → Led) (i : Nat) (B : Led) : Nat → Led := fun k => if k = i then B else Bs k
theorem upB_same {Bs : Nat → Led} {i : Nat} {B : Led} : upB Bs i B i = B := if_pos rfl
theorem upB_other {Bs : Nat → Led} {i k : Nat} {B : Led} (h : k ≠ i) : upB Bs i B k = Bs k := if_neg h
theorem sub_Bs {Bs : Nat → Led} {i : Nat} {r : Led} (h : i < 2) : ∀ p ∈ Bs i, p ∈ Bs 0 ++ (Bs 1 ++ r) := by
  rcases xy_cases h with rfl | rfl
  · exact fun p hp => List.mem_append_left _ hp
  · exact fun p hp => List.mem_append_right _ (List.mem_append_left _ hp)
theorem mem_Bs {Bs : Nat → Led} {r : Led} {p : Addr × Obj} (h : p ∈ Bs 0 ++ (Bs 1 ++ r)) : (∃ k, k < 2 ∧ p ∈ Bs k) ∨ p ∈ r := by
  rcases List.mem_append.mp h with h | h
  · exact .inl ⟨0, by k_extra "OM", h⟩
  · rcases List.mem_append.mp h with h | h
    · exact .inl ⟨1, by k_extra "OM", h⟩
    · exact .inr h
theorem updM_part {Bs : Nat → Led} {i : Nat} {r pre : Led} {d : Addr} {o o' : Obj} (hi : i < 2) (hm : (d, o) ∈ Bs i) (hpre : ∀ p ∈ pre, p.1 ≠ d) (hr : ∀ p ∈ r, p.1 ≠ d) (ho : ∀ k, k < 2 → k ≠ i → ∀ p ∈ Bs k, p.1 ≠ d) :
    UpdM d o o' (pre ++ (Bs 0 ++ (Bs 1 ++ r))) (pre ++ (upB Bs i (setAt (Bs i) d o') 0 ++ (upB Bs i (setAt (Bs i) d o') 1 ++ r))) := by
  refine ⟨List.mem_append_right _ (sub_Bs hi _ hm), fun p hp => ?_⟩
  rcases List.mem_append.mp hp with hp | hp
  · exact .inr ⟨List.mem_append_left _ hp, hpre p hp⟩
  · rcases mem_Bs hp with ⟨k, hk, hp⟩ | hp
    · by_cases e : k = i
      · subst e
        rw [upB_same] at hp
        rcases List.mem_cons.mp hp with rfl | hp
        · exact .inl rfl
        · obtain ⟨h1, h2⟩ := List.mem_filter.mp hp
          exact .inr ⟨List.mem_append_right _ (sub_Bs hk _ h1), by simpa using h2⟩
      · rw [upB_other e] at hp
        exact .inr ⟨List.mem_append_right _ (sub_Bs hk _ hp), ho k hk e p hp⟩
    · exact .inr ⟨List.mem_append_right _ (List.mem_append_right _ (List.mem_append_right _ hp)), hr p hp⟩
theorem setAt_same {B : Led} {d : Addr} {o o' : Obj} (h : (d, o) ∈ B) : SameAdr (setAt B d o') B := fun p hp => setAt_adr h p hp
noncomputable def BindJ (w : World) (A : Nat → Led) (own1 S : Led) (e f : Addr) (bf : Value) (kind dk fig : Nat → Int) (nd : Nat) (ex : Nat → Int) (i : Nat) (fo : Obj) (kvs : List (Str × Value)) (tl : Led) (Bs : Nat → Led) : Prop :=
  fo.IsDictOf (strKind PR w) kvs ∧ kvs.map (·.1) = [nmOf 0, nmOf 1, nmOf 2].take i ∧ (∀ k, k < 2 → i ≤ k → Bs k = A k) ∧ (∀ k, k < 2 → SameAdr (Bs k) (A k)) ∧ (∀ p ∈ tl, p.1 ≠ f ∧ (∀ q ∈ own1, @Ne Nat p.1 q.1) ∧ (i < 3 → ∀ q ∈ A 0 ++ (A 1 ++ own1), p.1 ≠ q.1)) ∧
    (∀ k, k < 2 → k < i → ∃ b, valueAt kvs (nmOf k) = some (.ref b) ∧ BndOk w (tl ++ (Bs k ++ S)) e bf (kind k) (dk k) (fig k) b) ∧ (i = 3 → ∃ d, valueAt kvs (nmOf 2) = some (.ref d) ∧ DotsOk w (tl ++ S) d nd ex)
theorem nmOf_inj {i k : Nat} (hi : i < 3) (hk : k < 3) (h : nmOf i = nmOf k) : i = k := by
  have n01 : nmOf 0 ≠ nmOf 1 := by decide +kernel
  have n02 : nmOf 0 ≠ nmOf 2 := by decide +kernel
  have n12 : nmOf 1 ≠ nmOf 2 := by decide +kernel
  have h1 : i = 0 ∨ i = 1 ∨ i = 2 := by k_extra "OM"
  have h2 : k = 0 ∨ k = 1 ∨ k = 2 := by k_extra "OM"
  rcases h1 with rfl | rfl | rfl <;> rcases h2 with rfl | rfl | rfl <;> first | rfl | exact absurd h n01 | exact absurd h n02 | exact absurd h n12 | exact absurd h.symm n01 | exact absurd h.symm n02 | exact absurd h.symm n12
theorem nmOf_new {i : Nat} (hi : i < 3) : nmOf i ∉ [nmOf 0, nmOf 1, nmOf 2].take i := by
  have h1 : i = 0 ∨ i = 1 ∨ i = 2 := by k_extra "OM"
  rcases h1 with rfl | rfl | rfl
  · simp
  · simp only [List.take_succ_cons, List.take_zero, List.mem_singleton]
    exact fun h => absurd (nmOf_inj (by k_extra "OM") (by k_extra "OM") h) (by k_extra "OM")
  · simp only [List.take_succ_cons, List.take_zero, List.mem_cons, List.not_mem_nil, or_false, not_or]
    exact ⟨fun h => absurd (nmOf_inj (by k_extra "OM") (by k_extra "OM") h) (by k_extra "OM"), fun h => absurd (nmOf_inj (by k_extra "OM") (by k_extra "OM") h) (by k_extra "OM")⟩
theorem take_next {i : Nat} (hi : i < 3) : [nmOf 0, nmOf 1, nmOf 2].take i ++ [nmOf i] = [nmOf 0, nmOf 1, nmOf 2].take (i + 1) := by
  have h1 : i = 0 ∨ i = 1 ∨ i = 2 := by k_extra "OM"
  rcases h1 with rfl | rfl | rfl <;> rfl
section
variable {w : World} {A : Nat → Led} {own1 S : Led} {e f : Addr} {bf : Value} {kind dk fig : Nat → Int} {nd : Nat} {ex : Nat → Int} {i : Nat} {fo fo' : Obj} {kvs : List (Str × Value)} {tl tl2 : Led} {Bs : Nat → Led}
theorem BindJ.len (J : BindJ w A own1 S e f bf kind dk fig nd ex i fo kvs tl Bs) : kvs.length ≤ 3 := by
  have h := congrArg List.length J.2.1
  rw [List.length_map, List.length_take] at h
  simp at h; omega
theorem BindJ.next (J : BindJ w A own1 S e f bf kind dk fig nd ex i fo kvs tl Bs) (hi : i < 2) {b : Addr} {B' : Led} (hfo : fo'.IsDictOf (strKind PR w) (stored kvs (nmOf i) (.ref b))) (hs : SameAdr B' (Bs i))
    (hap : ∀ p ∈ tl2, p.1 ≠ f ∧ ∀ q ∈ A 0 ++ (A 1 ++ own1), p.1 ≠ q.1) (hb : BndOk w ((tl2 ++ tl) ++ (B' ++ S)) e bf (kind i) (dk i) (fig i) b) :
    BindJ w A own1 S e f bf kind dk fig nd ex (i + 1) fo' (stored kvs (nmOf i) (.ref b)) (tl2 ++ tl) (upB Bs i B') := by
  have hnew : nmOf i ∉ kvs.map (·.1) := by rw [J.2.1]; exact nmOf_new (by k_extra "OM")
  obtain ⟨j1, j2, j3, j4, j5, j6, j7⟩ := J
  refine ⟨hfo, by rw [keys_stored hnew, j2]; exact take_next (by k_extra "OM"), fun k hk hik => ?_, fun k hk => ?_, fun p hp => ?_, fun k hk hki => ?_, fun h => by k_extra "OM"⟩
  · rw [upB_other (by k_extra "OM")]; exact j3 k hk (by k_extra "OM")
  · by_cases q : k = i
    · subst q; rw [upB_same]
      intro p hp
      obtain ⟨r, hr, e⟩ := hs p hp
      obtain ⟨r', hr', e'⟩ := j4 k hk r hr
      exact ⟨r', hr', e'.trans e⟩
    · rw [upB_other q]; exact j4 k hk
  · rcases List.mem_append.mp hp with hp | hp
    · exact ⟨(hap p hp).1, fun q hq => (hap p hp).2 q (memApp (memApp hq)), fun _ => (hap p hp).2⟩
    · exact ⟨(j5 p hp).1, (j5 p hp).2.1, fun _ => (j5 p hp).2.2 (by k_extra "OM")⟩
  · by_cases q : k = i
    · subst q
      exact ⟨b, by rw [valueAt_stored, if_pos rfl], by rw [upB_same]; exact hb⟩
    · obtain ⟨b', h1, h2⟩ := j6 k hk (by k_extra "OM")
      refine ⟨b', ?_, ?_⟩
      · rw [valueAt_stored, if_neg (fun h => q (nmOf_inj (by k_extra "OM") (by k_extra "OM") h).symm)]; exact h1
      · rw [upB_other q]
        exact h2.mono fun p hp => by
          rcases List.mem_append.mp hp with hp | hp
          · exact List.mem_append_left _ (List.mem_append_right _ hp)
          · exact List.mem_append_right _ hp
theorem upB_self {Bs : Nat → Led} {i : Nat} : upB Bs i (Bs i) = Bs := by
  funext k; unfold upB; split
  · rename_i h; rw [h]
  · rfl
theorem BindJ.last (J : BindJ w A own1 S e f bf kind dk fig nd ex 2 fo kvs tl Bs) {d : Addr} (hfo : fo'.IsDictOf (strKind PR w) (stored kvs (nmOf 2) (.ref d)))
    (hap : ∀ p ∈ tl2, p.1 ≠ f ∧ ∀ q ∈ own1, @Ne Nat p.1 q.1) (hd : DotsOk w ((tl2 ++ tl) ++ S) d nd ex) :
    BindJ w A own1 S e f bf kind dk fig nd ex 3 fo' (stored kvs (nmOf 2) (.ref d)) (tl2 ++ tl) Bs := by
  have hnew : nmOf 2 ∉ kvs.map (·.1) := by rw [J.2.1]; exact nmOf_new (by k_extra "OM")
  obtain ⟨j1, j2, j3, j4, j5, j6, j7⟩ := J
  refine ⟨hfo, by rw [keys_stored hnew, j2]; exact take_next (by k_extra "OM"), fun k hk hik => by k_extra "OM", j4, fun p hp => ?_, fun k hk hki => ?_, fun _ => ⟨d, by rw [valueAt_stored, if_pos rfl], hd⟩⟩
  · rcases List.mem_append.mp hp with hp | hp
    · exact ⟨(hap p hp).1, (hap p hp).2, fun h => by k_extra "OM"⟩
    · exact ⟨(j5 p hp).1, (j5 p hp).2.1, fun h => by k_extra "OM"⟩
  · obtain ⟨b', h1, h2⟩ := j6 k hk (by k_extra "OM")
    refine ⟨b', ?_, ?_⟩
    · rw [valueAt_stored, if_neg (fun h => absurd (nmOf_inj (by k_extra "OM") (by k_extra "OM") h) (by k_extra "OM"))]; exact h1
    · exact h2.mono fun p hp => by
        rcases List.mem_append.mp hp with hp | hp
        · exact List.mem_append_left _ (List.mem_append_right _ hp)
        · exact List.mem_append_right _ hp
end
theorem BindJ.off {w : World} {A : Nat → Led} {own1 S : Led} {e f : Addr} {bf : Value} {kind dk fig : Nat → Int} {nd : Nat} {ex : Nat → Int} {i : Nat} {fo : Obj} {kvs : List (Str × Value)} {tl : Led} {Bs : Nat → Led} (J : BindJ w A own1 S e f bf kind dk fig nd ex i fo kvs tl Bs)
    (hoff : ∀ p ∈ A 0 ++ (A 1 ++ own1), p.1 ≠ f) : ∀ p ∈ tl ++ (Bs 0 ++ (Bs 1 ++ own1)), p.1 ≠ f := fun p hp => by
  rcases List.mem_append.mp hp with hp | hp
  · exact (J.2.2.2.2.1 p hp).1
  · rcases mem_Bs hp with ⟨k, hk, hp⟩ | hp
    · obtain ⟨r, hr, e⟩ := J.2.2.2.1 k hk p hp
      rw [← e]; exact hoff r (sub_Bs hk r hr)
    · exact hoff p (memApp (memApp hp))
theorem BindJ.vec {w : World} {A : Nat → Led} {own1 S : Led} {e f : Addr} {bf : Value} {kind dk fig : Nat → Int} {nd : Nat} {ex : Nat → Int} {i : Nat} {fo : Obj} {kvs : List (Str × Value)} {tl : Led} {Bs : Nat → Led} {I d : Addr} {o o1 o2 : Obj} (J : BindJ w A own1 S e f bf kind dk fig nd ex i fo kvs tl Bs)
    (hi : i < 2) (hoff : ∀ p ∈ A 0 ++ (A 1 ++ own1), p.1 ≠ f) (hI1 : ∀ p ∈ A 0 ++ (A 1 ++ own1), @_root_.LT.lt Nat _ p.1 I) (hP1 : Apart (A 0) (A 1 ++ own1)) (hP2 : Apart (A 1) own1) (hm : (d, o1) ∈ A i) :
    UpdM d o1 o2 ((I, o) :: (f, fo) :: (tl ++ (Bs 0 ++ (Bs 1 ++ own1)))) ((I, o) :: (f, fo) :: (tl ++ (upB Bs i (setAt (Bs i) d o2) 0 ++ (upB Bs i (setAt (Bs i) d o2) 1 ++ own1)))) := by
  have hB : Bs i = A i := J.2.2.1 i hi (Nat.le_refl _)
  have hA := sub_Bs (r := own1) hi _ hm
  refine updM_part (r := own1) (pre := (I, o) :: (f, fo) :: tl) (o' := o2) hi (hB ▸ hm) (fun p hp => ?_) (fun p hp => ?_) (fun k hk hki p hp => ?_)
  · rcases List.mem_cons.mp hp with rfl | hp
    · exact Nat.ne_of_gt (hI1 _ hA)
    · rcases List.mem_cons.mp hp with rfl | hp
      · exact Ne.symm (hoff _ hA)
      · exact (J.2.2.2.2.1 p hp).2.2 (by k_extra "OM") _ hA
  · rcases xy_cases hi with rfl | rfl
    · exact Ne.symm (hP1 _ hm p (List.mem_append_right _ hp))
    · exact Ne.symm (hP2 _ hm p hp)
  · obtain ⟨r, hr, e⟩ := J.2.2.2.1 k hk p hp
    rw [← e]
    rcases xy_cases hi with rfl | rfl
    · obtain rfl : k = 1 := by k_extra "OM"
      exact Ne.symm (hP1 _ hm r (List.mem_append_left _ hr))
    · obtain rfl : k = 0 := by k_extra "OM"
      exact hP1 _ hr _ (List.mem_append_left _ hm)
theorem BindJ.off2 {w : World} {A : Nat → Led} {own1 S : Led} {e f : Addr} {bf : Value} {kind dk fig : Nat → Int} {nd : Nat} {ex : Nat → Int} {i : Nat} {fo : Obj} {kvs : List (Str × Value)} {tl : Led} {Bs : Nat → Led} {B : Led} (J : BindJ w A own1 S e f bf kind dk fig nd ex i fo kvs tl Bs)
    (hoff : ∀ p ∈ A 0 ++ (A 1 ++ own1), p.1 ≠ f) (hi : i < 2) (hB : SameAdr B (Bs i)) : ∀ p ∈ tl ++ (upB Bs i B 0 ++ (upB Bs i B 1 ++ own1)), p.1 ≠ f := fun p hp => by
  have h := J.off hoff
  rcases List.mem_append.mp hp with hp | hp
  · exact h p (memLeft hp)
  · rcases mem_Bs hp with ⟨k, hk, hp⟩ | hp
    · by_cases q : k = i
      · subst q
        rw [upB_same] at hp
        obtain ⟨r, hr, e⟩ := hB p hp
        rw [← e]; exact h r (memApp (sub_Bs hk r hr))
      · rw [upB_other q] at hp
        exact h p (memApp (sub_Bs hk p hp))
    · exact h p (memApp (memApp (memApp hp)))
theorem BindJ.widen {w : World} {A : Nat → Led} {own0 pre S : Led} {e f : Addr} {bf : Value} {kind dk fig : Nat → Int} {nd : Nat} {ex : Nat → Int} {fo : Obj} {kvs : List (Str × Value)} {tl : Led} {Bs : Nat → Led} (J : BindJ w A (pre ++ own0) S e f bf kind dk fig nd ex 3 fo kvs tl Bs)
    (hp : ∀ p ∈ pre, p.1 ≠ f ∧ ∀ q ∈ own0, @Ne Nat p.1 q.1) : BindJ w A own0 S e f bf kind dk fig nd ex 3 fo kvs (tl ++ pre) Bs := by
  obtain ⟨j1, j2, j3, j4, j5, j6, j7⟩ := J
  refine ⟨j1, j2, j3, j4, fun p hq => ?_, fun k hk hki => ?_, fun h => ?_⟩
  · rcases List.mem_append.mp hq with hq | hq
    · exact ⟨(j5 p hq).1, fun r hr => (j5 p hq).2.1 r (memApp hr), fun h => by k_extra "OM"⟩
    · exact ⟨(hp p hq).1, (hp p hq).2, fun h => by k_extra "OM"⟩
  · obtain ⟨b, h1, h2⟩ := j6 k hk hki
    refine ⟨b, h1, h2.mono fun p hp => ?_⟩
    rcases List.mem_append.mp hp with hp | hp
    · exact memLeft (memLeft hp)
    · exact memApp hp
  · obtain ⟨d, h1, h2⟩ := j7 h
    refine ⟨d, h1, h2.mono fun p hp => ?_⟩
    rcases List.mem_append.mp hp with hp | hp
    · exact memLeft (memLeft hp)
    · exact memApp hp
theorem sub_widen {f : Addr × Obj} {tl pre A0 A1 own0 : Led} : ∀ p ∈ f :: ((tl ++ pre) ++ (A0 ++ (A1 ++ own0))), p ∈ f :: (tl ++ (A0 ++ (A1 ++ (pre ++ own0)))) := by repeat' (first | (with_reducible exact subRefl) | (with_reducible exact subNil) | (with_reducible exact subLeft) | (with_reducible refine' subBoth ?_ ?_) | (refine' subCons (by k_mem) ?_) | (with_reducible refine' subTail ?_) | (with_reducible refine' subApp ?_))
theorem bind_turn {w : World} {A : Nat → Led} {own1 S : Led} {e f : Addr} {bf : Value} {kind dk fig : Nat → Int} {nd : Nat} {ex : Nat → Int} {i : Nat} {fo fo2 : Obj} {kvs : List (Str × Value)} {tl : Led} {Bs : Nat → Led}
    {g h' : Heap} {L I : Addr} {ks : List Str} {oI : Obj → Prop} {o : Obj} {s : Shared} {P : Option Value → Option Value → Option Value → List (Option Value)} {v6 v7 v8 : Option Value} {all : Led} {tk' : Nat} {b : Addr}
    (J : BindJ w A own1 S e f bf kind dk fig nd ex i fo kvs tl Bs) (hi : i < 2) (hoff : ∀ p ∈ A 0 ++ (A 1 ++ own1), p.1 ≠ f) (hI : ∀ p ∈ (f, fo) :: (tl ++ (Bs 0 ++ (Bs 1 ++ own1))), p.1 ≠ I) (hI1 : ∀ p ∈ A 0 ++ (A 1 ++ own1), @_root_.LT.lt Nat _ p.1 I) (hfI : @_root_.LT.lt Nat _ f I) (ho : oI o)
    (tl2 B' : Led) (F : Fr g L h' (frm ks (P v6 v7 v8))) (N : News g L h' all) (hm : (I, o) ∈ all) (hfo : fo2.IsDictOf (strKind PR w) (stored kvs (nmOf i) (.ref b))) (hs : SameAdr B' (Bs i)) (hap : ∀ p ∈ tl2, @_root_.LT.lt Nat _ I p.1)
    (hsub : ∀ p ∈ (f, fo2) :: ((tl2 ++ tl) ++ (upB Bs i B' 0 ++ (upB Bs i B' 1 ++ own1))), p ∈ all)
    (hb : BndOk w ((tl2 ++ tl) ++ (B' ++ S)) e bf (kind i) (dk i) (fig i) b) :
    TurnEnd g L ks I oI (fun fl vs news => (fl = .next ∨ fl = .cont) ∧ ∃ v6 v7 v8 fo kvs tl Bs, vs = P v6 v7 v8 ∧ news = (f, fo) :: (tl ++ (Bs 0 ++ (Bs 1 ++ own1))) ∧ BindJ w A own1 S e f bf kind dk fig nd ex (i + 1) fo kvs tl Bs) s .next { s with heap := h', toks := tk' } := by
  refine TurnEnd.mk' ((f, fo2) :: ((tl2 ++ tl) ++ (upB Bs i B' 0 ++ (upB Bs i B' 1 ++ own1)))) F N hm hsub (fun p hp => ?_) ho ⟨.inl rfl, v6, v7, v8, fo2, _, tl2 ++ tl, upB Bs i B', rfl, rfl, J.next hi hfo hs (fun p hp => ⟨?_, fun q hq => ?_⟩) hb⟩
  · rcases List.mem_cons.mp hp with rfl | hp
    · exact Nat.ne_of_lt hfI
    · rcases List.mem_append.mp hp with hp | hp
      · rcases List.mem_append.mp hp with hp | hp
        · exact Nat.ne_of_gt (hap p hp)
        · exact hI p (List.mem_cons_of_mem _ (memLeft hp))
      · rcases mem_Bs hp with ⟨k, hk, hp⟩ | hp
        · by_cases q : k = i
          · subst q
            rw [upB_same] at hp
            obtain ⟨r, hr, e⟩ := hs p hp
            rw [← e]; exact hI r (List.mem_cons_of_mem _ (memApp (sub_Bs hk r hr)))
          · rw [upB_other q] at hp
            exact hI p (List.mem_cons_of_mem _ (memApp (sub_Bs hk p hp)))
        · exact hI p (List.mem_cons_of_mem _ (memApp (memApp (memApp hp))))
  · exact Nat.ne_of_gt (Nat.lt_trans hfI (hap p hp))
  · exact Nat.ne_of_gt (Nat.lt_trans (hI1 q hq) (hap p hp))
section
variable {I tp lr dpl D cc f a b : Addr × Obj} {A0 A1 own0 tl X B own1 : Led}
theorem sub_start : ∀ p ∈ I :: f :: ([] ++ (A0 ++ (A1 ++ (lr :: dpl :: cc :: own0)))), p ∈ I :: tp :: lr :: dpl :: D :: cc :: f :: (A0 ++ (A1 ++ own0)) := by repeat' (first | (with_reducible exact subRefl) | (with_reducible exact subNil) | (with_reducible exact subLeft) | (with_reducible refine' subBoth ?_ ?_) | (refine' subCons (by k_mem) ?_) | (with_reducible refine' subTail ?_) | (with_reducible refine' subApp ?_))
theorem sub_turn0 : ∀ p ∈ f :: (([] ++ tl) ++ X), p ∈ I :: f :: (tl ++ X) := by repeat' (first | (with_reducible exact subRefl) | (with_reducible exact subNil) | (with_reducible exact subLeft) | (with_reducible refine' subBoth ?_ ?_) | (refine' subCons (by k_mem) ?_) | (with_reducible refine' subTail ?_) | (with_reducible refine' subApp ?_))
theorem sub_turn2 : ∀ p ∈ f :: (([a, b] ++ tl) ++ X), p ∈ a :: b :: I :: f :: (tl ++ X) := by repeat' (first | (with_reducible exact subRefl) | (with_reducible exact subNil) | (with_reducible exact subLeft) | (with_reducible refine' subBoth ?_ ?_) | (refine' subCons (by k_mem) ?_) | (with_reducible refine' subTail ?_) | (with_reducible refine' subApp ?_))
theorem sub_own : ∀ p ∈ own1, p ∈ (A0 ++ tl) ++ (B ++ own1) := fun _ hp => memApp (memApp hp)
theorem sub_turn3 {T : Led} : ∀ p ∈ f :: (((a :: b :: D :: T) ++ tl) ++ X), p ∈ a :: b :: D :: I :: f :: (T ++ (tl ++ X)) := by repeat' (first | (with_reducible exact subRefl) | (with_reducible exact subNil) | (with_reducible exact subLeft) | (with_reducible refine' subBoth ?_ ?_) | (refine' subCons (by k_mem) ?_) | (with_reducible refine' subTail ?_) | (with_reducible refine' subApp ?_))
theorem sub_dots {c i d e : Addr × Obj} {T : Led} : ∀ p ∈ I :: f :: ((a :: b :: c :: T) ++ X), p ∈ a :: b :: c :: i :: d :: e :: I :: f :: (T ++ X) := by repeat' (first | (with_reducible exact subRefl) | (with_reducible exact subNil) | (with_reducible exact subLeft) | (with_reducible refine' subBoth ?_ ?_) | (refine' subCons (by k_mem) ?_) | (with_reducible refine' subTail ?_) | (with_reducible refine' subApp ?_))
theorem sub_item3 {c : Addr × Obj} {T : Led} : ∀ p ∈ T ++ (tl ++ own1), p ∈ (a :: b :: c :: T) ++ (tl ++ own1) := fun _ hp => List.mem_cons_of_mem a (List.mem_cons_of_mem b (List.mem_cons_of_mem c hp))
theorem sub_item {T : Led} : ∀ p ∈ T ++ (tl ++ own1), p ∈ (a :: T) ++ (tl ++ own1) := fun _ hp => List.mem_cons_of_mem a hp
end
end SM3

theorem reg_macros_m3 : True := by
  k_with "k_caughtB" => (first | (with_reducible assumption) | (with_reducible exact DfOk.mono (by with_reducible assumption) (by repeat' (first | (with_reducible exact subRefl) | (with_reducible exact subNil) | (with_reducible exact subLeft) | (with_reducible refine' subBoth ?_ ?_) | (refine' subCons (by k_mem) ?_) | (with_reducible refine' subTail ?_) | (with_reducible refine' subApp ?_)))) | (with_reducible exact DoneRec.mono (by with_reducible assumption) (by repeat' (first | (with_reducible exact subRefl) | (with_reducible exact subNil) | (with_reducible exact subLeft) | (with_reducible refine' subBoth ?_ ?_) | (refine' subCons (by k_mem) ?_) | (with_reducible refine' subTail ?_) | (with_reducible refine' subApp ?_)))) | (with_reducible exact PromRec.mono (by with_reducible assumption) (by repeat' (first | (with_reducible exact subRefl) | (with_reducible exact subNil) | (with_reducible exact subLeft) | (with_reducible refine' subBoth ?_ ?_) | (refine' subCons (by k_mem) ?_) | (with_reducible refine' subTail ?_) | (with_reducible refine' subApp ?_)))) | (with_reducible exact SymRec.mono (by with_reducible assumption) (by repeat' (first | (with_reducible exact subRefl) | (with_reducible exact subNil) | (with_reducible exact subLeft) | (with_reducible refine' subBoth ?_ ?_) | (refine' subCons (by k_mem) ?_) | (with_reducible refine' subTail ?_) | (with_reducible refine' subApp ?_)))) | (with_reducible exact NumRec.mono (by with_reducible assumption) (by repeat' (first | (with_reducible exact subRefl) | (with_reducible exact subNil) | (with_reducible exact subLeft) | (with_reducible refine' subBoth ?_ ?_) | (refine' subCons (by k_mem) ?_) | (with_reducible refine' subTail ?_) | (with_reducible refine' subApp ?_)))) | (with_reducible exact MisRec.mono (by with_reducible assumption) (by repeat' (first | (with_reducible exact subRefl) | (with_reducible exact subNil) | (with_reducible exact subLeft) | (with_reducible refine' subBoth ?_ ?_) | (refine' subCons (by k_mem) ?_) | (with_reducible refine' subTail ?_) | (with_reducible refine' subApp ?_)))) | (with_reducible exact BndOk.mono (by with_reducible assumption) (by repeat' (first | (with_reducible exact subRefl) | (with_reducible exact subNil) | (with_reducible exact subLeft) | (with_reducible refine' subBoth ?_ ?_) | (refine' subCons (by k_mem) ?_) | (with_reducible refine' subTail ?_) | (with_reducible refine' subApp ?_)))) | (with_reducible exact XtOk.mono (by with_reducible assumption) (by repeat' (first | (with_reducible exact subRefl) | (with_reducible exact subNil) | (with_reducible exact subLeft) | (with_reducible refine' subBoth ?_ ?_) | (refine' subCons (by k_mem) ?_) | (with_reducible refine' subTail ?_) | (with_reducible refine' subApp ?_)))) | (with_reducible exact DItem.mono (by with_reducible assumption) (by repeat' (first | (with_reducible exact subRefl) | (with_reducible exact subNil) | (with_reducible exact subLeft) | (with_reducible refine' subBoth ?_ ?_) | (refine' subCons (by k_mem) ?_) | (with_reducible refine' subTail ?_) | (with_reducible refine' subApp ?_)))) | (with_reducible exact DItems.mono (by with_reducible assumption) (by repeat' (first | (with_reducible exact subRefl) | (with_reducible exact subNil) | (with_reducible exact subLeft) | (with_reducible refine' subBoth ?_ ?_) | (refine' subCons (by k_mem) ?_) | (with_reducible refine' subTail ?_) | (with_reducible refine' subApp ?_)))) | (with_reducible exact DotsOk.mono (by with_reducible assumption) (by repeat' (first | (with_reducible exact subRefl) | (with_reducible exact subNil) | (with_reducible exact subLeft) | (with_reducible refine' subBoth ?_ ?_) | (refine' subCons (by k_mem) ?_) | (with_reducible refine' subTail ?_) | (with_reducible refine' subApp ?_)))))
  trivial
section SM4
theorem t_bind (w : World) (mean : ExcName → Option Value) (mg mb : Str → Option Value) (own0 S : Led) (A : Nat → Led) (cl e f lfm la : Addr) (fo : Obj) (n c : Nat) (tg : Nat → Str) (vl : Nat → Value) (av : List Value) (nf na : Nat) (q dd : Nat → Addr) (st : Nat → Tok) (kind dk fig : Nat → Int) (ex : Nat → Int) (bf : Value)
    (c1 c2 c3 c4 c5 : Tok) (cv1 cv3 cv4 cv5 : Value) (t1 t2 t3 t4 t5 t6 t7 : Tok) (v1 v2 v3 v4 v6 v7 : Value)
    (hcl : Rec w own0 cl 278 ksClosure [(c1, cv1), (c2, .ref lfm), (c3, cv3), (c4, cv4), (c5, cv5)]) (hlfm : (lfm, listOf [.ref (q 0), .ref (q 1), .ref (q 2)].toArray nf) ∈ own0)
    (hq : ∀ i, i < 3 → (q i, tupOf [.str (nmOf i) (st i), .ref (dd i)]) ∈ own0) (hdf : ∀ i, i < 2 → DfOk w S (dd i) (dk i))
    (he : Rec w own0 e 300 ksEnvironment [(t1, v1), (t2, v2), (t3, v3), (t4, v4), (t5, .ref f), (t6, v6), (t7, v7)])
    (hla : (la, listOf av.toArray na) ∈ own0) (hS : ∀ p ∈ S, p ∈ own0) (hav : ArgsAre S av n tg vl) (hn : n ≤ 10) (hun : ∀ i : Nat, i < 2 → ∀ p q, p < n → q < n → tg p = xyN i → tg q = xyN i → p = q)
    (hc : c ≤ n) (hc1 : ∀ p, p < c → tg p = xyN 0 ∨ tg p = xyN 1) (hc2 : ∀ p, c ≤ p → p < n → tg p = Str.ofString "zz")
    (hk : ∀ i, i < 2 → (kind i = 0 ∧ ∀ p, p < n → tg p ≠ nmOf i) ∨ (0 < kind i ∧ (∃ p, p < n ∧ tg p = nmOf i) ∧ ∃ va, (∀ p, p < n → tg p = nmOf i → vl p = .ref va) ∧ ArgOk w (A i) va (kind i) (fig i) bf))
    (hx : ∀ j, j < n - c → ∃ va, vl (c + j) = .ref va ∧ XtOk w S va (ex j))
    (hfo : fo.IsDictOf (strKind PR w) []) (lo : (f == sysModules) = false) (hf : ∀ p ∈ A 0 ++ (A 1 ++ own0), p.1 ≠ f) (hA1 : Apart (A 0) (A 1 ++ own0)) (hA2 : Apart (A 1) own0) :
    Tell w mean mg mb 11 422 [.ref cl, .ref la, .ref e] ((f, fo) :: (A 0 ++ (A 1 ++ own0))) (fun r news' => ∃ fo' tl Bs kvs, r = .none ∧ news' = (f, fo') :: (tl ++ (Bs 0 ++ (Bs 1 ++ own0))) ∧ BindJ w A own0 S e f bf kind dk fig (n - c) ex 3 fo' kvs tl Bs) := by
  have havl := hav.1
  refine' TellC.tell ?_
  refine' tellC_of1 [(Str.ofString "closure", .ref cl), (Str.ofString "args", .ref la), (Str.ofString "env", .ref e), (Str.ofString "show", .none)] (Str.ofString "args") (some (.ref la)) [Str.ofString "closure", Str.ofString "env", Str.ofString "show"] [.ref cl, .ref e, .none] [Str.ofString "names", Str.ofString "places", Str.ofString "rest", Str.ofString "name", Str.ofString "default", Str.ofString "bound"] [Str.ofString "match_names", Str.ofString "Dots", Str.ofString "bound_argument", Str.ofString "default_binding"] ?ho ?hcd ?hb ?hcf ?hfl ?hcv ?hkd rfl ?hl ?hg ?h1 ?h2 ?R
  case ho => k_dflt k_is
  case hcd => k_dflt k_is
  case hb => exact fun _ hX _ e => binds_K (e ▸ hX) rfl (by k_is) rfl rfl rfl
  case hcf => exact fun _ => rfl
  case hfl => kernel_rfl!
  case hcv => kernel_rfl!
  case hkd => simp only [List.forall_mem_cons, List.not_mem_nil, false_imp_iff, implies_true, and_true]; decide +kernel
  case hl => kernel_rfl!
  case hg => kernel_rfl!
  case h1 => rfl
  case h2 => rfl
  intro LT GT dp un gd outer A₀ base g L cc oc s B F X N hoc hlc T hd hu
  simp only [List.map, List.cons_append, List.nil_append, List.append_nil] at F LT
  obtain ⟨hp, ge, dr, tk, os⟩ := s
  k_extra "SK"
  refine' LCg.CompSrc.ledger ?hh ?F ?N ?hm ?hz ?_
  case hh => rfl
  case F => k_asm
  case N => k_asm
  case hm => k_mem
  case hz => exact Nat.le_of_ble_eq_true rfl
  intro gg
  refine' compU_inv (n := 3) (fun i ys news => news = (cc, oc) :: (f, fo) :: (A 0 ++ (A 1 ++ own0)) ∧ ys = (List.range i).map fun k => .str (nmOf k) (st k)) ?start ?step ?fin
  case start => exact ⟨rfl, rfl⟩
  case step =>
    rintro i ys news v I oI C oC D m₂ h tk E' hi ⟨rfl, rfl⟩ hv hC hx F N off ne
    obtain rfl : v = .ref (q i) := by
      have : i = 0 ∨ i = 1 ∨ i = 2 := by k_extra "OM"
      rcases this with rfl | rfl | rfl <;> simpa using hv.symm
    have hqi := hq i hi
    dsimp only
    k_extra "SK"
    exact compEnd (by k_asm) (by k_asm) _ (by k_mem) (by k_mem) (by k_mem) (by repeat' (first | (with_reducible exact subRefl) | (with_reducible exact subNil) | (with_reducible exact subLeft) | (with_reducible refine' subBoth ?_ ?_) | (refine' subCons (by k_mem) ?_) | (with_reducible refine' subTail ?_) | (with_reducible refine' subApp ?_))) off (.inr ⟨_, by k_mem, rfl, _, rfl⟩) ⟨rfl, by rw [List.range_succ]; simp⟩
  case fin =>
    rintro ys news ⟨rfl, rfl⟩
    unfold LCg.FinA
    intro D h tk F N o1
    dsimp only at *
    replace N : News g L h ((D, listOf [.str (xyN 0) (st 0), .str (xyN 1) (st 1), .str (Str.ofString "...") (st 2)].toArray 3) :: (cc, oc) :: (f, fo) :: (A 0 ++ (A 1 ++ own0))) := N
    replace F := fr_put LT F (by k_extra "ktr_rel")
    k_extra "SK"
    refine' Tell.use (t_match_names w mean mg mb ((D, listOf [.str (xyN 0) (st 0), .str (xyN 1) (st 1), .str (Str.ofString "...") (st 2)].toArray 3) :: (cc, oc) :: (f, fo) :: (A 0 ++ (A 1 ++ own0))) D la n c tg vl av 3 na (st 0) (st 1) (st 2) ?z1 ?z2 ?z3 hn hun hc hc1 hc2) ?B ?F ?X ?N ?sub ?T ?hk ?hd ?hu ?ret
    case z1 => k_mem
    case z2 => k_mem
    case z3 => exact hav.mono fun p hp => memTail (memTail (memTail (memApp (memApp (hS p hp)))))
    case B => k_asm
    case F => k_asm
    case X => k_asm
    case N => k_asm
    case sub => exact subRefl
    case T => k_asm
    case hk => rfl
    case hd => k_extra "OM"
    case hu => k_extra "OM"
    case ret =>
    rintro r' news' h' tk' F' N' ⟨tp, dpl, lr, rv, po, pkvs, kk, rfl, rfl, o1', o2', o3', lod, hpo, hpl, hrv⟩
    simp only [LCg.Off1, and_true] at o1' o2' o3'
    obtain ⟨p1, p2, p3, o1'⟩ := o1'
    obtain ⟨q1, q2, q3, o2'⟩ := o2'
    obtain ⟨r1, r2, r3, o3'⟩ := o3'
    k_sweep
    k_extra "SK"
    rename Addr => I1
    rename Obj => oI
    rename LIt _ _ _ => hLI
    rename News _ _ _ _ => N1
    rename AllLt I1 _ => lI
    obtain ⟨own1, hown1⟩ : ∃ o, o = (lr, listOf rv.toArray kk) :: (dpl, po) :: (cc, oc) :: own0 := ⟨_, rfl⟩
    have h01 : ∀ p ∈ own0, p ∈ own1 := by rw [hown1]; exact fun _ hp => memTail (memTail (memTail hp))
    have hlr : (lr, listOf rv.toArray kk) ∈ own1 := by rw [hown1]; exact List.Mem.head _
    have hdp : (dpl, po) ∈ own1 := by rw [hown1]; exact memTail (List.Mem.head _)
    have hcc : (cc, oc) ∈ own1 := by rw [hown1]; exact memTail (memTail (List.Mem.head _))
    have hw : ∀ p ∈ [(lr, listOf rv.toArray kk), (dpl, po), (cc, oc)], p.1 ≠ f ∧ ∀ q ∈ own0, @Ne Nat p.1 q.1 := by
      simp only [List.forall_mem_cons]
      exact ⟨⟨Ne.symm q3, fun q hq => Ne.symm (off1_mem o2' q (memApp (memApp hq)))⟩, ⟨Ne.symm r3, fun q hq => Ne.symm (off1_mem o3' q (memApp (memApp hq)))⟩, ⟨Ne.symm (Nat.ne_of_lt (hlc _ List.mem_cons_self)), fun q hq => Nat.ne_of_gt (hlc q (List.mem_cons_of_mem _ (memApp (memApp hq))))⟩, fun _ h => nomatch h⟩
    have hcase : ∀ p ∈ own1, p.1 = lr ∨ p.1 = dpl ∨ p.1 = cc ∨ p ∈ own0 := by
      rw [hown1]; intro p hp
      rcases List.mem_cons.mp hp with rfl | hp
      · exact .inl rfl
      · rcases List.mem_cons.mp hp with rfl | hp
        · exact .inr (.inl rfl)
        · rcases List.mem_cons.mp hp with rfl | hp
          · exact .inr (.inr (.inl rfl))
          · exact .inr (.inr (.inr hp))
    have hin : ∀ p ∈ A 0 ++ (A 1 ++ own1), p.1 = lr ∨ p.1 = dpl ∨ p.1 = cc ∨ p ∈ A 0 ++ (A 1 ++ own0) := fun p hp => by
      rcases List.mem_append.mp hp with hp | hp
      · exact .inr (.inr (.inr (memLeft hp)))
      · rcases List.mem_append.mp hp with hp | hp
        · exact .inr (.inr (.inr (memApp (memLeft hp))))
        · rcases hcase p hp with h | h | h | h
          · exact .inl h
          · exact .inr (.inl h)
          · exact .inr (.inr (.inl h))
          · exact .inr (.inr (.inr (memApp (memApp h))))
    have hoff1 : ∀ p ∈ A 0 ++ (A 1 ++ own1), p.1 ≠ f := fun p hp => by
      rcases hin p hp with h | h | h | h
      · rw [h]; exact Ne.symm q3
      · rw [h]; exact Ne.symm r3
      · rw [h]; exact Ne.symm (Nat.ne_of_lt (hlc _ List.mem_cons_self))
      · exact hf p h
    have hlc' : ∀ p ∈ A 0 ++ (A 1 ++ own0), p.1 ≠ cc := fun p hp => Nat.ne_of_lt (hlc p (List.mem_cons_of_mem _ hp))
    have hP1 : Apart (A 0) (A 1 ++ own1) := fun p hp q hq => by
      rcases List.mem_append.mp hq with hq | hq
      · exact hA1 p hp q (memLeft hq)
      · rcases hcase q hq with h | h | h | h
        · rw [h]; exact off1_mem o2' p (memLeft hp)
        · rw [h]; exact off1_mem o3' p (memLeft hp)
        · rw [h]; exact hlc' p (memLeft hp)
        · exact hA1 p hp q (memApp h)
    have hP2 : Apart (A 1) own1 := fun p hp q hq => by
      rcases hcase q hq with h | h | h | h
      · rw [h]; exact off1_mem o2' p (memApp (memLeft hp))
      · rw [h]; exact off1_mem o3' p (memApp (memLeft hp))
      · rw [h]; exact hlc' p (memApp (memLeft hp))
      · exact hA2 p hp q h
    have hI1 : ∀ p ∈ A 0 ++ (A 1 ++ own1), @_root_.LT.lt Nat _ p.1 I1 := fun p hp => by
      rcases hin p hp with h | h | h | h
      · rw [h]; omega
      · rw [h]; omega
      · rw [h]; omega
      · exact ktn_ltOf lI p h
    have hfI : @_root_.LT.lt Nat _ f I1 := by k_extra "OM"
    have N2 := newsSub (l' := (I1, oI) :: (f, fo) :: ([] ++ (A 0 ++ (A 1 ++ own1)))) N1 (by rw [hown1]; exact sub_start)
    clear N1 lI hcase hin hlc' o1' o2' o3' hlc
    replace hcl := hcl.mono h01
    replace hlfm := h01 _ hlfm
    replace hq := fun i hi => h01 _ (hq i hi)
    have hS1 : ∀ p ∈ S, p ∈ own1 := fun p hp => h01 p (hS p hp)
    replace he := he.mono h01
    replace hla := h01 _ hla
    have havO := hav.mono hS1
    clear h01
    refine' lst_invT [.ref (q 0), .ref (q 1), .ref (q 2)] (fun i vs news => ∃ v6 v7 v8 fo kvs tl Bs, vs = [some (.ref cl), some (.ref e), some .none, some (.ref D), some (.ref dpl), some (.ref lr), v6, v7, v8] ∧ news = (f, fo) :: (tl ++ (Bs 0 ++ (Bs 1 ++ own1))) ∧
      BindJ w A own1 S e f bf kind dk fig (n - c) ex i fo kvs tl Bs) ?hh ?F ?N ?hI ?ho ?hr ?hJ ?start ?step ?fin
    case hh => rfl
    case F => k_asm
    case N => exact N2
    case hI =>
      intro p hp
      rcases List.mem_cons.mp hp with rfl | hp
      · exact Nat.ne_of_lt hfI
      · exact Nat.ne_of_lt (hI1 p hp)
    case ho => assumption
    case hr =>
      intro i v hv
      have : i < 3 := by have := (List.getElem?_eq_some_iff.mp hv).1; simpa using this
      have h3 : i = 0 ∨ i = 1 ∨ i = 2 := by k_extra "OM"
      rcases h3 with rfl | rfl | rfl <;> exact ⟨_, by simpa using hv.symm⟩
    case hJ => rintro i vs news ⟨v6, v7, v8, fo, kvs, tl, Bs, rfl, rfl, J⟩; exact List.mem_cons_of_mem _ (memApp (memApp (memApp hlfm)))
    case start => exact ⟨_, _, _, fo, [], [], A, rfl, rfl, ⟨hfo, rfl, fun _ _ _ => rfl, fun _ _ => SameAdr.refl, fun _ h => (nomatch h), fun _ _ h => absurd h (Nat.not_lt_zero _), fun h => absurd h (by decide)⟩⟩
    case fin =>
      rintro vs news h tk ⟨v6, v7, v8, fo', kvs, tl, Bs, rfl, rfl, J⟩ F N
      k_extra "SK"
      subst hown1
      refine' RunEnd.intro ?zf ?zn ?zp
      case zf => k_asm
      case zn => exact newsSub (by k_asm) (sub_widen (pre := [(lr, listOf rv.toArray kk), (dpl, po), (cc, oc)]))
      case zp => exact ⟨_, _, _, _, rfl, rfl, J.widen (pre := [(lr, listOf rv.toArray kk), (dpl, po), (cc, oc)]) hw⟩
    case step =>
      rintro i v vs news h tk o hv ⟨v6, v7, v8, fo', kvs, tl, Bs, rfl, rfl, J⟩ F N ho hI
      clear hfo N2
      have hi3 : i < 3 := by have := (List.getElem?_eq_some_iff.mp hv).1; simpa using this
      obtain rfl : v = .ref (q i) := by
        have h3 : i = 0 ∨ i = 1 ∨ i = 2 := by k_extra "OM"
        rcases h3 with rfl | rfl | rfl <;> simpa using hv.symm
      have hqi := hq i hi3
      have hkl := J.len
      have hfo2 := J.1
      have hof' := off1_of (J.off hoff1)
      by_cases hi2 : i < 2
      · have hnd := nmOf_nd hi2
        rcases hk i hi2 with ⟨hk0, hno⟩ | ⟨hk0, ⟨p0, hp0, htp0⟩, va, hva, harg⟩
        · have hpn : (valueAt pkvs (nmOf i)).isSome = false := by
            rcases hpl (nmOf i) with ⟨p, t, h1, h2, _⟩ | ⟨h1, _⟩
            · exact absurd h2 (hno p h1)
            · rw [h1]; rfl
          rcases hdf i hi2 with ⟨hd0, hdk⟩ | ⟨hd0, kd, hkd, hdk⟩
          · have hdkO := hdk.mono hS1
            k_extra "SK"
            refine bind_turn J hi2 hoff1 hI hI1 hfI ho [] (Bs i) (by k_asm) (by k_asm) (by k_mem) (by k_asm) SameAdr.refl (fun _ h => nomatch h) ?_ (.inl ⟨by k_extra "OM", hd0, hdk.mono sub_own⟩)
            rw [upB_self]; exact sub_turn0
          · have hdkO := hdk.mono hS1
            have hkd' : strNe kd (Str.ofString "missing") = true := by simpa [strNe] using hkd
            k_extra "SK"
            refine' bind_turn J hi2 hoff1 hI hI1 hfI ho [(_, instObj 321 _), (_, dictOf _ _)] (Bs i) (by k_asm) (by k_asm) (by k_mem) (by k_asm) SameAdr.refl ?yhap ?yhsub ?yhb
            case yhsub => rw [upB_self]; exact sub_turn2
            case yhap => simp only [List.forall_mem_cons]; exact ⟨ltN (by k_extra "OM"), ltN (by k_extra "OM"), fun _ h => nomatch h⟩
            case yhb => exact .inr (.inl ⟨by k_extra "OM", hd0, _, _, _, _, _, _, _, _, _, _, _, memLeft (List.Mem.head _), memLeft (List.Mem.tail _ (List.Mem.head _))⟩)
        · obtain ⟨p1', tp, hp1, htp1, _, hpv⟩ : ∃ p t, p < n ∧ tg p = nmOf i ∧ exD 2 (nmOf i) p ∧ valueAt pkvs (nmOf i) = some (.int p t) := by
            rcases hpl (nmOf i) with h | ⟨_, h2⟩
            · exact h
            · refine absurd ?_ (h2 p0 hp0 htp0)
              rw [nmOf_xy hi2]
              rcases xy_cases hi2 with rfl | rfl
              · exact .inl ⟨rfl, by k_extra "OM"⟩
              · exact .inr ⟨rfl, by k_extra "OM"⟩
          have hpn : (valueAt pkvs (nmOf i)).isSome = true := by rw [hpv]; rfl
          obtain ⟨ta, tat, hav1, hav2⟩ := havO.2 p1' hp1
          rw [hva p1' hp1 htp1] at hav2
          have hav3 : av[((p1' : Nat) : Int).toNat]? = some (.ref ta) := by simpa using hav1
          have hBi : Bs i = A i := J.2.2.1 i hi2 (Nat.le_refl _)
          rcases harg with ⟨hk1, hm⟩ | ⟨hk1, hnr⟩ | ⟨hk1, xe, hpr, hkx⟩ | ⟨hk1, xe, hpr, hkx⟩
          · have hkr : KindRec w (tl ++ (Bs 0 ++ (Bs 1 ++ own1))) va (Str.ofString "missing") := hm.kind.mono fun p hp => memApp (sub_Bs hi2 p (hBi ▸ hp))
            obtain ⟨C, ks, t, u, tvs, ka, kb, kc, kr⟩ := id hkr
            rcases hdf i hi2 with ⟨hd0, hdk⟩ | ⟨hd0, kd, hkd, hdk⟩
            · have hdkO := hdk.mono hS1
              k_extra "SK"
              refine bind_turn J hi2 hoff1 hI hI1 hfI ho [] (Bs i) (by k_asm) (by k_asm) (by k_mem) (by k_asm) SameAdr.refl (fun _ h => nomatch h) ?_ (.inl ⟨by k_extra "OM", hd0, hdk.mono sub_own⟩)
              rw [upB_self]; exact sub_turn0
            · have hdkO := hdk.mono hS1
              have hkd' : strNe kd (Str.ofString "missing") = true := by simpa [strNe] using hkd
              k_extra "SK"
              refine' bind_turn J hi2 hoff1 hI hI1 hfI ho [(_, instObj 321 _), (_, dictOf _ _)] (Bs i) (by k_asm) (by k_asm) (by k_mem) (by k_asm) SameAdr.refl ?yhap ?yhsub ?yhb
              case yhsub => rw [upB_self]; exact sub_turn2
              case yhap => simp only [List.forall_mem_cons]; exact ⟨ltN (by k_extra "OM"), ltN (by k_extra "OM"), fun _ h => nomatch h⟩
              case yhb => exact .inr (.inl ⟨by k_extra "OM", hd0, _, _, _, _, _, _, _, _, _, _, _, memLeft (List.Mem.head _), memLeft (List.Mem.tail _ (List.Mem.head _))⟩)
          · obtain ⟨lv, nl, tf, s1, s2, s3, s4, s5, su, sb, ⟨dv, nv, hv1, hv2⟩, hl2⟩ := hnr
            have hvB : (va, instObj 213 dv) ∈ Bs i := hBi ▸ hv1
            have hdB : (dv, dictOf (ents w.params ksVector [(s1, .str (Str.ofString "integer") su), (s2, .ref lv), (s3, .none), (s4, .bool sb), (s5, .bool false)]) nv) ∈ Bs i := hBi ▸ hv2
            have hlB : (lv, listOf [.int (fig i) tf].toArray nl) ∈ Bs i := hBi ▸ hl2
            have hall : ∀ {p : Addr × Obj}, p ∈ Bs i → p ∈ (I1, o) :: (f, fo') :: (tl ++ (Bs 0 ++ (Bs 1 ++ own1))) := fun h => memTail (memTail (memApp (sub_Bs hi2 _ h)))
            have hne1 : va ≠ dv := ne_of_obj N (hall hvB) (hall hdB) (fun e => by cases e)
            have hne2 : lv ≠ dv := ne_of_obj N (hall hlB) (hall hdB) (fun e => absurd (Value.type.inj (congrArg Obj.cls e)) (by decide))
            have hU := J.vec (o := o) (o2 := dictOf (ents w.params ksVector [(s1, .str (Str.ofString "integer") su), (s2, .ref lv), (s3, .none), (s4, .bool true), (s5, .bool false)]) nv) hi2 hoff1 hI1 hP1 hP2 hv2
            have hS := setAt_same (o' := dictOf (ents w.params ksVector [(s1, .str (Str.ofString "integer") su), (s2, .ref lv), (s3, .none), (s4, .bool true), (s5, .bool false)]) nv) hdB
            have hof3 := off1_of (J.off2 hoff1 hi2 hS)
            have hvm := sub_Bs (r := own1) hi2 _ hvB
            have hb1 := setAt_mem (o := dictOf (ents w.params ksVector [(s1, .str (Str.ofString "integer") su), (s2, .ref lv), (s3, .none), (s4, .bool true), (s5, .bool false)]) nv) hvB hne1
            have hb2 := setAt_mem (o := dictOf (ents w.params ksVector [(s1, .str (Str.ofString "integer") su), (s2, .ref lv), (s3, .none), (s4, .bool true), (s5, .bool false)]) nv) hlB hne2
            clear hall hvB hdB hlB
            k_extra "SK"
            refine' bind_turn J hi2 hoff1 hI hI1 hfI ho [(_, instObj 321 _), (_, dictOf _ _)] _ (by k_asm) (by k_asm) (by k_mem) (by k_asm) hS ?yhap ?yhsub ?yhb
            case yhsub => exact sub_turn2
            case yhap => simp only [List.forall_mem_cons]; exact ⟨ltN (by k_extra "OM"), ltN (by k_extra "OM"), fun _ h => nomatch h⟩
            case yhb => exact .inr (.inr (.inl ⟨hk1, _, ⟨_, _, _, _, _, _, _, _, _, _, memLeft (List.Mem.head _), memLeft (List.Mem.tail _ (List.Mem.head _))⟩, _, _, _, _, _, _, _, _, _, true, ⟨_, _, memApp (memLeft hb1), memApp (memLeft (List.Mem.head _))⟩, memApp (memLeft hb2)⟩))
          · have hkr : KindRec w (tl ++ (Bs 0 ++ (Bs 1 ++ own1))) va (Str.ofString "promise") := hpr.kind.mono fun p hp => memApp (sub_Bs hi2 p (hBi ▸ hp))
            obtain ⟨C, ks, t, u, tvs, ka, kb, kc, kr⟩ := id hkr
            k_extra "SK"
            refine bind_turn J hi2 hoff1 hI hI1 hfI ho [] (Bs i) (by k_asm) (by k_asm) (by k_mem) (by k_asm) SameAdr.refl (fun _ h => nomatch h) ?_ (.inr (.inr (.inr (.inl ⟨hk1, xe, hpr.mono fun p hp => memApp (memLeft (hBi ▸ hp)), hkx.mono fun p hp => memApp (memLeft (hBi ▸ hp))⟩))))
            rw [upB_self]; exact sub_turn0
          · have hkr : KindRec w (tl ++ (Bs 0 ++ (Bs 1 ++ own1))) va (Str.ofString "promise") := hpr.kind.mono fun p hp => memApp (sub_Bs hi2 p (hBi ▸ hp))
            obtain ⟨C, ks, t, u, tvs, ka, kb, kc, kr⟩ := id hkr
            k_extra "SK"
            refine bind_turn J hi2 hoff1 hI hI1 hfI ho [] (Bs i) (by k_asm) (by k_asm) (by k_mem) (by k_asm) SameAdr.refl (fun _ h => nomatch h) ?_ (.inr (.inr (.inr (.inr ⟨hk1, xe, hpr.mono fun p hp => memApp (memLeft (hBi ▸ hp)), hkx.mono fun p hp => memApp (memLeft (hBi ▸ hp))⟩))))
            rw [upB_self]; exact sub_turn0
      · obtain rfl : i = 2 := by k_extra "OM"
        rw [nmOf_two] at hqi
        k_extra "SK"
        refine' LCg.CompSrc.ledger ?hh ?F ?N ?hm ?hz ?_
        case hh => rfl
        case F => k_asm
        case N => k_asm
        case hm => k_mem
        case hz => rw [sizeLine_eq, List.size_toArray, hrv.1]; omega
        intro gg
        refine' compU_inv (fun i ys news => ∃ T, news = (I1, o) :: (f, fo') :: (T ++ (tl ++ (Bs 0 ++ (Bs 1 ++ own1)))) ∧ DItems w (T ++ (tl ++ S)) ys i ex ∧ ∀ p ∈ T, @Ne Nat p.1 f ∧ @Ne Nat p.1 I1 ∧ ∀ q ∈ own1, @Ne Nat p.1 q.1) ?cstart ?cstep ?cfin
        case cstart => exact ⟨[], rfl, ⟨rfl, fun j h => absurd h (Nat.not_lt_zero _)⟩, fun _ h => nomatch h⟩
        case cstep =>
          rintro j ys news v I oI C oC D2 m₂ h tk E' hj ⟨T, rfl, hys, hT⟩ hv hC hxx F N off ne
          rw [List.size_toArray, hrv.1] at hj
          obtain ⟨t, h1⟩ := hrv.2 j hj
          obtain rfl : v = .int ((c : Int) + (j : Int)) t := by
            have hv' : rv[j]? = some v := by simpa using hv
            rw [h1] at hv'; exact (Option.some.inj hv').symm
          obtain ⟨ta, tat, hav1, hav2⟩ := hav.2 (c + j) (by k_extra "OM")
          obtain ⟨va, hva, hxa⟩ := hx j hj
          rw [hva, hc2 (c + j) (by k_extra "OM") (by k_extra "OM")] at hav2
          have hav2O := hS1 _ hav2
          have hav3 : av[((c : Int) + (j : Int)).toNat]? = some (.ref ta) := by
            rw [show ((c : Int) + (j : Int)).toNat = c + j by k_extra "OM"]; exact hav1
          have hcj : (c : Int) + (j : Int) < 10 := by k_extra "OM"
          rcases hxa with ⟨hg, hxn⟩ | ⟨hg, hxs⟩
          · have hxk := (hxn.mono hS1).kind
            dsimp only
            k_extra "SK"
            exact compEnd (by k_asm) (by k_asm) _ (by k_mem) (by k_mem) (by k_mem) (fun _ h => memTail (memTail (memTail h))) off (.inr ⟨_, memTail (memTail (memApp (memApp (memApp (memApp hlr))))), rfl, _, rfl⟩)
              ⟨T, rfl, hys.snoc ⟨tat, va, memApp (memApp hav2), .inl ⟨hg, hxn.mono fun _ h => memApp (memApp h)⟩⟩, hT⟩
          · have hxsO := hxs.mono hS1
            dsimp only
            k_extra "SK"
            refine' compEnd (by k_asm) (by k_asm) ((I1, o) :: (f, fo') :: (((_, tupOf _) :: (_, instObj 321 _) :: (_, dictOf _ _) :: T) ++ (tl ++ (Bs 0 ++ (Bs 1 ++ own1))))) (by k_mem) (by k_mem) (by k_mem) ?ysub ?yoff ?ysrc ⟨(_, tupOf _) :: (_, instObj 321 _) :: (_, dictOf _ _) :: T, rfl, ?yit, ?yt⟩
            case ysub => exact sub_dots
            case yoff => exact ⟨off.1, off.2.1, ⟨by k_extra "OM", by k_extra "OM", by k_extra "OM"⟩, ⟨by k_extra "OM", by k_extra "OM", by k_extra "OM"⟩, ⟨by k_extra "OM", by k_extra "OM", by k_extra "OM"⟩, off.2.2⟩
            case ysrc => exact .inr ⟨_, memTail (memTail (memApp (memApp (memApp (memApp hlr))))), rfl, _, rfl⟩
            case yit => exact (hys.mono sub_item3).snoc ⟨tat, _, memLeft (List.Mem.head _), .inr ⟨hg, va, ⟨_, _, _, _, _, _, _, _, _, _, memLeft (memTail (List.Mem.head _)), memLeft (memTail (memTail (List.Mem.head _)))⟩, hxs.mono fun _ h => memApp (memApp h)⟩⟩
            case yt =>
              rename AllLt _ _ => aL
              have bL := ktn_ltOf aL
              simp only [List.forall_mem_cons]
              exact ⟨⟨by k_extra "OM", by k_extra "OM", fun q hq => Nat.ne_of_gt (Nat.lt_of_lt_of_le (bL q (memApp (memApp (memApp (memApp hq))))) (by k_extra "OM"))⟩, ⟨by k_extra "OM", by k_extra "OM", fun q hq => Nat.ne_of_gt (Nat.lt_of_lt_of_le (bL q (memApp (memApp (memApp (memApp hq))))) (by k_extra "OM"))⟩, ⟨by k_extra "OM", by k_extra "OM", fun q hq => Nat.ne_of_gt (Nat.lt_of_lt_of_le (bL q (memApp (memApp (memApp (memApp hq))))) (by k_extra "OM"))⟩, hT⟩
        case cfin =>
          rintro ys news ⟨T, rfl, hys, hT⟩
          rw [List.size_toArray, hrv.1] at hys
          intro D2 h tk F N o1
          have ⟨dI, df, dR⟩ := o1
          have hofT := off1_of (D := f) (l := T ++ (tl ++ (Bs 0 ++ (Bs 1 ++ own1)))) fun p hp => by
            rcases List.mem_append.mp hp with hp | hp
            · exact (hT p hp).1
            · exact off1_mem hof' p hp
          k_extra "SK"
          refine' TurnEnd.mk' ((f, _) :: ((((_, instObj 342 _) :: (_, dictOf _ _) :: (D2, _) :: T) ++ tl) ++ (Bs 0 ++ (Bs 1 ++ own1)))) (by k_asm) (by k_asm) (by k_mem) ?ysub ?yoff ho ⟨.inl rfl, _, _, _, _, _, ((_, instObj 342 _) :: (_, dictOf _ _) :: (D2, _) :: T) ++ tl, Bs, rfl, rfl, J.last (by k_asm) ?yap ⟨_, _, _, _, _, ys, _, ⟨_, _, memLeft (memLeft (List.Mem.head _)), memLeft (memLeft (memTail (List.Mem.head _)))⟩, memLeft (memLeft (memTail (memTail (List.Mem.head _)))), ?yit⟩⟩
          case ysub => exact sub_turn3
          case yit =>
            refine hys.mono fun p hp => ?_
            rcases List.mem_append.mp hp with hp | hp
            · exact memLeft (memLeft (memTail (memTail (memTail hp))))
            · rcases List.mem_append.mp hp with hp | hp
              · exact memLeft (memApp hp)
              · exact memApp hp
          case yap =>
            rename AllLt _ _ => aL
            have bL := ktn_ltOf aL
            simp only [List.forall_mem_cons]
            exact ⟨⟨Nat.ne_of_gt (ltN (by first | (with_reducible assumption) | (with_reducible exact ltr (by with_reducible assumption) (by with_reducible assumption)) | k_extra "OM")), fun q hq => Nat.ne_of_gt (Nat.lt_of_lt_of_le (bL q (memApp (memApp (memApp (memApp hq))))) (by k_extra "OM"))⟩, ⟨Nat.ne_of_gt (ltN (by first | (with_reducible assumption) | (with_reducible exact ltr (by with_reducible assumption) (by with_reducible assumption)) | k_extra "OM")), fun q hq => Nat.ne_of_gt (Nat.lt_of_lt_of_le (bL q (memApp (memApp (memApp (memApp hq))))) (by k_extra "OM"))⟩, ⟨Ne.symm df, fun q hq => Ne.symm (off1_mem dR q (memApp (memApp (memApp (memApp hq)))))⟩, fun p hp => ⟨(hT p hp).1, (hT p hp).2.2⟩⟩
          case yoff =>
            intro p hp
            rcases List.mem_cons.mp hp with rfl | hp
            · exact Nat.ne_of_lt hfI
            rcases List.mem_append.mp hp with hp | hp
            · rcases List.mem_append.mp hp with hp | hp
              · refine (?_ : ∀ p ∈ ((_, instObj 342 _) :: (_, dictOf _ _) :: (D2, _) :: T), p.1 ≠ I1) p hp
                simp only [List.forall_mem_cons]
                exact ⟨Nat.ne_of_gt (ltN (by first | (with_reducible assumption) | (with_reducible exact ltr (by with_reducible assumption) (by with_reducible assumption)) | k_extra "OM")), Nat.ne_of_gt (ltN (by first | (with_reducible assumption) | (with_reducible exact ltr (by with_reducible assumption) (by with_reducible assumption)) | k_extra "OM")), Ne.symm dI, fun p hp => (hT p hp).2.1⟩
              · exact hI p (List.mem_cons_of_mem _ (memLeft hp))
            · exact hI p (List.mem_cons_of_mem _ (memApp hp))
end SM4
section SM5A
theorem strs_carried : ∀ {vs : List Value} {ys : List Str}, StrsAre vs ys → CarriedAll vs (ys.map PyData.str)
  | _, _, .nil => .nil
  | _, _, .cons _ t r => .cons (.str _ t) (strs_carried r)
theorem strs_layAll0 : ∀ ns : List Str, (∀ a ∈ ns, PyData.strOk a = true) → PyData.canLayAll0 (ns.map PyData.str) = true
  | [], _ => rfl
  | a :: r, hok => by simp [PyData.canLayAll0, PyData.canLay0, hok a (List.mem_cons_self), strs_layAll0 r (fun b hb => hok b (List.mem_cons_of_mem _ hb))]
theorem strs_depthAll : ∀ ns : List Str, PyData.depthAll (ns.map PyData.str) = 0
  | [] => rfl
  | _ :: r => by simp [PyData.depthAll, PyData.depth, strs_depthAll r]
theorem strs_shaped (ns : List Str) (hok : ∀ a ∈ ns, PyData.strOk a = true) : SeqAt.shaped (.list (ns.map PyData.str)) = true := by
  simp [SeqAt.shaped, PyData.canLay0, PyData.depth, strs_layAll0 ns hok, strs_depthAll]
theorem strs_sameAll : ∀ ns : List Str, PySem.Spec.sameAll (ns.map PyData.str) (ns.map PyData.str) = true
  | [] => by simp [PySem.Spec.sameAll]
  | a :: r => by
    simp only [List.map_cons, PySem.Spec.sameAll, PySem.Spec.same, strs_sameAll r]
    simp
section
variable {w : World} {A : Around} {E : Value → Shared → Prop} {s : Shared} {a b L : Addr} {h₀ : Heap} {xs ys : List Value} {ns ms : List Int} {ss : List Str} {news : Led} {na nb : Nat} {Q : Value → Shared → Prop}
theorem eql_ints (N : News h₀ L s.heap news) (ha : (a, listOf xs.toArray na) ∈ news) (hb : (b, listOf ys.toArray nb) ∈ news) (hi : IntsAre xs ns) (hj : IntsAre ys ns) (hu : A.units + 64 < cLine) (h : Q (.bool true) s) :
    wpAny (model PR w) A (compareOp .Eq (.ref a) (.ref b)) Q E s :=
  ke_eq_ints (News.isList N ha) (News.isList N hb) hi hj hu (by simpa using h)
theorem nel_ints (N : News h₀ L s.heap news) (ha : (a, listOf xs.toArray na) ∈ news) (hb : (b, listOf ys.toArray nb) ∈ news) (hi : IntsAre xs ns) (hj : IntsAre ys ns) (hu : A.units + 64 < cLine) (h : Q (.bool false) s) :
    wpAny (model PR w) A (compareOp .NotEq (.ref a) (.ref b)) Q E s :=
  ke_ne_ints (News.isList N ha) (News.isList N hb) hi hj hu (by simpa using h)
theorem nel_strs (N : News h₀ L s.heap news) (ha : (a, listOf xs.toArray na) ∈ news) (hb : (b, listOf ys.toArray nb) ∈ news) (hi : StrsAre xs ss) (hj : StrsAre ys ss) (hok : ∀ a ∈ ss, PyData.strOk a = true) (hu : A.units + 64 < cLine) (h : Q (.bool false) s) :
    wpAny (model PR w) A (compareOp .NotEq (.ref a) (.ref b)) Q E s :=
  ne_dataH_same (reads_newData (News.isList N ha) (strs_carried hi)) (reads_newData (News.isList N hb) (strs_carried hj)) (strs_shaped _ hok) (strs_shaped _ hok) hu (SeqAt.noMix_of_shape (.list .str) rfl _ _ (list_map_has fun _ => rfl) (list_map_has fun _ => rfl)) (by
    rw [show PySem.Spec.same (.list (ss.map PyData.str)) (.list (ss.map PyData.str)) = true by simp only [PySem.Spec.same]; exact strs_sameAll ss]; exact h)
end
section
variable {w : World} {A : Around} {E : Value → Shared → Prop} {s : Shared} {a b : Int} {t u : Tok} {Q : Value → Shared → Prop}
theorem eqi_t (e : a = b) (h : Q (.bool true) s) : wpAny (model PR w) A (compareOp .Eq (.int a t) (.int b u)) Q E s := PyProof.Rows.eq_int (by simpa [e] using h)
theorem eqi_f (e : a ≠ b) (h : Q (.bool false) s) : wpAny (model PR w) A (compareOp .Eq (.int a t) (.int b u)) Q E s := PyProof.Rows.eq_int (by rw [beq_eq_false_iff_ne.mpr e]; exact h)
theorem nei_f (e : a = b) (h : Q (.bool false) s) : wpAny (model PR w) A (compareOp .NotEq (.int a t) (.int b u)) Q E s := PyProof.Rows.ne_int (by simpa [e] using h)
theorem lti_t (e : a < b) (h : Q (.bool true) s) : wpAny (model PR w) A (compareOp .Lt (.int a t) (.int b u)) Q E s := PyProof.Rows.lt_int (by simpa [e] using h)
theorem lti_f (e : ¬ a < b) (h : Q (.bool false) s) : wpAny (model PR w) A (compareOp .Lt (.int a t) (.int b u)) Q E s := PyProof.Rows.lt_int (by simpa [e] using h)
theorem gti_t (e : b < a) (h : Q (.bool true) s) : wpAny (model PR w) A (compareOp .Gt (.int a t) (.int b u)) Q E s := PyProof.Rows.gt_int (by simpa [e] using h)
theorem gti_f (e : ¬ b < a) (h : Q (.bool false) s) : wpAny (model PR w) A (compareOp .Gt (.int a t) (.int b u)) Q E s := PyProof.Rows.gt_int (by simpa [e] using h)
end
section
variable {w : World} {A : Around} {E : Value → Shared → Prop} {s : Shared} {h₀ : Heap} {L : Addr} {m : Str → Option Value} {env : Env} {elt iter : PySem.Expr} {x x₂ : Str} {px px₂ tp : Pos} {tkk : Nat} {scope : Scope} {cl : List (Str × Addr)} {pos : Pos} {Q : Value → Shared → Prop}
theorem comp_P (F₀ : Fr h₀ L s.heap m)
    (hclos : closureFor scope env = pure cl) (hcell : ∀ y ∈ scope.names, y.2 ≠ .cell) (hkind : scope.kind = .function)
    (hnames : ∀ y ∈ scope.names, y.2 = .local → scope.names.lookup y.1 = some .local) (hx : scope.names.lookup x = some .local) (hx₂ : scope.names.lookup x₂ = some .local) (hxx : x ≠ x₂)
    (h : wpAny (model PR w) A (eval iter env) (fun xv s₁ => Stop (LCp.SrcLP PR w A h₀ L m env elt x x₂ scope cl (fun s₂ => LCg.FinE h₀ L m s₂ Q) xv s₁)) E s)
    (hs : ∀ x, foldedSetIterable iter env x = pure x) :
    wpAny (model PR w) A (eval (.ListComp elt [⟨.Tuple [.Name x px, .Name x₂ px₂] tkk tp, iter, [], 0⟩] scope pos) env) Q E s := LCp.ListComp_P F₀ hclos hcell hkind hnames hx hx₂ hxx h hs
theorem compP_inv {S : Led → Prop} {P : Nat → Value → Prop} {Fin : List Value → Led → Prop} {news : Led} {n : Nat} (J : Nat → List Value → Led → Prop) (start : J 0 [] news)
    (step : ∀ i ys news v, i < n → J i ys news → P i v → ∃ (t : Addr) (v₁ v₂ : Value), v = .ref t ∧ (t, tupOf [v₁, v₂]) ∈ news ∧
      ∀ I oI C oC D m₂ h tk (E' : Value → Shared → Prop), LCg.NsObj oC m₂ → m₂ x = some v₁ → m₂ x₂ = some v₂ → Fr h₀ L h m → News h₀ L h ((I, oI) :: (C, oC) :: (D, LCg.lst ys) :: news) → LCg.Off3 I C D news → ((@Ne Nat I C) ∧ (@Ne Nat I D) ∧ (@Ne Nat C D)) →
      wpAny (model PR w) A (eval elt (compEnvC scope cl C env)) (LCg.CompEnd h₀ L m { s with heap := h, toks := tk } I oI C oC D (LCg.lst ys) S (fun y news' => J (i + 1) (ys ++ [y]) news')) E' { s with heap := h, toks := tk })
    (fin : ∀ ys news, J n ys news → Fin ys news) : LCp.CompRestP PR w A h₀ L m env elt x x₂ scope cl s S P Fin n 0 [] news := by
  have main : ∀ k i ys news, i + k = n → J i ys news → LCp.CompRestP PR w A h₀ L m env elt x x₂ scope cl s S P Fin k i ys news := by
    intro k
    induction k with
    | zero =>
      intro i ys news hi hj
      obtain rfl : i = n := by k_extra "OM"
      exact LCp.CompRestP.zero (fin _ _ hj)
    | succ k ih =>
      intro i ys news hi hj
      refine LCp.CompRestP.succ ?_
      intro v hP
      obtain ⟨t, v₁, v₂, rfl, hm, R⟩ := step i ys news v (by k_extra "OM") hj hP
      refine ⟨t, _, v₁, v₂, 0, rfl, hm, rfl, rfl, ?_⟩
      intro I oI C oC D m₂ h tk E' hC hx hx2 F N off ne
      exact wpAny_mono (R I oI C oC D m₂ h tk E' hC hx hx2 F N off ne) (fun y s₂ hr => compEnd_mono hr fun y n hJ => ih (i + 1) _ _ (by k_extra "OM") hJ) fun _ _ e => e
  exact main n 0 [] news (by k_extra "OM") start
end
theorem strs_repl {x : Str} {t : Tok} : ∀ n : Nat, StrsAre (List.replicate n (.str x t)) (List.replicate n x)
  | 0 => .nil
  | n + 1 => .cons x t (strs_repl n)
theorem strs_snoc {vs : List Value} {ys : List Str} {x : Str} {t : Tok} (h : StrsAre vs ys) : StrsAre (vs ++ [.str x t]) (ys ++ [x]) := by
  induction h with
  | nil => exact .cons x t .nil
  | cons y t _ ih => exact .cons y t ih
theorem strs_repl' {x : Str} {t : Tok} {k n : Nat} (h : k = n) : StrsAre (List.replicate k (.str x t)) (List.replicate n x) := h ▸ strs_repl k
theorem strOk_repl {x : Str} {n : Nat} (h : PyData.strOk x = true) : ∀ a ∈ List.replicate n x, PyData.strOk a = true := fun _ ha => (List.eq_of_mem_replicate ha) ▸ h
end SM5A

theorem reg_macros_m5a : True := by
  k_with "kct_strs" => (first
  | ((with_reducible refine' eqi_t ?zqe ?_); (case zqe => k_extra "OM"))
  | ((with_reducible refine' eqi_f ?zqe ?_); (case zqe => k_extra "OM"))
  | ((with_reducible refine' nei_t ?zqe ?_); (case zqe => k_extra "OM"))
  | ((with_reducible refine' nei_f ?zqe ?_); (case zqe => k_extra "OM"))
  | ((with_reducible refine' lti_t ?zqe ?_); (case zqe => k_extra "OM"))
  | ((with_reducible refine' lti_f ?zqe ?_); (case zqe => k_extra "OM"))
  | ((with_reducible refine' gti_t ?zqe ?_); (case zqe => k_extra "OM"))
  | ((with_reducible refine' gti_f ?zqe ?_); (case zqe => k_extra "OM")))
  k_with "kct_strs" => (first
  | ((with_reducible refine' eql_ints ?zqN ?zqha ?zqhb ?zqhi ?zqhj ?zqhu ?_); (case zqN => k_asm); (case zqha => k_mem); (case zqhb => k_mem); (case zqhi => first | (with_reducible assumption) | (with_reducible exact IntsAre.cons _ _ .nil)); (case zqhj => first | (with_reducible assumption) | (with_reducible exact IntsAre.cons _ _ .nil)); (case zqhu => ((try dsimp only [ktrTop]); k_extra "OM")))
  | ((with_reducible refine' nel_strs ?zqN ?zqha ?zqhb ?zqhi ?zqhj ?zqhok ?zqhu ?_); (case zqN => k_asm); (case zqha => k_mem); (case zqhb => k_mem); (case zqhi => first | (with_reducible assumption)); (case zqhj => first | (with_reducible assumption) | (with_reducible exact strs_repl' (by k_extra "OM"))); (case zqhok => exact strOk_repl (by decide +kernel)); (case zqhu => ((try dsimp only [ktrTop]); k_extra "OM")))
  | ((with_reducible refine' nel_ints ?zqN ?zqha ?zqhb ?zqhi ?zqhj ?zqhu ?_); (case zqN => k_asm); (case zqha => k_mem); (case zqhb => k_mem); (case zqhi => first | (with_reducible assumption) | (with_reducible exact IntsAre.cons _ _ .nil)); (case zqhj => first | (with_reducible assumption) | (with_reducible exact IntsAre.cons _ _ .nil)); (case zqhu => ((try dsimp only [ktrTop]); k_extra "OM"))))
  k_with "kfm_turns" => (first
  | ((with_reducible refine' comp_P ?zqF ?zqhclos ?zqhcell ?zqhkind ?zqhnames ?zqhx ?zqhxb ?zqhxx ?_ ?zqhs); (case zqF => k_asm); (case zqhclos => with_unfolding_all rfl); (case zqhcell => decide); (case zqhkind => rfl); (case zqhnames => decide); (case zqhx => rfl); (case zqhxb => rfl); (case zqhxx => decide); (case zqhs => intro _; rfl)))
  trivial
section SM5
theorem t_law_binding (w : World) (mean : ExcName → Option Value) (mg mb : Str → Option Value) (own : Led) (b e : Addr) (kind dk fig n : Int) (tk td tf : Tok) (bf : Value) (h0 : 0 ≤ kind)
    (hb : BndOk w own e bf kind dk fig b) (he : EnvNum w own e n) (hbf : 3 ≤ kind → ∃ e', bf = .ref e' ∧ EnvNum w own e' (n - 1)) :
    Tell w mean mg mb 12 464 [.ref b, .int kind tk, .int dk td, .int fig tf, .ref e] own (fun r news' => r = .bool true ∧ ∃ tl, news' = tl ++ own ∧ Fresh own tl) := by
  refine' TellC.tell ?_
  refine' tellC_of [Str.ofString "bound", Str.ofString "kind", Str.ofString "default", Str.ofString "figure", Str.ofString "env"] [.ref b, .int kind tk, .int dk td, .int fig tf, .ref e] [] [] ?ho ?hcd ?hb rfl ?hl ?hg ?hc ?h1 ?h2 ?R
  case ho => k_dflt k_is
  case hcd => k_dflt k_is
  case hb => exact fun _ _ _ _ => BindsTo.of_eq rfl
  case hl => kernel_rfl!
  case hg => kernel_rfl!
  case hc => kernel_rfl!
  case h1 => rfl
  case h2 => rfl
  intro LT GT dp un gd outer A₀ base g L s B F X N T hd hu
  simp only [List.map, List.cons_append, List.nil_append, List.append_nil] at F LT
  obtain ⟨hp, ge, dr, tk, os⟩ := s
  obtain ⟨s1, s2, s3, s4, s5, s6, s7, sn, w1, w3, w4, w5, w6, w7, he⟩ := he
  rcases hb with ⟨h1, h2, h3⟩ | ⟨h1, h2, ex, h3⟩ | ⟨h1, v, h2, h3⟩ | ⟨h1, x, h2, h3⟩ | ⟨h1, x, h2, h3⟩
  · obtain ⟨C, ks, t, u, tvs, hc, ha, hn, hr⟩ := h3
    k_extra "SK"
    all_goals (refine' RunEnd.intro ?zf ?zn ?zp; (case zf => k_asm); (case zn => k_asm); (case zp => exact ⟨rfl, _, Ext.eq (by repeat (first | exact Ext.nil | apply Ext.cons | apply Ext.app)), by repeat (first | exact Fresh.nil | refine Fresh.cons (by first | assumption | exact ltN (by k_extra "OM") | exact ktn_ltOf (by assumption) | exact ktn_ltOf (And.right (by assumption)) | exact ktn_ltOf (And.right (And.right (by assumption))) | exact ktn_ltOf (And.right (And.right (And.right (by assumption)))) | exact ktn_ltOf (And.right (And.right (And.right (And.right (by assumption))))) | exact ktn_ltOf (And.right (And.right (And.right (And.right (And.right (by assumption)))))) | exact ktn_ltOf (And.right (And.right (And.right (And.right (And.right (And.right (by assumption))))))) | exact ktn_ltOf (And.right (And.right (And.right (And.right (And.right (And.right (And.right (by assumption)))))))) | exact ktn_ltOf (And.right (And.right (And.right (And.right (And.right (And.right (And.right (And.right (by assumption))))))))) | exact ktn_ltOf (And.right (And.right (And.right (And.right (And.right (And.right (And.right (And.right (And.right (by assumption)))))))))) | exact ktn_ltOf (And.right (And.right (And.right (And.right (And.right (And.right (And.right (And.right (And.right (And.right (by assumption))))))))))) | exact ktn_ltOf (And.right (And.right (And.right (And.right (And.right (And.right (And.right (And.right (And.right (And.right (And.right (by assumption)))))))))))) | exact ktn_ltOf (And.right (And.right (And.right (And.right (And.right (And.right (And.right (And.right (And.right (And.right (And.right (And.right (by assumption))))))))))))) | exact ktn_ltOf (And.right (And.right (And.right (And.right (And.right (And.right (And.right (And.right (And.right (And.right (And.right (And.right (And.right (by assumption)))))))))))))) | exact ktn_ltOf (And.right (And.right (And.right (And.right (And.right (And.right (And.right (And.right (And.right (And.right (And.right (And.right (And.right (And.right (by assumption))))))))))))))) | exact above_trans (by assumption) (by assumption) | exact above_trans (by assumption) (above_trans (by assumption) (by assumption)) | exact above_trans (by assumption) (ktn_ltOf (by assumption)) | exact above_trans (by assumption) (ktn_ltOf (And.right (by assumption))) | exact above_trans (by assumption) (ktn_ltOf (And.right (And.right (by assumption)))) | exact above_trans (by assumption) (ktn_ltOf (And.right (And.right (And.right (by assumption))))) | exact above_trans (by assumption) (ktn_ltOf (And.right (And.right (And.right (And.right (by assumption)))))) | exact above_trans (by assumption) (ktn_ltOf (And.right (And.right (And.right (And.right (And.right (by assumption))))))) | exact above_trans (by assumption) (ktn_ltOf (And.right (And.right (And.right (And.right (And.right (And.right (by assumption)))))))) | exact above_trans (by assumption) (ktn_ltOf (And.right (And.right (And.right (And.right (And.right (And.right (And.right (by assumption))))))))) | exact above_trans (by assumption) (ktn_ltOf (And.right (And.right (And.right (And.right (And.right (And.right (And.right (And.right (by assumption)))))))))) | exact above_trans (by assumption) (ktn_ltOf (And.right (And.right (And.right (And.right (And.right (And.right (And.right (And.right (And.right (by assumption))))))))))) | exact above_trans (by assumption) (ktn_ltOf (And.right (And.right (And.right (And.right (And.right (And.right (And.right (And.right (And.right (And.right (by assumption)))))))))))) | exact above_trans (by assumption) (ktn_ltOf (And.right (And.right (And.right (And.right (And.right (And.right (And.right (And.right (And.right (And.right (And.right (by assumption))))))))))))) | exact above_trans (by assumption) (ktn_ltOf (And.right (And.right (And.right (And.right (And.right (And.right (And.right (And.right (And.right (And.right (And.right (And.right (by assumption)))))))))))))) | exact above_trans (by assumption) (ktn_ltOf (And.right (And.right (And.right (And.right (And.right (And.right (And.right (And.right (And.right (And.right (And.right (And.right (And.right (by assumption))))))))))))))) | exact above_trans (by assumption) (ktn_ltOf (And.right (And.right (And.right (And.right (And.right (And.right (And.right (And.right (And.right (And.right (And.right (And.right (And.right (And.right (by assumption)))))))))))))))) | exact above_sub (by assumption) (by repeat' (first | (with_reducible exact subRefl) | (with_reducible exact subNil) | (with_reducible exact subLeft) | (with_reducible refine' subBoth ?_ ?_) | (refine' subCons (by k_mem) ?_) | (with_reducible refine' subTail ?_) | (with_reducible refine' subApp ?_))) | exact above_trans (by assumption) (above_sub (by assumption) (by repeat' (first | (with_reducible exact subRefl) | (with_reducible exact subNil) | (with_reducible exact subLeft) | (with_reducible refine' subBoth ?_ ?_) | (refine' subCons (by k_mem) ?_) | (with_reducible refine' subTail ?_) | (with_reducible refine' subApp ?_))))) ?_ | refine Fresh.app (Fresh.sub (by assumption) (by repeat (first | exact subRefl | apply subTail | apply subApp))) ?_)⟩))
  · obtain ⟨t1, t2, t3, t4, t5, t6, u, u2, h3⟩ := h3
    k_extra "SK"
    all_goals (refine' RunEnd.intro ?zf ?zn ?zp; (case zf => k_asm); (case zn => k_asm); (case zp => exact ⟨rfl, _, Ext.eq (by repeat (first | exact Ext.nil | apply Ext.cons | apply Ext.app)), by repeat (first | exact Fresh.nil | refine Fresh.cons (by first | assumption | exact ltN (by k_extra "OM") | exact ktn_ltOf (by assumption) | exact ktn_ltOf (And.right (by assumption)) | exact ktn_ltOf (And.right (And.right (by assumption))) | exact ktn_ltOf (And.right (And.right (And.right (by assumption)))) | exact ktn_ltOf (And.right (And.right (And.right (And.right (by assumption))))) | exact ktn_ltOf (And.right (And.right (And.right (And.right (And.right (by assumption)))))) | exact ktn_ltOf (And.right (And.right (And.right (And.right (And.right (And.right (by assumption))))))) | exact ktn_ltOf (And.right (And.right (And.right (And.right (And.right (And.right (And.right (by assumption)))))))) | exact ktn_ltOf (And.right (And.right (And.right (And.right (And.right (And.right (And.right (And.right (by assumption))))))))) | exact ktn_ltOf (And.right (And.right (And.right (And.right (And.right (And.right (And.right (And.right (And.right (by assumption)))))))))) | exact ktn_ltOf (And.right (And.right (And.right (And.right (And.right (And.right (And.right (And.right (And.right (And.right (by assumption))))))))))) | exact ktn_ltOf (And.right (And.right (And.right (And.right (And.right (And.right (And.right (And.right (And.right (And.right (And.right (by assumption)))))))))))) | exact ktn_ltOf (And.right (And.right (And.right (And.right (And.right (And.right (And.right (And.right (And.right (And.right (And.right (And.right (by assumption))))))))))))) | exact ktn_ltOf (And.right (And.right (And.right (And.right (And.right (And.right (And.right (And.right (And.right (And.right (And.right (And.right (And.right (by assumption)))))))))))))) | exact ktn_ltOf (And.right (And.right (And.right (And.right (And.right (And.right (And.right (And.right (And.right (And.right (And.right (And.right (And.right (And.right (by assumption))))))))))))))) | exact above_trans (by assumption) (by assumption) | exact above_trans (by assumption) (above_trans (by assumption) (by assumption)) | exact above_trans (by assumption) (ktn_ltOf (by assumption)) | exact above_trans (by assumption) (ktn_ltOf (And.right (by assumption))) | exact above_trans (by assumption) (ktn_ltOf (And.right (And.right (by assumption)))) | exact above_trans (by assumption) (ktn_ltOf (And.right (And.right (And.right (by assumption))))) | exact above_trans (by assumption) (ktn_ltOf (And.right (And.right (And.right (And.right (by assumption)))))) | exact above_trans (by assumption) (ktn_ltOf (And.right (And.right (And.right (And.right (And.right (by assumption))))))) | exact above_trans (by assumption) (ktn_ltOf (And.right (And.right (And.right (And.right (And.right (And.right (by assumption)))))))) | exact above_trans (by assumption) (ktn_ltOf (And.right (And.right (And.right (And.right (And.right (And.right (And.right (by assumption))))))))) | exact above_trans (by assumption) (ktn_ltOf (And.right (And.right (And.right (And.right (And.right (And.right (And.right (And.right (by assumption)))))))))) | exact above_trans (by assumption) (ktn_ltOf (And.right (And.right (And.right (And.right (And.right (And.right (And.right (And.right (And.right (by assumption))))))))))) | exact above_trans (by assumption) (ktn_ltOf (And.right (And.right (And.right (And.right (And.right (And.right (And.right (And.right (And.right (And.right (by assumption)))))))))))) | exact above_trans (by assumption) (ktn_ltOf (And.right (And.right (And.right (And.right (And.right (And.right (And.right (And.right (And.right (And.right (And.right (by assumption))))))))))))) | exact above_trans (by assumption) (ktn_ltOf (And.right (And.right (And.right (And.right (And.right (And.right (And.right (And.right (And.right (And.right (And.right (And.right (by assumption)))))))))))))) | exact above_trans (by assumption) (ktn_ltOf (And.right (And.right (And.right (And.right (And.right (And.right (And.right (And.right (And.right (And.right (And.right (And.right (And.right (by assumption))))))))))))))) | exact above_trans (by assumption) (ktn_ltOf (And.right (And.right (And.right (And.right (And.right (And.right (And.right (And.right (And.right (And.right (And.right (And.right (And.right (And.right (by assumption)))))))))))))))) | exact above_sub (by assumption) (by repeat' (first | (with_reducible exact subRefl) | (with_reducible exact subNil) | (with_reducible exact subLeft) | (with_reducible refine' subBoth ?_ ?_) | (refine' subCons (by k_mem) ?_) | (with_reducible refine' subTail ?_) | (with_reducible refine' subApp ?_))) | exact above_trans (by assumption) (above_sub (by assumption) (by repeat' (first | (with_reducible exact subRefl) | (with_reducible exact subNil) | (with_reducible exact subLeft) | (with_reducible refine' subBoth ?_ ?_) | (refine' subCons (by k_mem) ?_) | (with_reducible refine' subTail ?_) | (with_reducible refine' subApp ?_))))) ?_ | refine Fresh.app (Fresh.sub (by assumption) (by repeat (first | exact subRefl | apply subTail | apply subApp))) ?_)⟩))
  · obtain ⟨t1, t2, t3, t4, t5, t6, u, u2, h2⟩ := h2
    obtain ⟨lv, nl, tf, s1, s2, s3, s4, s5, su, sb, h3, hl⟩ := h3
    k_extra "SK"
    all_goals (refine' RunEnd.intro ?zf ?zn ?zp; (case zf => k_asm); (case zn => k_asm); (case zp => exact ⟨rfl, _, Ext.eq (by repeat (first | exact Ext.nil | apply Ext.cons | apply Ext.app)), by repeat (first | exact Fresh.nil | refine Fresh.cons (by first | assumption | exact ltN (by k_extra "OM") | exact ktn_ltOf (by assumption) | exact ktn_ltOf (And.right (by assumption)) | exact ktn_ltOf (And.right (And.right (by assumption))) | exact ktn_ltOf (And.right (And.right (And.right (by assumption)))) | exact ktn_ltOf (And.right (And.right (And.right (And.right (by assumption))))) | exact ktn_ltOf (And.right (And.right (And.right (And.right (And.right (by assumption)))))) | exact ktn_ltOf (And.right (And.right (And.right (And.right (And.right (And.right (by assumption))))))) | exact ktn_ltOf (And.right (And.right (And.right (And.right (And.right (And.right (And.right (by assumption)))))))) | exact ktn_ltOf (And.right (And.right (And.right (And.right (And.right (And.right (And.right (And.right (by assumption))))))))) | exact ktn_ltOf (And.right (And.right (And.right (And.right (And.right (And.right (And.right (And.right (And.right (by assumption)))))))))) | exact ktn_ltOf (And.right (And.right (And.right (And.right (And.right (And.right (And.right (And.right (And.right (And.right (by assumption))))))))))) | exact ktn_ltOf (And.right (And.right (And.right (And.right (And.right (And.right (And.right (And.right (And.right (And.right (And.right (by assumption)))))))))))) | exact ktn_ltOf (And.right (And.right (And.right (And.right (And.right (And.right (And.right (And.right (And.right (And.right (And.right (And.right (by assumption))))))))))))) | exact ktn_ltOf (And.right (And.right (And.right (And.right (And.right (And.right (And.right (And.right (And.right (And.right (And.right (And.right (And.right (by assumption)))))))))))))) | exact ktn_ltOf (And.right (And.right (And.right (And.right (And.right (And.right (And.right (And.right (And.right (And.right (And.right (And.right (And.right (And.right (by assumption))))))))))))))) | exact above_trans (by assumption) (by assumption) | exact above_trans (by assumption) (above_trans (by assumption) (by assumption)) | exact above_trans (by assumption) (ktn_ltOf (by assumption)) | exact above_trans (by assumption) (ktn_ltOf (And.right (by assumption))) | exact above_trans (by assumption) (ktn_ltOf (And.right (And.right (by assumption)))) | exact above_trans (by assumption) (ktn_ltOf (And.right (And.right (And.right (by assumption))))) | exact above_trans (by assumption) (ktn_ltOf (And.right (And.right (And.right (And.right (by assumption)))))) | exact above_trans (by assumption) (ktn_ltOf (And.right (And.right (And.right (And.right (And.right (by assumption))))))) | exact above_trans (by assumption) (ktn_ltOf (And.right (And.right (And.right (And.right (And.right (And.right (by assumption)))))))) | exact above_trans (by assumption) (ktn_ltOf (And.right (And.right (And.right (And.right (And.right (And.right (And.right (by assumption))))))))) | exact above_trans (by assumption) (ktn_ltOf (And.right (And.right (And.right (And.right (And.right (And.right (And.right (And.right (by assumption)))))))))) | exact above_trans (by assumption) (ktn_ltOf (And.right (And.right (And.right (And.right (And.right (And.right (And.right (And.right (And.right (by assumption))))))))))) | exact above_trans (by assumption) (ktn_ltOf (And.right (And.right (And.right (And.right (And.right (And.right (And.right (And.right (And.right (And.right (by assumption)))))))))))) | exact above_trans (by assumption) (ktn_ltOf (And.right (And.right (And.right (And.right (And.right (And.right (And.right (And.right (And.right (And.right (And.right (by assumption))))))))))))) | exact above_trans (by assumption) (ktn_ltOf (And.right (And.right (And.right (And.right (And.right (And.right (And.right (And.right (And.right (And.right (And.right (And.right (by assumption)))))))))))))) | exact above_trans (by assumption) (ktn_ltOf (And.right (And.right (And.right (And.right (And.right (And.right (And.right (And.right (And.right (And.right (And.right (And.right (And.right (by assumption))))))))))))))) | exact above_trans (by assumption) (ktn_ltOf (And.right (And.right (And.right (And.right (And.right (And.right (And.right (And.right (And.right (And.right (And.right (And.right (And.right (And.right (by assumption)))))))))))))))) | exact above_sub (by assumption) (by repeat' (first | (with_reducible exact subRefl) | (with_reducible exact subNil) | (with_reducible exact subLeft) | (with_reducible refine' subBoth ?_ ?_) | (refine' subCons (by k_mem) ?_) | (with_reducible refine' subTail ?_) | (with_reducible refine' subApp ?_))) | exact above_trans (by assumption) (above_sub (by assumption) (by repeat' (first | (with_reducible exact subRefl) | (with_reducible exact subNil) | (with_reducible exact subLeft) | (with_reducible refine' subBoth ?_ ?_) | (refine' subCons (by k_mem) ?_) | (with_reducible refine' subTail ?_) | (with_reducible refine' subApp ?_))))) ?_ | refine Fresh.app (Fresh.sub (by assumption) (by repeat (first | exact subRefl | apply subTail | apply subApp))) ?_)⟩))
  · obtain ⟨t1, t2, t3, t4, t5, t6, u, u2, h2⟩ := h2
    obtain ⟨C, ks, t, u, tvs, hc, ha, hn, hr⟩ := h3
    obtain ⟨e', rfl, q1, q2, q3, q4, q5, q6, q7, qn, z1, z3, z4, z5, z6, z7, he'⟩ := hbf (by k_extra "OM")
    k_extra "SK"
    all_goals (refine' RunEnd.intro ?zf ?zn ?zp; (case zf => k_asm); (case zn => k_asm); (case zp => exact ⟨rfl, _, Ext.eq (by repeat (first | exact Ext.nil | apply Ext.cons | apply Ext.app)), by repeat (first | exact Fresh.nil | refine Fresh.cons (by first | assumption | exact ltN (by k_extra "OM") | exact ktn_ltOf (by assumption) | exact ktn_ltOf (And.right (by assumption)) | exact ktn_ltOf (And.right (And.right (by assumption))) | exact ktn_ltOf (And.right (And.right (And.right (by assumption)))) | exact ktn_ltOf (And.right (And.right (And.right (And.right (by assumption))))) | exact ktn_ltOf (And.right (And.right (And.right (And.right (And.right (by assumption)))))) | exact ktn_ltOf (And.right (And.right (And.right (And.right (And.right (And.right (by assumption))))))) | exact ktn_ltOf (And.right (And.right (And.right (And.right (And.right (And.right (And.right (by assumption)))))))) | exact ktn_ltOf (And.right (And.right (And.right (And.right (And.right (And.right (And.right (And.right (by assumption))))))))) | exact ktn_ltOf (And.right (And.right (And.right (And.right (And.right (And.right (And.right (And.right (And.right (by assumption)))))))))) | exact ktn_ltOf (And.right (And.right (And.right (And.right (And.right (And.right (And.right (And.right (And.right (And.right (by assumption))))))))))) | exact ktn_ltOf (And.right (And.right (And.right (And.right (And.right (And.right (And.right (And.right (And.right (And.right (And.right (by assumption)))))))))))) | exact ktn_ltOf (And.right (And.right (And.right (And.right (And.right (And.right (And.right (And.right (And.right (And.right (And.right (And.right (by assumption))))))))))))) | exact ktn_ltOf (And.right (And.right (And.right (And.right (And.right (And.right (And.right (And.right (And.right (And.right (And.right (And.right (And.right (by assumption)))))))))))))) | exact ktn_ltOf (And.right (And.right (And.right (And.right (And.right (And.right (And.right (And.right (And.right (And.right (And.right (And.right (And.right (And.right (by assumption))))))))))))))) | exact above_trans (by assumption) (by assumption) | exact above_trans (by assumption) (above_trans (by assumption) (by assumption)) | exact above_trans (by assumption) (ktn_ltOf (by assumption)) | exact above_trans (by assumption) (ktn_ltOf (And.right (by assumption))) | exact above_trans (by assumption) (ktn_ltOf (And.right (And.right (by assumption)))) | exact above_trans (by assumption) (ktn_ltOf (And.right (And.right (And.right (by assumption))))) | exact above_trans (by assumption) (ktn_ltOf (And.right (And.right (And.right (And.right (by assumption)))))) | exact above_trans (by assumption) (ktn_ltOf (And.right (And.right (And.right (And.right (And.right (by assumption))))))) | exact above_trans (by assumption) (ktn_ltOf (And.right (And.right (And.right (And.right (And.right (And.right (by assumption)))))))) | exact above_trans (by assumption) (ktn_ltOf (And.right (And.right (And.right (And.right (And.right (And.right (And.right (by assumption))))))))) | exact above_trans (by assumption) (ktn_ltOf (And.right (And.right (And.right (And.right (And.right (And.right (And.right (And.right (by assumption)))))))))) | exact above_trans (by assumption) (ktn_ltOf (And.right (And.right (And.right (And.right (And.right (And.right (And.right (And.right (And.right (by assumption))))))))))) | exact above_trans (by assumption) (ktn_ltOf (And.right (And.right (And.right (And.right (And.right (And.right (And.right (And.right (And.right (And.right (by assumption)))))))))))) | exact above_trans (by assumption) (ktn_ltOf (And.right (And.right (And.right (And.right (And.right (And.right (And.right (And.right (And.right (And.right (And.right (by assumption))))))))))))) | exact above_trans (by assumption) (ktn_ltOf (And.right (And.right (And.right (And.right (And.right (And.right (And.right (And.right (And.right (And.right (And.right (And.right (by assumption)))))))))))))) | exact above_trans (by assumption) (ktn_ltOf (And.right (And.right (And.right (And.right (And.right (And.right (And.right (And.right (And.right (And.right (And.right (And.right (And.right (by assumption))))))))))))))) | exact above_trans (by assumption) (ktn_ltOf (And.right (And.right (And.right (And.right (And.right (And.right (And.right (And.right (And.right (And.right (And.right (And.right (And.right (And.right (by assumption)))))))))))))))) | exact above_sub (by assumption) (by repeat' (first | (with_reducible exact subRefl) | (with_reducible exact subNil) | (with_reducible exact subLeft) | (with_reducible refine' subBoth ?_ ?_) | (refine' subCons (by k_mem) ?_) | (with_reducible refine' subTail ?_) | (with_reducible refine' subApp ?_))) | exact above_trans (by assumption) (above_sub (by assumption) (by repeat' (first | (with_reducible exact subRefl) | (with_reducible exact subNil) | (with_reducible exact subLeft) | (with_reducible refine' subBoth ?_ ?_) | (refine' subCons (by k_mem) ?_) | (with_reducible refine' subTail ?_) | (with_reducible refine' subApp ?_))))) ?_ | refine Fresh.app (Fresh.sub (by assumption) (by repeat (first | exact subRefl | apply subTail | apply subApp))) ?_)⟩))
  · obtain ⟨t1, t2, t3, t4, t5, t6, u, u2, h2⟩ := h2
    obtain ⟨C, ks, t, u, tvs, hc, ha, hn, hr⟩ := h3.kind
    obtain ⟨e', rfl, q1, q2, q3, q4, q5, q6, q7, qn, z1, z3, z4, z5, z6, z7, he'⟩ := hbf (by k_extra "OM")
    k_extra "SK"
    all_goals (refine' RunEnd.intro ?zf ?zn ?zp; (case zf => k_asm); (case zn => k_asm); (case zp => exact ⟨rfl, _, Ext.eq (by repeat (first | exact Ext.nil | apply Ext.cons | apply Ext.app)), by repeat (first | exact Fresh.nil | refine Fresh.cons (by first | assumption | exact ltN (by k_extra "OM") | exact ktn_ltOf (by assumption) | exact ktn_ltOf (And.right (by assumption)) | exact ktn_ltOf (And.right (And.right (by assumption))) | exact ktn_ltOf (And.right (And.right (And.right (by assumption)))) | exact ktn_ltOf (And.right (And.right (And.right (And.right (by assumption))))) | exact ktn_ltOf (And.right (And.right (And.right (And.right (And.right (by assumption)))))) | exact ktn_ltOf (And.right (And.right (And.right (And.right (And.right (And.right (by assumption))))))) | exact ktn_ltOf (And.right (And.right (And.right (And.right (And.right (And.right (And.right (by assumption)))))))) | exact ktn_ltOf (And.right (And.right (And.right (And.right (And.right (And.right (And.right (And.right (by assumption))))))))) | exact ktn_ltOf (And.right (And.right (And.right (And.right (And.right (And.right (And.right (And.right (And.right (by assumption)))))))))) | exact ktn_ltOf (And.right (And.right (And.right (And.right (And.right (And.right (And.right (And.right (And.right (And.right (by assumption))))))))))) | exact ktn_ltOf (And.right (And.right (And.right (And.right (And.right (And.right (And.right (And.right (And.right (And.right (And.right (by assumption)))))))))))) | exact ktn_ltOf (And.right (And.right (And.right (And.right (And.right (And.right (And.right (And.right (And.right (And.right (And.right (And.right (by assumption))))))))))))) | exact ktn_ltOf (And.right (And.right (And.right (And.right (And.right (And.right (And.right (And.right (And.right (And.right (And.right (And.right (And.right (by assumption)))))))))))))) | exact ktn_ltOf (And.right (And.right (And.right (And.right (And.right (And.right (And.right (And.right (And.right (And.right (And.right (And.right (And.right (And.right (by assumption))))))))))))))) | exact above_trans (by assumption) (by assumption) | exact above_trans (by assumption) (above_trans (by assumption) (by assumption)) | exact above_trans (by assumption) (ktn_ltOf (by assumption)) | exact above_trans (by assumption) (ktn_ltOf (And.right (by assumption))) | exact above_trans (by assumption) (ktn_ltOf (And.right (And.right (by assumption)))) | exact above_trans (by assumption) (ktn_ltOf (And.right (And.right (And.right (by assumption))))) | exact above_trans (by assumption) (ktn_ltOf (And.right (And.right (And.right (And.right (by assumption)))))) | exact above_trans (by assumption) (ktn_ltOf (And.right (And.right (And.right (And.right (And.right (by assumption))))))) | exact above_trans (by assumption) (ktn_ltOf (And.right (And.right (And.right (And.right (And.right (And.right (by assumption)))))))) | exact above_trans (by assumption) (ktn_ltOf (And.right (And.right (And.right (And.right (And.right (And.right (And.right (by assumption))))))))) | exact above_trans (by assumption) (ktn_ltOf (And.right (And.right (And.right (And.right (And.right (And.right (And.right (And.right (by assumption)))))))))) | exact above_trans (by assumption) (ktn_ltOf (And.right (And.right (And.right (And.right (And.right (And.right (And.right (And.right (And.right (by assumption))))))))))) | exact above_trans (by assumption) (ktn_ltOf (And.right (And.right (And.right (And.right (And.right (And.right (And.right (And.right (And.right (And.right (by assumption)))))))))))) | exact above_trans (by assumption) (ktn_ltOf (And.right (And.right (And.right (And.right (And.right (And.right (And.right (And.right (And.right (And.right (And.right (by assumption))))))))))))) | exact above_trans (by assumption) (ktn_ltOf (And.right (And.right (And.right (And.right (And.right (And.right (And.right (And.right (And.right (And.right (And.right (And.right (by assumption)))))))))))))) | exact above_trans (by assumption) (ktn_ltOf (And.right (And.right (And.right (And.right (And.right (And.right (And.right (And.right (And.right (And.right (And.right (And.right (And.right (by assumption))))))))))))))) | exact above_trans (by assumption) (ktn_ltOf (And.right (And.right (And.right (And.right (And.right (And.right (And.right (And.right (And.right (And.right (And.right (And.right (And.right (And.right (by assumption)))))))))))))))) | exact above_sub (by assumption) (by repeat' (first | (with_reducible exact subRefl) | (with_reducible exact subNil) | (with_reducible exact subLeft) | (with_reducible refine' subBoth ?_ ?_) | (refine' subCons (by k_mem) ?_) | (with_reducible refine' subTail ?_) | (with_reducible refine' subApp ?_))) | exact above_trans (by assumption) (above_sub (by assumption) (by repeat' (first | (with_reducible exact subRefl) | (with_reducible exact subNil) | (with_reducible exact subLeft) | (with_reducible refine' subBoth ?_ ?_) | (refine' subCons (by k_mem) ?_) | (with_reducible refine' subTail ?_) | (with_reducible refine' subApp ?_))))) ?_ | refine Fresh.app (Fresh.sub (by assumption) (by repeat (first | exact subRefl | apply subTail | apply subApp))) ?_)⟩))
end SM5

theorem reg_macros_m5 : True := by
  k_with "kpc_turns" => (((with_reducible show wpAny _ _ (call (Value.ref 464) _) _ _ _); (with_reducible refine' Tell.use (t_law_binding _ _ _ _ _ _ _ _ _ _ _ _ _ _ _ ?zqz15 ?zqz16 ?zqz17 ?zqz18) ?zqB ?zqF ?zqX ?zqN ?zqsub ?zqT ?zqhk ?zqhd ?zqhu ?_); (case zqB => k_asm); (case zqF => k_asm); (case zqX => k_asm); (case zqN => k_asm); (case zqsub => exact subRefl); (case zqT => k_asm); (case zqhk => rfl); (case zqhd => first | exact lim (by assumption) rfl | k_extra "OM"); (case zqhu => first | exact lim (by assumption) rfl | k_extra "OM"); (case zqz15 => assumption); (case zqz16 => first | (with_reducible assumption) | k_extra "k_caughtB"); (case zqz17 => first | (with_reducible assumption) | k_extra "k_caughtB"); (case zqz18 => assumption); rintro zqr' zqnews' zqh' zqtk' zqF' zqN' ⟨zqe1, zqtl', zqe2, zqfr'⟩; subst zqe1; subst zqe2; (try k_sweep)))
  trivial
section SX1
section
variable {w : World} {A : Around} {E : Value → Shared → Prop} {s : Shared} {K : Frag} {x C : Addr} {ox : Obj} {od : Option Obj} {name : Str} {expr : Bool} {v : Value}
theorem exc_type (I : InstAt s.heap x ox C od) (hm : mroIn K C (.type "BaseException") = some true) (X : K.In s.heap) : Looks (model PR w) s.heap (isInstance (.ref x) (.type "BaseException")) true := I.type.andThen (looks_mroIn X hm)
theorem exc_get {Q : Value → Shared → Prop} (X : K.In s.heap) (I : InstAt s.heap x ox C od) (hga : findIn K (.ref C) "__getattribute__" = some (some (.builtin "BaseException.__getattribute__"))) (hgt : findIn K (.ref C) "__getattr__" = some none)
    (hm : mroIn K C (.type "BaseException") = some true) (hf : findObj K C od name = some (.value v)) (hh : handedIn v = true) (h : Q v { s with toks := s.toks + 1 }) :
    wpAny (model PR w) A (getAttr (.ref x) name expr) Q E s := by
  have sub := exc_type (w := w) I hm X
  obtain ⟨hp, g, d, t, os⟩ := s
  have L0 := I.type (M := model PR w)
  have L1 := looks_findIn (M := model PR w) X hga
  have L2 := looks_findIn (M := model PR w) X hgt
  have L3 := looks_find (M := model PR w) X I hf
  have f3 := PySem.F.attr_Exception.ga.bind (.ref x)
  have hk : builtinKind "BaseException.__getattribute__" = some .slot := by decide +kernel
  have hsplit : splitId "BaseException.__getattribute__" = some ("BaseException", "__getattribute__") := by decide +kernel
  unfold getAttr getAttrBy
  refine wpAny_bind (wpAny_mkText (wpAny_holding (wpAny_bind (L0.at (wpAny_bind (L1.at ?_))))))
  show wpAny _ _ (getAttrByItsOwn _ _ _ _ _ _) _ _ _
  unfold getAttrByItsOwn
  refine wpAny_bind (L2.at (wpAny_bind (wpAny_attempt (wpAny_holding ?_))))
  unfold callGetattribute
  rw [if_neg (by cases expr <;> exact Bool.false_ne_true)]
  unfold boundAndCalled
  rw [f3]
  refine wpAny_bind (wpAny_pure (wpAny_call (codeAny_call_builtin PySem.F.attr_Exception.ga.plain PySem.F.entry_bexc_ga (check_slot (self := .ref x) (i := "BaseException.__getattribute__") hk hsplit sub (PySem.F.args_bexc_ga (.ref x) (.str name t)) ?_))))
  refine wpAny_bind (wpAny_pure (wpAny_bind (wpAny_pure (wpAny_bind (L0.at (wpAny_bind (L3.at ?_)))))))
  refine wpAny_pure ?_
  show wpAny _ _ (handedOut v) _ _ _
  rw [handedOut_of hh]; exact wpAny_pure h
theorem exc_set {Q : Unit → Shared → Prop} {cd : ClassData} {C2 : Addr} {vs : Array Value} {sl : Array (Option Value)} (X : K.In s.heap) (hx : s.heap.get? x = some ⟨.ref C, none, .fields vs, sl⟩) (hsa : findIn K (.ref C) "__setattr__" = some (some (.builtin "object.__setattr__")))
    (hc : clsIn K C = some cd) (hd : cd.hasDict = true) (hm : cd.mro = [.ref C, .ref C2, .type "Exception", .type "BaseException", .type "object"]) (ha : findIn K (.ref C) name = some none)
    (h : ∀ h' D, s.heap.get? D = none → h'.get? x = some ⟨.ref C, some D, .fields vs, sl⟩ → D ≠ x → h'.get? D = some (dictOf [⟨PyData.keyHash w.params name, .str name (s.toks + 1), v⟩] 1) → (∀ b o, b ≠ x → s.heap.get? b = some o → h'.get? b = some o) → Q () { s with heap := h', toks := s.toks + 2 }) :
    wpAny (model PR w) A (setAttr (.ref x) name v) Q E s := by
  have I : InstAt s.heap x ⟨.ref C, none, .fields vs, sl⟩ C none := ⟨hx, rfl, rfl, trivial⟩
  refine set_plain X I hsa ?_
  have SF := PySem.F.store_object
  obtain ⟨hp, g, d, t, os⟩ := s
  have L0 := I.type (M := model PR w)
  have L1 := looks_findIn (M := model PR w) X ha
  have L2 : Looks (model PR w) hp (mroOf (.ref C)) cd.mro := (looks_clsIn X hc).andThen .now
  have L3 := looks_clsIn (M := model PR w) X hc
  have sub : Looks (model PR w) hp (isInstance (.ref x) (.type "object")) true := L0.andThen (looks_mroIn X (by unfold mroIn; rw [hc, Option.bind_some, hm]; rfl))
  refine codeAny_call_builtin SF.slot.plain SF.entry (check_slot (i := "object.__setattr__") SF.kind SF.split sub (SF.args (.ref x) (.str name _) v) ?_)
  rw [osa_eq, refuse_eq]
  refine wpAny_bind (wpAny_bind (L0.at (wpAny_bind (L2.at ?_))))
  rw [hm, refuseLoop_ref, refuseLoop_ref, PySem.F.store_Exception.passes]
  refine wpAny_pure (wpAny_bind (L0.at (wpAny_bind (L1.at (wpAny_bind (wpAny_pure ?_))))))
  dsimp only at hx h
  refine wpAny_bind (wpAny_pure (wpAny_bind (wpAny_bind (wpAny_loadPart hx (wpAny_bind (L3.at ?_))))))
  rw [hd, if_neg (by decide)]
  dsimp only
  rw [if_neg (by simp [typeHasDict])]
  have hx₁ : (hp.push { cls := .type "dict", data := .dict #[] }).get? x = some ⟨.ref C, none, .fields vs, sl⟩ := Heap.get?_push_of_some _ hx
  have hxs : x ≠ hp.objs.size := Nat.ne_of_lt (Heap.lt_size hx)
  refine wpAny_bind (wpAny_alloc' ?_)
  refine wpAny_bind (wpAny_update' hx₁ ?_)
  refine wpAny_pure ?_
  have D : ((hp.push { cls := .type "dict", data := .dict #[] }).update x fun o => { cls := o.cls, dict := some hp.objs.size, data := o.data, slots := o.slots }).get? hp.objs.size
      = some { cls := .type "dict", data := .dict #[] } := (Heap.get?_update_ne _ _ _ _ hxs.symm).trans (Heap.get?_push_at rfl rfl)
  show wpAny _ _ (Builtin.ObjectAttr.storeInDict hp.objs.size _ name v) _ _ _
  unfold Builtin.ObjectAttr.storeInDict Builtin.ObjectAttr.newKeyGuard
  refine wpAny_bind (wpAny_pure (wpAny_bind ?_))
  unfold nsSet
  refine wpAny_bind (wpAny_bind (wpAny_askSetting (wpAny_pure (wpAny_bind (wpAny_mkText (wpAny_bind (wpAny_loadPart D ?_)))))))
  dsimp only
  rw [aRefKeyMayBeTheName_at, show (!(#[] : Array DictEntry).any (fun e => e.key.isStr name) && (#[] : Array DictEntry).any (fun e => e.refKey)) = false by simp]
  refine wpAny_updatePart D ?_
  have e1 : Obj.putName name (PyData.keyHash w.params name) (.str name (t + 1)) v { cls := .type "dict", data := .dict #[] } = dictOf [⟨PyData.keyHash w.params name, .str name (t + 1), v⟩] 1 := putName_dict name (PyData.keyHash w.params name) (.str name (t + 1)) v [] 0
  have D' := Heap.get?_update_self (Obj.putName name (PyData.keyHash w.params name) (.str name (t + 1)) v) D (by rw [e1]; rfl)
  rw [e1] at D'
  refine wpAny_bind (wpAny_lookBehind D' (pastItsLine_dict (by rw [List.size_toArray, sizeLine_eq]; simp)) ?_)
  refine wpAny_pure (h _ hp.objs.size (Heap.get?_none_of_le (Nat.le_refl _)) ?_ hxs.symm D' (fun b o hb e => ?_))
  · exact (Heap.get?_update_ne _ _ _ _ hxs).trans (Heap.get?_update_self _ hx₁ rfl)
  · exact (Heap.get?_update_ne _ _ _ _ (Nat.ne_of_lt (Heap.lt_size e))).trans ((Heap.get?_update_ne _ _ _ _ hb).trans (Heap.get?_push_of_some _ e))
end
end SX1
section SX2
section
variable {w : World} {A : Around} {E : Value → Shared → Prop} {h : Heap} {g : Array GenState} {d : Drawn} {t : Nat} {os : OsState}
variable {nm q : Str} {C N : Addr} {bs bm bmB : List Value} {hdct : Bool} {sn : List Str} {sub : List Value} {ab : Bool} {col : Option Bool} {dd : Option Addr} {k0 k1 k2 k3 k5 : Option Value} {B newId initId : String}
noncomputable abbrev excAt (C t : Addr) (dct : Option Addr) : Obj := { cls := .ref C, dict := dct, data := .fields #[.ref t, .none, .none, .none, .bool false, .none] }
theorem exc_made (F : ExcBaseFacts B newId initId bmB) (T : OwnTail h bmB bm) {mN : Str → Option Value} {rest : List Value} {fI : Addr} {oI : Obj} {Q : Fin → Shared → Prop}
    (hC : h.get? C = some (excClassObj nm q C N bs bm hdct sn sub ab col dd k0 k1 k2 k3 k5 newId)) (hn : h.Ns N mN) (hi : mN "__init__" = some (.ref fI)) (hfI : h.get? fI = some oI) (hfc : oI.cls = .type "function") (hrest : rest.length ≤ sizeLine)
    (hq : ∀ h' e tt, (∀ b o, h.get? b = some o → h'.get? b = some o) → h.get? e = none → h.get? tt = none → e ≠ tt → h'.get? e = some (excAt C tt none) → h'.get? tt = some { cls := .type "tuple", data := .seq rest.toArray } →
      wpAny (model PR w) A (call (.ref fI) (.ref e :: rest)) (fun r s' => r = .none ∧ Q (.done (.ret (.ref e))) s') E ⟨h', g, d, t, os⟩) :
    wpAny (model PR w) A (Builtin.«type.__call__» ⟨.ref C :: rest, []⟩) Q E ⟨h, g, d, t, os⟩ := by
  repeat (first | with_reducible refine wpAny_loadPart_at hC ?_ | with_reducible refine wpAny_madeBy_exc hC ?_ | wp_step)
  refine codeAny_call_builtin_code (Code.quiet_builtin _ F.quiet) (wpAny_check_new_subT F T hC ?_)
  refine codeAny_exc_new_subT F T hC ?_ hrest
  show wpAny _ _ _ _ _ _
  have up : ∀ b o, h.get? b = some o → ((h.push { cls := .type "tuple", data := .seq rest.toArray }).push { cls := .ref C, data := .fields #[.ref h.objs.size, .none, .none, .none, .bool false, .none] }).get? b = some o := fun b o e => Heap.get?_push_of_some _ (Heap.get?_push_of_some _ e)
  have hC₁ := up _ _ hC
  have hn₁ := hn.keeps up
  have hget : ((h.push { cls := .type "tuple", data := .seq rest.toArray }).push { cls := .ref C, data := .fields #[.ref h.objs.size, .none, .none, .none, .bool false, .none] }).get? (h.objs.size + 1) = some { cls := .ref C, data := .fields #[.ref h.objs.size, .none, .none, .none, .bool false, .none] } := Heap.get?_push_at (by rw [Heap.size_push]) rfl
  have hcC : (Value.ref C :: bm).contains (.ref C) = true := by simp
  have T₁ := T.keeps up
  unfold isInstance
  repeat (first | with_reducible refine wpAny_loadPart_at hget ?_ | (with_reducible refine wpAny_isSubtype_exc hC₁ ?_; rw [hcC]) | wp_step)
  show wpAny _ _ (typeLookup (.ref C) _) _ _ _
  refine wpAny_typeLookup_tail hC₁ hn₁ T₁ F.mroIs F.init.lookup ?_
  rw [hi]
  refine wpAny_holding (wpAny_bind ?_)
  unfold bindSpecial
  refine wpAny_bind (wpAny_typeOf (T := "function") ⟨_, up _ _ hfI, hfc⟩ ?_)
  rw [if_pos (by decide)]
  refine wpAny_pure (wpAny_bind (wpAny_mono (hq _ (h.objs.size + 1) h.objs.size up (Heap.get?_none_of_le (Nat.le_succ _)) (Heap.get?_none_of_le (Nat.le_refl _)) (Nat.succ_ne_self _) hget (Heap.get?_push_of_some _ (Heap.get?_push_at rfl rfl))) (fun r s' hr => ?_) fun _ _ x => x))
  obtain ⟨rfl, hQ⟩ := hr
  wp_walk
  exact hQ
theorem exc_make (F : ExcBaseFacts B newId initId bmB) (T : OwnTail h bmB bm) {mN : Str → Option Value} {rest : List Value} {fI : Addr} {oI : Obj} {Q : Value → Shared → Prop}
    (hC : h.get? C = some (excClassObj nm q C N bs bm hdct sn sub ab col dd k0 k1 k2 k3 k5 newId)) (hn : h.Ns N mN) (hi : mN "__init__" = some (.ref fI)) (hfI : h.get? fI = some oI) (hfc : oI.cls = .type "function") (hrest : rest.length ≤ sizeLine)
    (hq : ∀ h' e tt, (∀ b o, h.get? b = some o → h'.get? b = some o) → h.get? e = none → h.get? tt = none → e ≠ tt → h'.get? e = some (excAt C tt none) → h'.get? tt = some { cls := .type "tuple", data := .seq rest.toArray } →
      wpAny (model PR w) (A.under (.builtin "type.__call__" ⟨.ref C :: rest, []⟩)) (call (.ref fI) (.ref e :: rest)) (fun r s' => r = .none ∧ Q (.ref e) s') E ⟨h', g, d, t, os⟩) :
    wpAny (model PR w) A (call (.ref C) rest) Q E ⟨h, g, d, t, os⟩ := by
  have f1 := tc_lookup
  have f2 := tc_bind (.ref C)
  have hT : (⟨h, g, d, t, os⟩ : Shared).TypeIs (.ref C) "type" := ⟨_, hC, rfl⟩
  refine wpAny_call (codeAny_of_tree ?_)
  show wpAny _ _ (callAny (.ref C) _) _ _ _
  repeat (any_goals (first | assumption | with_reducible refine wpAny_loadPart_at hC ?_ | wp_step))
  refine ⟨rfl, ?_⟩
  refine codeAny_call_builtin_at (Code.quiet_builtin _ (by decide +kernel)) entry_typeCall (wpAny_check_type_call_sub hC (exc_made F T hC hn hi hfI hfc hrest fun h' e tt a1 a2 a3 a4 a5 a6 => ?_))
  exact hq h' e tt a1 a2 a3 a4 a5 a6
theorem exc_raise {M : Model} {env : Env} {s : Shared} {x : Sem Value} {Q : Flow → Shared → Prop} (hbase : bm.contains (.type "BaseException") = true) (hh : A.handled = none)
    (h : wpAny M A x (fun v s₁ => ∃ e tt D, v = .ref e ∧ s₁.heap.get? C = some (excClassObj nm q C N bs bm hdct sn sub ab col dd k0 k1 k2 k3 k5 newId) ∧ s₁.heap.get? e = some { cls := .ref C, dict := some D, data := .fields #[.ref tt, .none, .none, .none, .bool false, .none] } ∧ E (.ref e) s₁) E s) :
    wpAny M A (raiseStmt env (some x) none) Q E s := by
  have hcB : (Value.ref C :: bm).contains (.type "BaseException") = true := by rw [List.contains_cons, hbase, Bool.or_true]
  unfold raiseStmt
  refine wpAny_bind (wpAny_mono h (fun v s₁ h₁ => ?_) fun _ _ x => x)
  obtain ⟨e, tt, D, rfl, hC, he, hE⟩ := h₁
  obtain ⟨hp, g, d, tk, os⟩ := s₁
  repeat (first | with_reducible refine wpAny_loadPart_at he ?_ | with_reducible refine wpAny_loadPart_at hC ?_ | (with_reducible refine wpAny_isSubtype_exc hC ?_; rw [hcB]) | wp_step)
  exact wpAny_raiseNew_none hh hE
end
section
variable {w : World} {A : Around} {E : Value → Shared → Prop} {s : Shared} {env : Env} {e₀ : PySem.Expr} {pos : Pos}
variable {nm q : Str} {C N : Addr} {bs bm : List Value} {hdct : Bool} {sn : List Str} {sub : List Value} {ab : Bool} {col : Option Bool} {dd : Option Addr} {k0 k1 k2 k3 k5 : Option Value} {newId : String}
theorem raise_own {Q : Flow → Shared → Prop} (hbase : bm.contains (.type "BaseException") = true) (hh : A.handled = none)
    (h : wpAny (model PR w) A (eval e₀ env) (fun v s₁ => ∃ e tt D, v = .ref e ∧ s₁.heap.get? C = some (excClassObj nm q C N bs bm hdct sn sub ab col dd k0 k1 k2 k3 k5 newId) ∧ s₁.heap.get? e = some { cls := .ref C, dict := some D, data := .fields #[.ref tt, .none, .none, .none, .bool false, .none] } ∧ E (.ref e) s₁) E s) :
    wpAny (model PR w) A (exec (.Raise (some e₀) none pos) env) Q E s := by
  rw [arm_exec_Raise]
  exact wpAny_bind (wpAny_standAt (exc_raise hbase hh (wpAny_bind (wpAny_mono h (fun v s₃ h₃ => wpAny_bind (wpAny_standAt (wpAny_pure h₃))) fun _ _ x => x))))
end
end SX2
section SX3
theorem dict_mapF (o : Obj) (f) : (o.mapFields f).dict = o.dict := by
  obtain ⟨_, _, dt, _⟩ := o
  cases dt <;> rfl
noncomputable def TrD (h base : Heap) (e : Addr) (cls : Value) (dct : Option Addr) (fl : Value) : Prop :=
  ∃ oe vs T oT ts, h.get? e = some oe ∧ oe.cls = cls ∧ oe.dict = dct ∧ oe.data = .fields vs ∧ vs[1]? = some (.ref T) ∧ base.get? T = none ∧ T ≠ e ∧ h.get? T = some oT ∧ oT.data = .fields ts ∧ ts[3]? = some fl
noncomputable def FlyD (base : Heap) (l : List Env) (e : Addr) (cls : Value) (dct : Option Addr) (fl : Value) (h : Heap) : Prop :=
  base.StaysIn h ∧ base.get? e = none ∧ h.FunFrames base l ∧ TrD h base e cls dct fl
section
variable {M : Model} {A : Around} {E : Value → Shared → Prop} {s : Shared} {base : Heap} {env : Env} {outer l : List Env} {L e : Addr} {cls : Value} {dct : Option Addr} {fl : Value}
theorem entryD {oe : Obj} {vs : Array Value} {head : Value} {hadNext : Bool} {Q : Unit → Shared → Prop}
    (hfr : A.frames = some (env :: outer)) (hl : s.heap.FunFrames base (env :: outer)) (hf : env.frame = some L)
    (he : s.heap.get? e = some oe) (hkb : base.StaysIn s.heap) (hen : base.get? e = none) (hd : oe.data = .fields vs) (hsz : 1 < vs.size)
    (h : ∀ h', FlyD base (env :: outer) e oe.cls oe.dict (rawInt L) h' → s.heap.UpToSlots h' → Q () { s with heap := h' }) :
    wpAny M A (do let a ← frameOf env; let pl ← entryPlaceOf L hadNext; let b ← EntryCells.newEntry head a .none (rawInt L) .none pl; setField (.ref e) 1 b) Q E s := by
  have off : ∀ {b o}, s.heap.get? b = some o → (∀ vs, o.data ≠ .fields vs) → b ≠ e := fun hb hnf q => by
    rw [q, he] at hb; injection hb with hb; subst hb; exact hnf vs hd
  have hene : e ∉ (env :: outer).filterMap (·.frame) := fun hm => by
    obtain ⟨_, o, ho, hnf⟩ := hl.mem hm
    exact off ho hnf rfl
  refine wpAny_bind (wpAny_frameOf_fun hfr hl hf fun h₁ hs₁ => wpAny_bind (wpAny_entryPlaceOf fun pl hpl => ?_))
  unfold EntryCells.newEntry newFields
  refine wpAny_bind (wpAny_newObj_type ?_ (hpl.sizeOk5 _ _ _ _ _))
  obtain ⟨tb, htb⟩ : ∃ tb : Obj, tb = { cls := .type "traceback", dict := none, data := .fields ([head, .ref L, .none, rawInt L, .none] ++ (if pl.isEmpty then List.replicate 6 Value.none else pl)).toArray } := ⟨_, rfl⟩
  rw [← htb]
  have he₁ : h₁.get? e = some oe := (hs₁.2.1 e hene).trans he
  have kb₁ : base.StaysIn h₁ := fun b o hbo => (hs₁.2.1 b fun hm => by rw [(hl.mem hm).1] at hbo; cases hbo).trans (hkb b o hbo)
  have he₂ := Heap.get?_push_of_some tb he₁
  have hTe : h₁.objs.size ≠ e := Nat.ne_of_gt (Heap.lt_size he₁)
  have hd₃ := Obj.data_mapFields hd (·.setIfInBounds 1 (Value.ref h₁.objs.size))
  have hT₂ : (h₁.push tb).get? h₁.objs.size = some tb := Heap.get?_push_size h₁ (by rw [htb]; rfl)
  have keep : ∀ {b o}, b ≠ e → h₁.get? b = some o → ((h₁.push tb).update e (Obj.mapFields (·.setIfInBounds 1 (Value.ref h₁.objs.size)))).get? b = some o := fun hbe hb => by
    rw [Heap.get?_update_other _ _ (Ne.symm hbe)]
    exact Heap.get?_push_of_some _ hb
  refine wpAny_setField he₂ hd hsz (h _ ⟨fun b o hbo => keep (fun q => by rw [q, hen] at hbo; cases hbo) (kb₁ b o hbo), hen, hl.of_keeps fun b o hb hnf => ?_, ?_⟩ fun b o hb hnf => ?_)
  · obtain ⟨sl, hs⟩ := hs₁.2.2 b o hb
    exact ⟨_, keep (off hb hnf) hs, rfl⟩
  · refine ⟨_, _, h₁.objs.size, tb, _, Heap.get?_update_self _ he₂ (Obj.isFreed_of_fields hd₃), Obj.cls_mapFields _ _, dict_mapF _ _, hd₃, by simp [hsz], kb₁.fresh, hTe, (Heap.get?_update_other _ _ (Ne.symm hTe)).trans hT₂, by rw [htb], ?_⟩
    first | (simp; done) | (rcases hpl with rfl | ⟨_, _, _, _, _, _, _, rfl⟩ <;> simp)
  · obtain ⟨sl, hs⟩ := hs₁.2.2 b o hb
    exact ⟨sl, keep (off hb hnf) hs⟩
theorem noteD {oe : Obj} {vs : Array Value} {Q : Unit → Shared → Prop}
    (hfr : A.frames = some (env :: outer)) (hl : s.heap.FunFrames base (env :: outer)) (hf : env.frame = some L)
    (he : s.heap.get? e = some oe) (hkb : base.StaysIn s.heap) (hen : base.get? e = none) (hd : oe.data = .fields vs)
    (h1 : vs[1]? = some .none ∨ ∃ T oT ts, vs[1]? = some (.ref T) ∧ base.get? T = none ∧ T ≠ e ∧ s.heap.get? T = some oT ∧ oT.data = .fields ts ∧ ts[3]? = some .none)
    (h : ∀ h', FlyD base (env :: outer) e oe.cls oe.dict (rawInt L) h' → s.heap.UpToSlots h' → Q () { s with heap := h' }) : wpAny M A (noteFrame (.ref e) env) Q E s := by
  unfold noteFrame
  simp only [hf]
  rcases h1 with h1 | ⟨T, oT, ts, h1, hnT, hTe, hT, hdT, h3⟩
  · refine wpAny_bind (wpAny_field he hd h1 ?_)
    rw [if_neg (by decide)]
    exact entryD hfr hl hf he hkb hen hd (Array.getElem?_eq_some_iff.mp h1).1 h
  · refine wpAny_bind (wpAny_field he hd h1 ?_)
    rw [if_pos (show (Value.ref T != Value.none) = true from by simp)]
    refine wpAny_bind (wpAny_field hT hdT h3 ?_)
    rw [if_neg (show ¬ ((Value.none == rawInt L) = true) from by simp [rawInt])]
    refine wpAny_bind (wpAny_setField hT hdT (Array.getElem?_eq_some_iff.mp h3).1 ?_)
    have other : ∀ b, b ≠ T → (s.heap.update T (Obj.mapFields (·.setIfInBounds 3 Value.none))).get? b = s.heap.get? b := fun b hb => Heap.get?_update_other _ _ (Ne.symm hb)
    have offT : ∀ {b o}, s.heap.get? b = some o → (∀ vs, o.data ≠ .fields vs) → b ≠ T := fun hb hnf q => by
      rw [q, hT] at hb; injection hb with hb; subst hb; exact hnf ts hdT
    exact entryD hfr (hl.of_keeps fun b o hb hnf => ⟨o, (other b (offT hb hnf)).trans hb, rfl⟩) hf ((other e (Ne.symm hTe)).trans he)
      (fun b o hbo => (other b fun q => by rw [q, hnT] at hbo; cases hbo).trans (hkb b o hbo)) hen hd (Array.getElem?_eq_some_iff.mp h1).1
      fun h' x1 x4 => h h' x1 fun b o hb hnf => x4 b o ((other b (offT hb hnf)).trans hb) hnf
theorem flightD {Q : Unit → Shared → Prop} (x : FlyD base l e cls dct fl s.heap) (h : ∀ h', FlyD base l e cls dct .none h' → s.heap.UpToSlots h' → Q () { s with heap := h' }) : wpAny M A (setFlight (.ref e) none) Q E s := by
  obtain ⟨hkb, hen, hl, oe, vs, T, oT, ts, he, hc, hdc, hd, h1, hnT, hTe, hT, hdT, h3⟩ := x
  have hsz3 : 3 < ts.size := (Array.getElem?_eq_some_iff.mp h3).1
  have other : ∀ b, b ≠ T → (s.heap.update T (Obj.mapFields (·.setIfInBounds 3 ((none : Option Addr).elim Value.none fun f => rawInt f)))).get? b = s.heap.get? b := fun b hb => Heap.get?_update_other _ _ (Ne.symm hb)
  have offT : ∀ {b o}, s.heap.get? b = some o → (∀ vs, o.data ≠ .fields vs) → b ≠ T := fun hb hnf q => by
    rw [q, hT] at hb; injection hb with hb; subst hb; exact hnf ts hdT
  unfold setFlight
  refine wpAny_bind (wpAny_field he hd h1 ?_)
  rw [if_pos (show (Value.ref T != Value.none) = true from by simp)]
  exact wpAny_setField hT hdT hsz3 (h _ ⟨fun b o hbo => (other b fun q => by rw [q, hnT] at hbo; cases hbo).trans (hkb b o hbo), hen, hl.of_keeps fun b o hb hnf => ⟨o, (other b (offT hb hnf)).trans hb, rfl⟩,
    oe, vs, T, _, _, (other e (Ne.symm hTe)).trans he, hc, hdc, hd, h1, hnT, hTe, Heap.get?_update_self _ hT (Obj.isFreed_of_fields (Obj.data_mapFields hdT _)), Obj.data_mapFields hdT _, by simp [hsz3]⟩ fun b o hb hnf => ⟨o.slots, (other b (offT hb hnf)).trans hb⟩)
theorem noteOnD {Q : Unit → Shared → Prop} (hfr : A.frames = some (env :: outer)) (hf : env.frame = some L) (x : FlyD base (env :: outer) e cls dct .none s.heap)
    (h : ∀ h', FlyD base (env :: outer) e cls dct (rawInt L) h' → s.heap.UpToSlots h' → Q () { s with heap := h' }) : wpAny M A (noteFrame (.ref e) env) Q E s := by
  obtain ⟨hkb, hen, hl, oe, vs, T, oT, ts, he, rfl, rfl, hd, h1, hnT, hTe, hT, hdT, h3⟩ := x
  exact noteD hfr hl hf he hkb hen hd (.inr ⟨T, oT, ts, h1, hnT, hTe, hT, hdT, h3⟩) h
theorem leaveD {oe : Obj} {vs : Array Value} {Q : Unit → Shared → Prop}
    (hfr : A.frames = some (env :: outer)) (hl : s.heap.FunFrames base (env :: outer)) (hf : env.frame = some L)
    (he : s.heap.get? e = some oe) (hkb : base.StaysIn s.heap) (hen : base.get? e = none) (hd : oe.data = .fields vs) (h1 : vs[1]? = some .none)
    (h : ∀ h', FlyD base outer e oe.cls oe.dict .none h' → s.heap.UpToSlots h' → Q () { s with heap := h' }) : wpAny M A (leaving env (.ref e)) Q E s := by
  unfold leaving
  refine wpAny_bind (noteD hfr hl hf he hkb hen hd (.inl h1) fun h₁ x1 u1 => flightD x1 fun h₂ x2 u2 => ?_)
  obtain ⟨k1, k2, ⟨_, _, k3⟩, k4⟩ := x2
  exact h h₂ ⟨k1, k2, k3, k4⟩ (u1.trans u2)
end
end SX3
section SX4
section
variable {w : World} {mean : ExcName → Option Value} {mg mb : Str → Option Value} {f : Addr} {vs : List Value} {news : Led}
theorem codeX_of {name qual : Str} {params : Arguments} {body : List Stmt} {scope : Scope} {dV kV doc pm cdv ct oc : Value} {an od : Option Addr} {osl : Array (Option Value)} (ps : List Str) (vals : List Value) (rest gs : List Str)
    (ho : (Mine.hd.heap_39 w.params).lookup f = some ⟨oc, od, .func (fnX name qual params body scope [] dV kV doc pm an cdv ct), osl⟩) (hcd : codeIn (Mine.hd.heap_39 w.params) cdv qual = true)
    (hbind : ∀ h : Heap, (Mine.hd.heap_39 w.params).In h → ∀ s : Shared, s.heap = h → BindsTo s (fnX name qual params body scope [] dV kV doc pm an cdv ct) ⟨vs, []⟩ (ps.zip vals))
    (hlen : ps.length = vals.length) (hloc : locTab scope (ps ++ rest) = true) (hglob : globTab scope gs = true)
    (hcell : (scope.names.all fun x => x.2 != .cell) = true) (hco : scope.isCoroutine = false) (hgen : scope.isGenerator = false)
    {dp un : Nat} {gd : Option (List Code)} {cn : Str} {cs : Scope} {a : Addr} {ccd : Value} {cl : List (Str × Addr)} {outer : List Env} {A₀ : Around} {base h₀ : Heap} {L : Addr} {m : Str → Option Value} {s : Shared} {R : Result → Shared → Prop}
    (B : Below A₀ base outer h₀) (F : Fr h₀ L s.heap m) (X : (Mine.hd.heap_39 w.params).In h₀) (N : News h₀ L s.heap news) (T : Top VW LO mean mg mb h₀) (hkf : cs.kind = .function) (hd : dp < recursionLimit)
    (h : LocTab scope (ps ++ rest) → GlobTab scope gs → ∀ g L' h₁ tk, Fr h₀ L g m → Fr g L' h₁ (frm (ps ++ rest) (vals.map some ++ rest.map fun _ => none)) → (Mine.hd.heap_39 w.params).In g → News g L' h₁ news → Top VW LO mean mg mb g → Below (ktrTop dp un gd cn cs L a ccd cl outer) base (envX cn cs L a ccd cl :: outer) g → h₀.StaysIn g → (∀ p ∈ news, p.1 < L') →
      wpAny (model PR w) (ktrTop (dp + 1) (un + 3) gd qual scope L' f cdv [] (envX cn cs L a ccd cl :: outer)) (execs body (envX qual scope L' f cdv []))
        (fun fl s' => LeaveK h₀ L m g R (match fl with | .ret v => v | _ => .none) s')
        (fun e s' => wpAny (model PR w) (ktrTop (dp + 1) (un + 3) gd qual scope L' f cdv [] (envX cn cs L a ccd cl :: outer)) (leaving (envX qual scope L' f cdv []) e) (fun _ s'' => R (.error e) s'') (fun e' s'' => R (.error e') s'') s')
        ⟨h₁, s.gens, s.drawn, tk, s.os⟩) :
    codeAny (model PR w) (ktrTop dp un gd cn cs L a ccd cl outer) (.call (.ref f) ⟨vs, []⟩) R s := by
  have LT := LocTab.of hloc
  have GT := GlobTab.of hglob
  have hX := X.keeps F.keep
  refine callX_plain (cl := []) B F N T.nolimit rfl rfl hkf (hX _ _ ho) rfl (codeRec_of hX hcd) hd (hbind _ hX s rfl)
    (fun y hy => LT.loc y.1 (List.mem_append_left _ (List.of_mem_zip (show (y.1, y.2) ∈ ps.zip vals from hy)).1)) (fun g L' h₁ FG F' N' B' st hlt => ?_) (fun x hx => by simpa using List.all_eq_true.mp hcell x hx) hco hgen LT.kind
  rw [frm_binds ps vals rest (List.nodup_append.mp LT.dup).1 hlen] at F'
  exact h LT GT g L' h₁ _ FG F' (X.keeps st) N' (T.keeps st) B' st hlt
end
theorem exc_find_init (w : World) : findIn (Mine.hd.heap_39 w.params) (.ref 51) "__init__" = some (some (.ref 48)) := by k_is
theorem exc_find_set (w : World) : findIn (Mine.hd.heap_39 w.params) (.ref 51) "__setattr__" = some (some (.builtin "object.__setattr__")) := by k_is
theorem exc_find_ga (w : World) : findIn (Mine.hd.heap_39 w.params) (.ref 51) "__getattribute__" = some (some (.builtin "BaseException.__getattribute__")) := by k_is
theorem exc_find_gt (w : World) : findIn (Mine.hd.heap_39 w.params) (.ref 51) "__getattr__" = some none := by k_is
theorem exc_find_msg (w : World) : findIn (Mine.hd.heap_39 w.params) (.ref 51) (Str.ofString "message") = some none := by k_is
theorem exc_mro (w : World) : mroIn (Mine.hd.heap_39 w.params) 51 (.type "BaseException") = some true := by k_is
theorem exc_cls (w : World) : ∃ cd, clsIn (Mine.hd.heap_39 w.params) 51 = some cd ∧ cd.hasDict = true ∧ cd.mro = [.ref 51, .ref 31, .type "Exception", .type "BaseException", .type "object"] := by
  exact ⟨_, rfl, rfl, rfl⟩
theorem exc_obj (w : World) : ∃ nm q bs sn sub ab col dd k0 k1 k2 k3 k5, (Mine.hd.heap_39 w.params).lookup 51 = some (excClassObj nm q 51 50 bs [.ref 31, .type "Exception", .type "BaseException", .type "object"] true sn sub ab col dd k0 k1 k2 k3 k5 "Exception.__new__") := by
  exact ⟨_, _, _, _, _, _, _, _, _, _, _, _, _, rfl⟩
theorem raise_51 {w : World} {A : Around} {E : Value → Shared → Prop} {s : Shared} {env : Env} {e₀ : PySem.Expr} {pos : Pos} {Q : Flow → Shared → Prop} (hh : A.handled = none)
    (h : wpAny (model PR w) A (eval e₀ env) (fun v s₁ => ∃ e tt D, v = .ref e ∧ (Mine.hd.heap_39 w.params).In s₁.heap ∧ s₁.heap.get? e = some (excAt 51 tt (some D)) ∧ E (.ref e) s₁) E s) :
    wpAny (model PR w) A (exec (.Raise (some e₀) none pos) env) Q E s := by
  obtain ⟨nm, q, bs, sn, sub, ab, col, dd, k0, k1, k2, k3, k5, ho⟩ := exc_obj w
  exact raise_own (by decide) hh (wpAny_mono h (fun v s₁ ⟨e, tt, D, h1, h2, h3, h4⟩ => ⟨e, tt, D, h1, h2 _ _ ho, h3, h4⟩) fun _ _ x => x)
theorem exc_ns (w : World) {h : Heap} (X : (Mine.hd.heap_39 w.params).In h) : ∃ mN : Str → Option Value, h.Ns 50 mN ∧ mN "__init__" = some (.ref 48) := by
  obtain ⟨o, es, n, ho, hd, hk, hf⟩ : ∃ o es n, (Mine.hd.heap_39 w.params).lookup 50 = some o ∧ o.data = .dict es n ∧ StrKeys es ∧ nsFind es "__init__" = some (.ref 48) := ⟨_, _, _, rfl, rfl, by intro e he; simp at he; rcases he with rfl | rfl | rfl | rfl | rfl <;> exact ⟨_, _, rfl⟩, by first | rfl | kernel_rfl | (simp [nsFind, Value.isStr]; done)⟩
  exact ⟨nsFind es, ⟨o, es, n, X _ _ ho, hd, hk, fun _ => rfl⟩, hf⟩
theorem exc_tail (w : World) {h : Heap} (X : (Mine.hd.heap_39 w.params).In h) : OwnTail h [.type "Exception", .type "BaseException", .type "object"] [.ref 31, .type "Exception", .type "BaseException", .type "object"] := by
  obtain ⟨c0, dd, cd, sl, o, es, n, hA, ho, hd, hk, hf⟩ : ∃ c0 dd cd sl o es n, (Mine.hd.heap_39 w.params).lookup 31 = some { cls := c0, dict := dd, data := .cls cd, slots := sl } ∧ (Mine.hd.heap_39 w.params).lookup cd.ns = some o ∧ o.data = .dict es n ∧ StrKeys es ∧ nsFind es "__init__" = none := ⟨_, _, _, _, _, _, _, rfl, rfl, rfl, by intro e he; simp at he; rcases he with rfl | rfl | rfl | rfl | rfl <;> exact ⟨_, _, rfl⟩, by first | rfl | kernel_rfl | (simp [nsFind, Value.isStr]; done)⟩
  exact .own (X _ _ hA) ⟨o, es, n, X _ _ ho, hd, hk, fun _ => rfl⟩ hf .base
end SX4
section SX5
theorem frames_mem {cn : Str} {cs : Scope} {L a b : Addr} {cd : Value} {cl : List (Str × Addr)} {outer : List Env} (hm : b ∈ (envX cn cs L a cd cl :: outer).filterMap (·.frame)) : b = L ∨ b ∈ outer.filterMap (·.frame) := by
  obtain ⟨env, he, hf⟩ := List.mem_filterMap.mp hm
  rcases List.mem_cons.mp he with rfl | he
  · exact .inl (Option.some.inj hf).symm
  · exact .inr (List.mem_filterMap.mpr ⟨env, he, hf⟩)
theorem exc_setN {w : World} {A : Around} {E : Value → Shared → Prop} {h₀ h : Heap} {L e tt : Addr} {m : Str → Option Value} {ge : Array GenState} {dr : Drawn} {tk : Nat} {os : OsState} {own : Led} {v : Value} {Q : Unit → Shared → Prop}
    (F : Fr h₀ L h m) (X : (Mine.hd.heap_39 w.params).In h₀) (N : News h₀ L h ((e, excAt 51 tt none) :: own)) (off : ∀ p ∈ own, p.1 ≠ e)
    (q : ∀ h' D, Fr h₀ L h' m → News h₀ L h' ((e, excAt 51 tt (some D)) :: (D, dictOf [⟨PyData.keyHash w.params (Str.ofString "message"), .str (Str.ofString "message") (tk + 1), v⟩] 1) :: own) → D ≠ e → (∀ p ∈ own, p.1 ≠ D) → Q () ⟨h', ge, dr, tk + 2, os⟩) :
    wpAny (model PR w) A (setAttr (.ref e) (Str.ofString "message") v) Q E ⟨h, ge, dr, tk, os⟩ := by
  obtain ⟨cd, c1, c2, c3⟩ := exc_cls w
  have zE := N _ List.mem_cons_self
  refine exc_set (s := ⟨h, ge, dr, tk, os⟩) (X.keeps F.keep) zE.1 (exc_find_set w) c1 c2 c3 (exc_find_msg w) fun h' D hD hx hne hd hk => ?_
  have hD0 : h₀.get? D = none := by
    cases z : h₀.get? D with
    | none => rfl
    | some o => have := F.keep _ _ z; rw [show h.get? D = none from hD] at this; cases this
  obtain ⟨oL, es, ep, hL, r⟩ := F.ns
  have hL' := hk L oL (Ne.symm zE.2.1) hL
  refine q h' D ⟨⟨oL, es, ep, hL', r⟩, fun b o z => hk b o (fun y => by rw [y, zE.2.2] at z; cases z) (F.keep b o z), F.above⟩ (fun p hp => ?_) hne (fun p hp y => ?_)
  · rcases List.mem_cons.mp hp with rfl | hp
    · exact ⟨hx, zE.2⟩
    · rcases List.mem_cons.mp hp with rfl | hp
      · exact ⟨hd, (fun y => by rw [show D = L from y, hL] at hD; cases hD), hD0⟩
      · have z := N p (List.mem_cons_of_mem _ hp)
        exact ⟨hk _ _ (off p hp) z.1, z.2⟩
  · have z := (N p (List.mem_cons_of_mem _ hp)).1
    rw [y] at z
    rw [show h.get? D = none from hD] at z
    cases z
theorem t_exc_init (w : World) (mean : ExcName → Option Value) (mg mb : Str → Option Value) (own : Led) (e tt : Addr) (msg : Value) (off : ∀ p ∈ own, p.1 ≠ e) :
    Tell w mean mg mb 2 48 [.ref e, msg] ((e, excAt 51 tt none) :: own) (fun r news' => r = .none ∧ ∃ D tk, news' = (e, excAt 51 tt (some D)) :: (D, dictOf [⟨PyData.keyHash w.params (Str.ofString "message"), .str (Str.ofString "message") tk, msg⟩] 1) :: own ∧ D ≠ e ∧ (∀ p ∈ own, p.1 ≠ D)) := by
  refine' TellC.tell ?_
  refine' tellC_of [Str.ofString "self", Str.ofString "message"] [.ref e, msg] [] [] ?ho ?hcd ?hb rfl ?hl ?hg ?hc ?h1 ?h2 ?R
  case ho => k_dflt k_is
  case hcd => k_dflt k_is
  case hb => exact fun _ _ _ _ => BindsTo.of_eq rfl
  case hl => kernel_rfl!
  case hg => kernel_rfl!
  case hc => kernel_rfl!
  case h1 => rfl
  case h2 => rfl
  intro LT GT dp un gd outer A₀ base g L s B F X N T hd hu
  simp only [List.map, List.cons_append, List.nil_append, List.append_nil] at F LT
  obtain ⟨hp, ge, dr, tk, os⟩ := s
  k_extra "SK"
  refine' exc_setN ?F ?X ?N off ?_
  case F => k_asm
  case X => k_asm
  case N => k_asm
  intro h' D F' N' d1 d2
  k_extra "SK"
  · refine' RunEnd.intro ?zf1 ?zn1 ?zp1
    case zf1 => k_asm
    case zn1 => k_asm
    case zp1 => exact ⟨rfl, _, _, rfl, d1, d2⟩
theorem new_Refusal (w : World) (mean : ExcName → Option Value) (mg mb : Str → Option Value) (own : Led) (msg : Value) :
    Tell w mean mg mb 4 51 [msg] own (fun r news' => ∃ e tt D tk, r = .ref e ∧ news' = (e, excAt 51 tt (some D)) :: (D, dictOf [⟨PyData.keyHash w.params (Str.ofString "message"), .str (Str.ofString "message") tk, msg⟩] 1) :: own ∧ D ≠ e ∧ (∀ p ∈ own, p.1 ≠ D) ∧ (∀ p ∈ own, p.1 ≠ e)) := by
  intro dp un gd cn cs a ccd cl outer A₀ base h₀ L m s Q E B F X N T hkf hd hu hret
  obtain ⟨hp, ge, dr, tk, os⟩ := s
  have hX := X.keeps F.keep
  obtain ⟨nm, q, bs, sn, sub, ab, col, dd, k0, k1, k2, k3, k5, ho⟩ := exc_obj w
  obtain ⟨mN, hn, hi⟩ := exc_ns w hX
  obtain ⟨of, hof, hfc⟩ : ∃ o, (Mine.hd.heap_39 w.params).lookup 48 = some o ∧ o.cls = .type "function" := ⟨_, rfl, rfl⟩
  refine exc_make PySem.F.excBase_Exception (exc_tail w hX) (hX _ _ ho) hn hi (hX _ _ hof) hfc (Nat.le_of_ble_eq_true rfl) fun h' e tt hk he0 ht0 hne he ht => ?_
  have off : ∀ p ∈ own, p.1 ≠ e := fun p hp y => by
    have z := (N p hp).1
    rw [y, he0] at z; cases z
  have hE0 : h₀.get? e = none := by
    cases z : h₀.get? e with
    | none => rfl
    | some o => have := F.keep _ _ z; rw [he0] at this; cases this
  have N' : News h₀ L h' ((e, excAt 51 tt none) :: own) := fun p hp => by
    rcases List.mem_cons.mp hp with rfl | hp
    · exact ⟨he, (fun y => by obtain ⟨oL, _, _, hL, _⟩ := F.ns; rw [show e = L from y] at he0; rw [hL] at he0; cases he0), hE0⟩
    · exact ⟨hk _ _ (N p hp).1, (N p hp).2⟩
  rw [under_make]
  refine t_exc_init w mean mg mb own e tt msg off (dp + 1) (un + 1) gd cn cs a ccd cl outer A₀ base h₀ L m ⟨h', ge, dr, tk, os⟩ _ E B (F.keeps hk) X N' T hkf (by k_extra "OM") (by k_extra "OM") fun r news' h₂ tk' F₂ N₂ p => ?_
  obtain ⟨rfl, D, tk2, rfl, d1, d2⟩ := p
  exact ⟨rfl, hret _ _ _ _ F₂ N₂ ⟨e, tt, D, tk2, rfl, rfl, d1, d2, off⟩⟩

theorem reg_x5_1 : True := by
  k_with "kpt_turns" => (((with_reducible refine' raise_51 ?zqhhr ?_); (case zqhhr => rfl)))
  trivial
theorem t_miss_w (w : World) (mean : ExcName → Option Value) (mg mb : Str → Option Value) (own : Led) (e : Addr) (nm : Str) (tn : Tok) (kvs : List (Str × Value)) (he : EnvAt w own e kvs) (hv : valueAt kvs nm = none)
    {dp un : Nat} {gd : Option (List Code)} {cn : Str} {cs : Scope} {a : Addr} {ccd : Value} {cl : List (Str × Addr)} {outer : List Env} {A₀ : Around} {base h₀ : Heap} {L : Addr} {m : Str → Option Value} {s : Shared} {Q E : Value → Shared → Prop}
    (B : Below A₀ base outer h₀) (F : Fr h₀ L s.heap m) (X : (Mine.hd.heap_39 w.params).In h₀) (N : News h₀ L s.heap own) (T : Top VW LO mean mg mb h₀) (hkf : cs.kind = .function) (hd : dp + 8 < recursionLimit) (hu : un + 64 < cLine)
    (hE : ∀ h' tk g Bs x D t1 t2, Fr h₀ L g m → h₀.StaysIn g → g.UpToSlots h' → FlyD Bs (envX cn cs L a ccd cl :: outer) x (.ref 51) (some D) .none h' → (∀ b o, g.get? b = some o → b ∉ (envX cn cs L a ccd cl :: outer).filterMap (·.frame) → Bs.get? b = some o) →
      (∀ p ∈ (D, dictOf [⟨PyData.keyHash w.params (Str.ofString "message"), .str (Str.ofString "message") t1, .str (Str.ofString "'missing' can only be used for arguments") t2⟩] 1) :: own, Bs.get? p.1 = some p.2 ∧ g.get? p.1 = none) → E (.ref x) { s with heap := h', toks := tk }) :
    wpAny (model PR w) (ktrTop dp un gd cn cs L a ccd cl outer) (call (.ref 436) [.none, .str nm tn, .ref e]) Q E s := by
  obtain ⟨s1, s2, s3, s4, s5, s6, s7, w1, w2, w3, w4, f, w6, w7, fo, he, hf, hfo, lo⟩ := he
  have h0 := t_lookup w mean mg mb own e f fo kvs nm tn s1 s2 s3 s4 s5 s6 s7 w1 w2 w3 w4 w6 w7 he hf hfo lo
  rw [hv] at h0
  refine wpAny_call ?_
  refine' codeX_of [Str.ofString "interp", Str.ofString "name", Str.ofString "env"] [.none, .str nm tn, .ref e] [Str.ofString "bound"] [Str.ofString "lookup_here", Str.ofString "Refusal", Str.ofString "is_default", Str.ofString "len"] ?ho ?hcd ?hb rfl ?hl ?hg ?hc ?h1 ?h2 B F X N T hkf (by k_extra "OM") ?R
  case ho => k_dflt k_is
  case hcd => k_dflt k_is
  case hb => exact fun _ _ _ _ => BindsTo.of_eq rfl
  case hl => kernel_rfl!
  case hg => kernel_rfl!
  case hc => kernel_rfl!
  case h1 => rfl
  case h2 => rfl
  intro LT GT g L2 h₁ tk FG F2 X2 N2 T2 B2 st hlt
  simp only [List.map, List.cons_append, List.nil_append, List.append_nil] at F2 LT
  obtain ⟨hp, ge, dr, tk0, os⟩ := s
  k_extra "SK"
  refine' Tell.use h0 ?B ?F ?X ?N ?sub ?T ?hk ?hd ?hu ?ret
  case B => k_asm
  case F => k_asm
  case X => k_asm
  case N => k_asm
  case sub => exact subRefl
  case T => k_asm
  case hk => rfl
  case hd => k_extra "OM"
  case hu => k_extra "OM"
  case ret =>
  rintro r' news' h' tk' F' N' ⟨rfl, e0⟩
  replace e0 := e0.symm
  subst e0
  dsimp only [Option.getD]
  k_extra "SK"
  refine' Tell.use (new_Refusal w mean mg mb own _) ?B ?F ?X ?N ?sub ?T ?hk ?hd ?hu ?ret
  case B => k_asm
  case F => k_asm
  case X => k_asm
  case N => k_asm
  case sub => exact subRefl
  case T => k_asm
  case hk => rfl
  case hd => k_extra "OM"
  case hu => k_extra "OM"
  case ret =>
  rintro r' news' h' tk' F' N' ⟨x, tt, D, tk2, rfl, rfl, d1, d2, d3⟩
  k_sweep
  have zX := N' _ List.mem_cons_self
  have K' := pushX B2 F' (env := envX (Str.ofString "missing_argument") _ L2 436 (.ref 435) []) rfl LT.kind
  refine ⟨x, tt, D, rfl, X2.keeps F'.keep, zX.1, ?_⟩
  refine leaveD (base := hideAll h' (x :: List.filterMap (·.frame) (_ :: envX cn cs L a ccd cl :: outer))) (L := L2) rfl
    (funFrames_hide K'.frames fun env he b hb => List.mem_cons_of_mem _ (List.mem_filterMap.mpr ⟨env, he, hb⟩)) rfl zX.1 (fun b o z => of_hideAll _ z) (hideAll_none _ List.mem_cons_self) rfl rfl fun h2 y1 y2 => ?_
  refine hE h2 tk' g _ x D tk2 _ FG st ((Heap.UpToSlots.of_keeps F'.keep).trans y2) y1 (fun b o z nm => hideAll_get _ (F'.keep b o z) fun hm => ?_) fun p hp => ⟨hideAll_get _ (N' p (List.mem_cons_of_mem _ hp)).1 fun hm => ?_, (N' p (List.mem_cons_of_mem _ hp)).2.2⟩
  · rcases List.mem_cons.mp hm with rfl | hm
    · rw [zX.2.2] at z; cases z
    · rcases frames_mem hm with rfl | hm
      · rw [kts_self F'] at z; cases z
      · exact nm hm
  · have zP := N' p (List.mem_cons_of_mem _ hp)
    rcases List.mem_cons.mp hm with e | hm
    · rcases List.mem_cons.mp hp with rfl | hp
      · exact d1 e
      · exact d3 p hp e
    · rcases frames_mem hm with e | hm
      · exact zP.2.1 e
      · obtain ⟨o, ho, _⟩ := (B2.frames.mem hm).2
        rw [zP.2.2] at ho; cases ho
end SX5
section SX6
noncomputable def Tell0 (w : World) (mean : ExcName → Option Value) (mg mb : Str → Option Value) (n : Nat) (f : Addr) (vs : List Value) (news : Led) (Post : Value → Led → Prop) : Prop :=
  ∀ (dp un : Nat) (gd : Option (List Code)) (cn : Str) (cs : Scope) (a : Addr) (ccd : Value) (cl : List (Str × Addr)) (A₀ : Around) (base h₀ : Heap) (L : Addr) (m : Str → Option Value) (s : Shared) (Q E : Value → Shared → Prop),
    Below A₀ base [] h₀ → Fr h₀ L s.heap m → (Mine.hd.heap_39 w.params).In h₀ → News h₀ L s.heap news → Top VW LO mean mg mb h₀ → cs.kind = .function → dp + n < recursionLimit → un + 8 * n < cLine →
    (∀ r news' h' tk', Fr h₀ L h' m → News h₀ L h' news' → Post r news' → Q r { s with heap := h', toks := tk' }) →
    wpAny (model PR w) (ktrTop dp un gd cn cs L a ccd cl []) (call (.ref f) vs) Q E s
section
variable {w : World} {mean : ExcName → Option Value} {mg mb : Str → Option Value} {f : Addr} {vs : List Value} {news : Led}
theorem codeY_of {name qual : Str} {params : Arguments} {body : List Stmt} {scope : Scope} {dV kV doc pm cdv ct oc : Value} {an od : Option Addr} {osl : Array (Option Value)} (ps : List Str) (vals : List Value) (rest gs : List Str)
    (ho : (Mine.hd.heap_39 w.params).lookup f = some ⟨oc, od, .func (fnX name qual params body scope [] dV kV doc pm an cdv ct), osl⟩) (hcd : codeIn (Mine.hd.heap_39 w.params) cdv qual = true)
    (hbind : ∀ h : Heap, (Mine.hd.heap_39 w.params).In h → ∀ s : Shared, s.heap = h → BindsTo s (fnX name qual params body scope [] dV kV doc pm an cdv ct) ⟨vs, []⟩ (ps.zip vals))
    (hlen : ps.length = vals.length) (hloc : locTab scope (ps ++ rest) = true) (hglob : globTab scope gs = true)
    (hcell : (scope.names.all fun x => x.2 != .cell) = true) (hco : scope.isCoroutine = false) (hgen : scope.isGenerator = false)
    {dp un : Nat} {gd : Option (List Code)} {cn : Str} {cs : Scope} {a : Addr} {ccd : Value} {cl : List (Str × Addr)} {outer : List Env} {A₀ : Around} {base h₀ : Heap} {L : Addr} {m : Str → Option Value} {s : Shared} {R : Result → Shared → Prop}
    (B : Below A₀ base outer h₀) (F : Fr h₀ L s.heap m) (X : (Mine.hd.heap_39 w.params).In h₀) (N : News h₀ L s.heap news) (T : Top VW LO mean mg mb h₀) (hkf : cs.kind = .function) (hd : dp < recursionLimit)
    (h : LocTab scope (ps ++ rest) → GlobTab scope gs → ∀ g L' h₁ tk, Fr h₀ L g m → Fr g L' h₁ (frm (ps ++ rest) (vals.map some ++ rest.map fun _ => none)) → News g L' h₁ news → Below (ktrTop dp un gd cn cs L a ccd cl outer) base (envX cn cs L a ccd cl :: outer) g → h₀.StaysIn g →
      wpAny (model PR w) (ktrTop (dp + 1) (un + 3) gd qual scope L' f cdv [] (envX cn cs L a ccd cl :: outer)) (execs body (envX qual scope L' f cdv []))
        (fun fl s' => R (.ok (.ret (match fl with | .ret v => v | _ => .none))) s')
        (fun e s' => wpAny (model PR w) (ktrTop (dp + 1) (un + 3) gd qual scope L' f cdv [] (envX cn cs L a ccd cl :: outer)) (leaving (envX qual scope L' f cdv []) e) (fun _ s'' => R (.error e) s'') (fun e' s'' => R (.error e') s'') s')
        ⟨h₁, s.gens, s.drawn, tk, s.os⟩) :
    codeAny (model PR w) (ktrTop dp un gd cn cs L a ccd cl outer) (.call (.ref f) ⟨vs, []⟩) R s := by
  have LT := LocTab.of hloc
  have GT := GlobTab.of hglob
  have hX := X.keeps F.keep
  obtain ⟨FG, BG, st, _⟩ := groundX (R := R) (A := ktrTop dp un gd cn cs L a ccd cl outer) B F N rfl rfl hkf
  refine codeAny_call_def (fd := fnX name qual params body scope [] dV kV doc pm an cdv ct) (body := body) (binds := ps.zip vals) hd (hX _ _ ho) rfl (T.nolimit.keeps F.keep) (codeRec_of hX hcd) rfl (hbind _ hX s rfl) (fun x hx => by simpa using List.all_eq_true.mp hcell x hx)
    (fun y hy => LT.loc y.1 (List.mem_append_left _ (List.of_mem_zip (show (y.1, y.2) ∈ ps.zip vals from hy)).1)) (fun h₁ hns hk₁ => ?_) hco hgen LT.kind
  rw [frm_binds ps vals rest (List.nodup_append.mp LT.dup).1 hlen] at hns
  exact h LT GT _ s.heap.objs.size h₁ _ FG ⟨hns, fun b o e => hk₁ b o (of_hideAll _ e), Nat.le_of_eq (hideAll_size _ _)⟩
    (fun p hp => ⟨hk₁ _ _ (N p hp).1, Nat.ne_of_lt (Heap.lt_size (N p hp).1), hideAll_none _ (List.mem_map_of_mem hp)⟩) BG st
end
theorem t_is_missing_w (w : World) (mean : ExcName → Option Value) (mg mb : Str → Option Value) (own : Led) (e : Addr) (nm : Str) (tn : Tok) (kvs : List (Str × Value)) (he : EnvAt w own e kvs) (hv : valueAt kvs nm = none) :
    Tell0 w mean mg mb 12 476 [.ref e, .str nm tn] own (fun r news' => ∃ t, r = .str (Str.ofString "'missing' can only be used for arguments") t ∧ news' = own) := by
  intro dp un gd cn cs a ccd cl A₀ base h₀ L m s Q E B F X N T hkf hd hu hret
  refine wpAny_call ?_
  refine' codeY_of [Str.ofString "env", Str.ofString "name"] [.ref e, .str nm tn] [Str.ofString "refusal"] [Str.ofString "missing_argument", Str.ofString "Refusal"] ?ho ?hcd ?hb rfl ?hl ?hg ?hc ?h1 ?h2 B F X N T hkf (by k_extra "OM") ?R
  case ho => k_dflt k_is
  case hcd => k_dflt k_is
  case hb => exact fun _ _ _ _ => BindsTo.of_eq rfl
  case hl => kernel_rfl!
  case hg => kernel_rfl!
  case hc => kernel_rfl!
  case h1 => rfl
  case h2 => rfl
  intro LT GT g1 L1 h₁ tk FG F1 N1 B1 st
  simp only [List.map, List.cons_append, List.nil_append, List.append_nil] at F1 LT
  have X1 := X.keeps st
  have T1 := T.keeps st
  obtain ⟨hp, ge, dr, tk0, os⟩ := s
  refine wpAny_execs_cons (wpAny_Try_except ?_)
  k_extra "S0"
  refine' t_miss_w w mean mg mb own e nm tn kvs he hv B1 ?F X1 ?N T1 LT.kind (by k_extra "OM") (by k_extra "OM") ?_
  case F => k_asm
  case N => k_asm
  intro h2 tk2 g Bs x D t1 t2 FG2 st2 us fly hBG hown
  have hL1 : Bs.get? L1 = none := by
    obtain ⟨_, ⟨L', _, hf, hn', _⟩, _⟩ := fly.2.2.1
    obtain rfl : L1 = L' := Option.some.inj hf
    exact hn'
  have nL : h₀.get? L = none := kts_self F
  have stay : ∀ {g'}, KtsTurn (List.filterMap (·.frame) [envX cn cs L a ccd cl]) g1 g' → h₀.StaysIn g' := fun {g'} T' b o z => T'.other b o (st b o z) (fun hm => by
    rcases frames_mem hm with rfl | hm
    · rw [nL] at z; cases z
    · cases hm)
  refine noteOnD (L := L1) rfl rfl fly fun h4 fly4 u4 => flightD fly4 fun h5 fly5 u5 => ?_
  have us5 := (us.trans u4).trans u5
  obtain ⟨g5, T5, F5, K5⟩ := kts_ground B1 FG2 hBG fly5.1 us5
  have X5 := X.keeps (stay T5)
  have P5 := T.keeps (stay T5)
  obtain ⟨oe, _, _, _, _, hoe, hoc, _⟩ := fly5.2.2.2
  obtain ⟨nm', q', bs, sn, sub, ab, col, dd, k0, k1, k2, k3, k5, ho⟩ := exc_obj w
  refine wpAny_handleBy_cons (codeAny_handlers_test ?_) (by intro q; cases q)
  k_extra "S0"
  refine wpAny_excMatches_sub_self (X5.keeps F5.keep _ _ ho) hoe hoc (by decide) (codeAny_handlers_suite_as ?_)
  refine flightD fly5 fun h6 fly6 u6 => ?_
  have us6 := us5.trans u6
  obtain ⟨g6, T6, F6, K6⟩ := kts_ground B1 FG2 hBG fly6.1 us6
  have X6 := X.keeps (stay T6)
  have P6 := T.keeps (stay T6)
  obtain ⟨ox, vx, _, _, _, hox, hocl, hod, hof, _⟩ := fly6.2.2.2
  have gx : g6.get? x = none := T6.none_ _ (by
    cases z : g1.get? x with
    | none => rfl
    | some o =>
      have z2 := hBG x o (FG2.keep x o z) fun hm => by
        rcases frames_mem hm with rfl | hm
        · rw [kts_self FG2] at z; cases z
        · obtain ⟨_, o', ho', hd'⟩ := B1.frames.mem hm
          rw [z] at ho'
          cases ho'
          obtain ⟨sl, hs⟩ := us6 _ _ (FG2.keep _ _ z) hd'
          rw [hox] at hs
          cases hs
          exact hd' _ hof
      rw [fly6.2.1] at z2; cases z2)
  have xL : x ≠ L1 := fun y => by
    obtain ⟨oL, es, ep, hL, hLd, _⟩ := F6.ns
    rw [← y, hox] at hL
    cases hL
    rw [hof] at hLd; cases hLd
  have N6 : News g6 L1 h6 ((x, ox) :: (D, dictOf [⟨PyData.keyHash w.params (Str.ofString "message"), .str (Str.ofString "message") t1, .str (Str.ofString "'missing' can only be used for arguments") t2⟩] 1) :: own) := fun p hp => by
    rcases List.mem_cons.mp hp with rfl | hp
    · exact ⟨hox, xL, gx⟩
    · have z := hown p hp
      exact ⟨fly6.1 _ _ z.1, (fun y => by rw [y, hL1] at z; cases z.1), T6.none_ _ (kts_none FG2.keep z.2)⟩
  refine' st_S LT F6 N6 ?hp ?_
  case hp => k_extra "ktr_rel"
  intro h7 F7 N7
  k_extra "S0"
  have I7 : InstAt h7 x ox 51 (some (dictOf [⟨PyData.keyHash w.params (Str.ofString "message"), .str (Str.ofString "message") t1, .str (Str.ofString "'missing' can only be used for arguments") t2⟩] 1)) :=
    ⟨(N7 _ List.mem_cons_self).1, hocl, by unfold notCls; rw [hof], by rw [hod]; exact (N7 _ (List.mem_cons_of_mem _ List.mem_cons_self)).1⟩
  refine exc_get (v := .str (Str.ofString "'missing' can only be used for arguments") t2) (s := ⟨h7, ge, dr, _, os⟩) (X6.keeps F7.keep) I7 (exc_find_ga w) (exc_find_gt w) (exc_mro w) (findObj_own (by k_is) (exc_find_msg w) rfl (by rw [lookIn_dict]; simp [getL, Value.isStr])) rfl ?_
  refine name_goes_keeps F7 N7 (fun h8 v8 F8 N8 => ?_) LT.kind (LT.loc _ (by simp))
  refine hret _ own h8 _ ⟨?_, fun b o z => F8.keep b o (stay T6 b o z), F.above⟩ (fun p hp => ⟨(N8 p (List.mem_cons_of_mem _ (List.mem_cons_of_mem _ hp))).1, (N p hp).2⟩) ⟨t2, rfl, rfl⟩
  obtain ⟨oL, es, ep, hL, r⟩ := FG.ns
  obtain ⟨sl, hs⟩ := T6.up hL
  exact ⟨_, es, ep, F8.keep _ _ hs, r⟩
theorem t_is_missing (w : World) (mean : ExcName → Option Value) (mg mb : Str → Option Value) (own : Led) (e b : Addr) (nm : Str) (tn : Tok) (kvs : List (Str × Value)) (r : Bool) (he : EnvAt w own e kvs) (hv : valueAt kvs nm = some (.ref b)) (hm : Miss w own e b r) :
    Tell w mean mg mb 9 476 [.ref e, .str nm tn] own (fun r' news' => r' = .bool r ∧ news' = own) := by
  refine' TellC.tell ?_
  refine' tellC_of [Str.ofString "env", Str.ofString "name"] [.ref e, .str nm tn] [Str.ofString "refusal"] [Str.ofString "missing_argument", Str.ofString "Refusal"] ?ho ?hcd ?hb rfl ?hl ?hg ?hc ?h1 ?h2 ?R
  case ho => k_dflt k_is
  case hcd => k_dflt k_is
  case hb => exact fun _ _ _ _ => BindsTo.of_eq rfl
  case hl => kernel_rfl!
  case hg => kernel_rfl!
  case hc => kernel_rfl!
  case h1 => rfl
  case h2 => rfl
  intro LT GT dp un gd outer A₀ base g L s B F X N T hd hu
  simp only [List.map, List.cons_append, List.nil_append, List.append_nil] at F LT
  obtain ⟨hp, ge, dr, tk, os⟩ := s
  refine wpAny_execs_cons (wpAny_Try_except ?_)
  k_extra "S0"
  · refine' RunEnd.intro ?zf1 ?zn1 ?zp1
    case zf1 => k_asm
    case zn1 => k_asm
    case zp1 => exact ⟨rfl, rfl⟩
end SX6

theorem reg_macros_x6 : True := by
  k_with "kpc_turns" => (((with_reducible show wpAny _ _ (call (Value.ref 476) _) _ _ _); (with_reducible refine' Tell.use (t_is_missing _ _ _ _ _ _ _ _ _ _ _ ?zqz11 ?zqz12 ?zqz13) ?zqB ?zqF ?zqX ?zqN ?zqsub ?zqT ?zqhk ?zqhd ?zqhu ?_); (case zqB => k_asm); (case zqF => k_asm); (case zqX => k_asm); (case zqN => k_asm); (case zqsub => exact subRefl); (case zqT => k_asm); (case zqhk => rfl); (case zqhd => first | exact lim (by assumption) rfl | k_extra "OM"); (case zqhu => first | exact lim (by assumption) rfl | k_extra "OM"); (case zqz11 => assumption); (case zqz12 => assumption); (case zqz13 => assumption); intro zqr' zqnews' zqh' zqtk' zqF' zqN' zqpo0'; (refine sp2 zqpo0' ?_); clear zqpo0'; intro zqe1 zqe2; subst zqe1; subst zqe2; (try k_sweep)))
  trivial
section SN0
noncomputable def LawFn (w : World) (body : List Stmt) (scope : Scope) (cdv : Value) : Prop :=
  ∃ oc od osl name qual params dV kV doc pm an ct, (Mine.hd.heap_39 w.params).lookup 481 = some ⟨oc, od, .func (fnX name qual params body scope [] dV kV doc pm an cdv ct), osl⟩
noncomputable def hdS : List Stmt → Stmt
  | s :: _ => s
  | [] => .Pass default
noncomputable def bodS : Stmt → List Stmt
  | .For _ _ b _ _ => b
  | _ => []
noncomputable def ksLaw : List Str := [Str.ofString "script", Str.ofString "envs", Str.ofString "due", Str.ofString "before", Str.ofString "level", Str.ofString "defaults", Str.ofString "kinds", Str.ofString "args", Str.ofString "at", Str.ofString "extras", Str.ofString "figure", Str.ofString "env", Str.ofString "formals", Str.ofString "closure", Str.ofString "row", Str.ofString "step", Str.ofString "name"]
theorem pullU (w : World) (mean : ExcName → Option Value) (mg mb : Str → Option Value) (W R : Addr) (news : Led) (gW : Obj → Led) (a k : Int) (ta tk tm : Tok) (n nR : Nat) (vs : List Value) (ns : List Int) (most : Int)
   (hU : UpdF W (listOf #[.int a ta, .ref R, .int k tk] n) news gW) (hR : (R, listOf vs.toArray nR) ∈ news) (hne : @Ne Nat R W) (hi : IntsAre vs ns) (h1 : 0 < ns.length) (h2 : ns.length ≤ 40) (ha : 0 ≤ a) (ha' : a < 10^70) (hk : 0 ≤ k) (hk' : k ≤ 1000) (hm : 1 ≤ most) (hm' : most ≤ 20) :
   Tell w mean mg mb 2 443 [.ref W, .int most tm] news
    (fun r news' => ∃ d t a' ta' k' tk', r = .int d t ∧ 0 ≤ d ∧ d < most ∧ 0 ≤ a' ∧ a' < 10^70 ∧ k ≤ k' ∧ k' ≤ k+1 ∧ news' = gW (listOf #[.int a' ta', .ref R, .int k' tk'] n)) := by
  intro dp un gd cn cs aa cd cl outer A₀ base h₀ L m s Q E B F X N T hkf hd hu hret
  obtain ⟨pre, post, rfl, hg, o1, o2⟩ := hU.split
  have hoff : OwnOff (pre ++ post) [W] := fun p hp b hb => by
    rw [List.mem_singleton.mp hb]
    rcases List.mem_append.mp hp with hp | hp
    · exact o1 p hp
    · exact o2 p hp
  have hR' : (R, listOf vs.toArray nR) ∈ pre ++ post := by
    rcases List.mem_append.mp hR with hR | hR
    · exact List.mem_append_left _ hR
    · rcases List.mem_cons.mp hR with e | hR
      · exact absurd (congrArg Prod.fst e) hne
      · exact List.mem_append_right _ hR
  refine pull0 w mean mg mb W R (pre ++ post) a k ta tk tm n nR vs ns most hoff hR' hi h1 h2 ha ha' hk hk' hm hm' dp un gd cn cs aa cd cl outer A₀ base h₀ L m s Q E B F X (fun p hp => N p ?_) T hkf hd hu fun r news' h' tk2 F' N' ⟨d, t, a', ta', k', tk', e1, e2, e3, e4, e5, e6, e7, e8⟩ => ?_
  · rcases List.mem_cons.mp hp with rfl | hp
    · simp
    · rcases List.mem_append.mp hp with hp | hp
      · exact List.mem_append_left _ hp
      · exact List.mem_append_right _ (List.mem_cons_of_mem _ hp)
  · subst e8
    refine hret r _ h' tk2 F' (fun p hp => ?_) ⟨d, t, a', ta', k', tk', e1, e2, e3, e4, e5, e6, e7, rfl⟩
    rw [hg] at hp
    rcases List.mem_append.mp hp with hp | hp
    · exact N' p (List.mem_cons_of_mem _ (List.mem_append_left _ hp))
    · rcases List.mem_cons.mp hp with rfl | hp
      · exact N' _ List.mem_cons_self
      · exact N' p (List.mem_cons_of_mem _ (List.mem_append_right _ hp))
noncomputable def gsLaw : List Str := [Str.ofString "list", Str.ofString "range", Str.ofString "_law_pull", Str.ofString "min", Str.ofString "_law_argument", Str.ofString "whole", Str.ofString "symbol", Str.ofString "Environment", Str.ofString "_law_default", Str.ofString "Closure", Str.ofString "missing", Str.ofString "null", Str.ofString "bind_formals", Str.ofString "sorted", Str.ofString "_law_dots", Str.ofString "_law_binding", Str.ofString "len", Str.ofString "_law_is_missing"]
theorem law_tab {w : World} {bd : List Stmt} {scope : Scope} {cdv : Value} (hL : LawFn w bd scope cdv) : LocTab scope ksLaw ∧ GlobTab scope gsLaw := by
  obtain ⟨oc', od', osl', name', qual', params', dV', kV', doc', pm', an', ct', ho'⟩ := hL
  rw [show (Mine.hd.heap_39 w.params).lookup 481 = some _ from rfl] at ho'
  cases ho'
  exact ⟨LocTab.of (by kernel_rfl!), GlobTab.of (by kernel_rfl!)⟩
noncomputable def Grown (hs : List Addr) (R R' : Led) : Prop := (∀ p ∈ R, p ∈ R') ∧ ∀ p ∈ R', p ∈ R ∨ ((∀ a ∈ hs, @Ne Nat p.1 a) ∧ ∀ q ∈ R, @Ne Nat p.1 q.1)
theorem Grown.refl {hs : List Addr} {R : Led} : Grown hs R R := ⟨fun _ h => h, fun _ h => .inl h⟩
theorem Grown.cons {hs : List Addr} {R R' : Led} {x : Addr} {o : Obj} (h : Grown hs R R') (h1 : ∀ a ∈ hs, @Ne Nat x a) (h2 : ∀ q ∈ R, @Ne Nat x q.1) : Grown hs R ((x, o) :: R') :=
  ⟨fun p hp => List.mem_cons_of_mem _ (h.1 p hp), fun p hp => by
    rcases List.mem_cons.mp hp with rfl | hp
    · exact .inr ⟨h1, h2⟩
    · exact h.2 p hp⟩
theorem off1_of' {D : Addr} : ∀ {l : Led}, (∀ p ∈ l, p.1 ≠ D) → LCg.Off1 D l
  | [], _ => trivial
  | _ :: _, h => ⟨h _ List.mem_cons_self, off1_of' fun p hp => h p (List.mem_cons_of_mem _ hp)⟩
theorem min2 {w : World} {A : Around} {E : Value → Shared → Prop} {h₀ h : Heap} {L : Addr} {m : Str → Option Value} {ge : Array GenState} {dr : Drawn} {tk : Nat} {os : OsState} {news : Led} {x : Int} {t u : Tok} {Q : Value → Shared → Prop}
    (hh : A.handled = none) (F : Fr h₀ L h m) (N : News h₀ L h news) (h0 : 0 ≤ x) (q : ∀ h' tk d t', Fr h₀ L h' m → News h₀ L h' news → 0 ≤ d → d ≤ 2 → Q (.int d t') ⟨h', ge, dr, tk, os⟩) :
    wpAny (model PR w) A (call (.builtin "min") [.int x t, .int 2 u]) Q E ⟨h, ge, dr, tk, os⟩ := by
  refine PySem.min_two_ints (s := ⟨h, ge, dr, tk, os⟩) hh fun h' tk' hk => ?_
  have F' := F.keeps hk
  have N' : News h₀ L h' news := fun p hp => ⟨hk _ _ (N p hp).1, (N p hp).2⟩
  split
  · exact q h' tk' 2 u F' N' (by decide) (by decide)
  · exact q h' tk' x t F' N' h0 (by k_extra "OM")
theorem app_lst {w : World} {A : Around} {E : Value → Shared → Prop} {h₀ h : Heap} {L D : Addr} {m : Str → Option Value} {ge : Array GenState} {dr : Drawn} {tk n : Nat} {os : OsState} {news news' : Led} {ys : List Value} {x : Value} {Q : Value → Shared → Prop}
    (F : Fr h₀ L h m) (N : News h₀ L h news) (U : Upd D (listOf ys.toArray n) (listOf (ys ++ [x]).toArray (n + 1)) news news') (hz : ys.length ≤ 1000)
    (q : ∀ h', Fr h₀ L h' m → News h₀ L h' news' → Q .none ⟨h', ge, dr, tk, os⟩) : wpAny (model PR w) A (call (.builtin "list.append") [.ref D, x]) Q E ⟨h, ge, dr, tk, os⟩ := by
  rw [show (ys ++ [x]).toArray = ys.toArray.push x by simp] at U
  exact append_K (s := ⟨h, ge, dr, tk, os⟩) F N U (fun h' F' N' => q h' F' N') (by rw [List.size_toArray, sizeLine_eq]; omega)
theorem d_getI {w : World} {A : Around} {E : Value → Shared → Prop} {h₀ h : Heap} {L d : Addr} {ge : Array GenState} {dr : Drawn} {tk : Nat} {os : OsState} {news : Led} {o : Obj} {kvs : List (Str × Value)} {k : Str} {t : Tok} {v : Value} {Q : Value → Shared → Prop}
    (N : News h₀ L h news) (hp : (d, o) ∈ news) (hd : o.IsDictOf (strKind PR w) kvs) (hl : valueAt kvs k = some v) (q : Q v ⟨h, ge, dr, tk + 1, os⟩) : wpAny (model PR w) A (getItem (.ref d) (.str k t)) Q E ⟨h, ge, dr, tk, os⟩ :=
  wpAny_getItem_of (knd := strKind PR w) (s := ⟨h, ge, dr, tk, os⟩) (strKind_is _ _ _ _) (kda_dict N hp hd).mapOf hl q
end SN0

theorem reg_macros_n0 : True := by
  k_with "kpc_turns" => (((with_reducible show wpAny _ _ (call (Value.ref 443) _) _ _ _); (with_reducible refine' Tell.use (pullU _ _ _ _ _ _ _ _ _ _ _ _ _ _ _ _ _ _ ?zqz18 ?zqz19 ?zqz20 ?zqz21 ?zqz22 ?zqz23 ?zqz24 ?zqz25 ?zqz26 ?zqz27 ?zqz28 ?zqz29) ?zqB ?zqF ?zqX ?zqN ?zqsub ?zqT ?zqhk ?zqhd ?zqhu ?_); (case zqB => k_asm); (case zqF => k_asm); (case zqX => k_asm); (case zqN => k_asm); (case zqsub => exact subRefl); (case zqT => k_asm); (case zqhk => rfl); (case zqhd => first | exact lim (by assumption) rfl | k_extra "OM"); (case zqhu => first | exact lim (by assumption) rfl | k_extra "OM"); (case zqz18 => k_updF); (case zqz19 => k_mem); (case zqz20 => assumption); (case zqz21 => assumption); (case zqz22 => assumption); (case zqz23 => assumption); (case zqz24 => first | assumption | k_extra "OM"); (case zqz25 => first | assumption | k_extra "OM"); (case zqz26 => first | assumption | k_extra "OM"); (case zqz27 => k_extra "OM"); (case zqz28 => first | decide | k_extra "OM"); (case zqz29 => first | decide | k_extra "OM"); intro zqr' zqnews' zqh' zqtk' zqF' zqN' zqpo0'; (refine ex6 zqpo0' ?_); clear zqpo0'; intro zqd' zqt' zqa' zqta' zqk' zqtk2' zqpo0'; (refine sp8 zqpo0' ?_); clear zqpo0'; intro zqe1 zqp1 zqp2 zqp3 zqp4 zqp5 zqp6 zqe2; subst zqe1; subst zqe2; (try dsimp only at zqN'); (try k_sweep)))
  k_with "lsm_bools" => (first
  | ((with_reducible refine' min2 ?zqhh ?zqF ?zqN ?zqh0 ?_); (case zqhh => rfl); (case zqF => k_asm); (case zqN => k_asm); (case zqh0 => first | assumption | k_extra "OM"); intro zqh' zqtk2' zqd' zqt' zqF' zqN' zqp1 zqp2; (try k_sweep)))
  k_with "lsm_bools" => (first
  | ((with_reducible refine' app_lst ?zqF ?zqN ?zqU ?zqhz ?_); (case zqF => k_asm); (case zqN => k_asm); (case zqU => k_upd); (case zqhz => k_extra "OM"); intro zqh' zqF' zqN'; (try k_sweep)))
  k_with "kat_tups" => (first
  | ((with_reducible refine' d_getI ?zqN ?zqhp ?zqhd ?zqhl ?_); (case zqN => k_asm); (case zqhp => k_mem); (case zqhd => assumption); (case zqhl => assumption)))
  trivial
section SS1
theorem seg1 (w : World) (mean : ExcName → Option Value) (mg mb : Str → Option Value) {W R E Dd : Addr} {eo do_ : Obj} {a k : Int} {ta tk0 : Tok} {nW nR : Nat} {vr : List Value} {ns : List Int} {Rest : Led} {v0 v1 v2 v3 v4 v5 v6 v7 v8 v9 v10 v11 v12 v13 v14 v15 v16 : Option Value}
    {scope : Scope} {cdv : Value} {bd : List Stmt} (hL : LawFn w bd scope cdv) {dp un : Nat} {gd : Option (List Code)} {A₀ : Around} {base g : Heap} {L cc : Addr} {oc : Obj} {ge : Array GenState} {dr : Drawn} {tk : Nat} {os : OsState} {h : Heap} {Q : Flow → Shared → Prop}
    (B : Below A₀ base [] g) (F : Fr g L h (frm ksLaw [v0, v1, v2, v3, v4, v5, v6, v7, v8, v9, v10, v11, v12, v13, v14, v15, v16])) (X : (Mine.hd.heap_39 w.params).In g) (N : News g L h ((W, listOf #[.int a ta, .ref R, .int k tk0] nW) :: (cc, oc) :: (E, eo) :: (Dd, do_) :: Rest)) (T : Top VW LO mean mg mb g) (hd : dp + 40 < recursionLimit) (hu : un + 400 < cLine) (hoc : oc.data = .cell (some (.ref W)))
    (hW : LCg.Off1 W ((cc, oc) :: (E, eo) :: (Dd, do_) :: Rest)) (hR : (R, listOf vr.toArray nR) ∈ Rest) (hRW : @Ne Nat R W) (hi : IntsAre vr ns) (hn1 : 0 < ns.length) (hn2 : ns.length ≤ 40) (ha : 0 ≤ a) (ha' : a < 10^70) (hk : 0 ≤ k) (hk' : k ≤ 900)
    (hb : v3 = some .none ∨ ∃ b, v3 = some (.ref b)) {rest : List Stmt}
    (kont : ∀ h tk Df Kn (d0 d1 k0 k1 a k' : Int) (ta tk0 t0 t1 t2 t3 : Tok) (nd nk : Nat), Fr g L h (frm ksLaw [v0, v1, v2, v3, v4, some (.ref Df), some (.ref Kn), v7, v8, v9, v10, v11, v12, v13, v14, v15, v16]) → News g L h ((W, listOf #[.int a ta, .ref R, .int k' tk0] nW) :: (cc, oc) :: (E, eo) :: (Dd, do_) :: (Df, listOf [.int d0 t0, .int d1 t1].toArray nd) :: (Kn, listOf [.int k0 t2, .int k1 t3].toArray nk) :: Rest) →
      Grown [W, cc, E, Dd] Rest ((Df, listOf [.int d0 t0, .int d1 t1].toArray nd) :: (Kn, listOf [.int k0 t2, .int k1 t3].toArray nk) :: Rest) → 0 ≤ d0 → d0 < 4 → 0 ≤ d1 → d1 < 4 → 0 ≤ k0 → k0 < 6 → 0 ≤ k1 → k1 < 6 → (v3 = some .none → k0 ≤ 2 ∧ k1 ≤ 2) → 0 ≤ a → a < 10^70 → 0 ≤ k' → k' ≤ k + 4 →
      wpAny (model PR w) (ktrTop dp un gd (Str.ofString "law") scope L 481 cdv [(Str.ofString "well", cc)] []) (execs (rest) (envX (Str.ofString "law") scope L 481 cdv [(Str.ofString "well", cc)])) Q (fun _ _ => False) ⟨h, ge, dr, tk, os⟩) :
    wpAny (model PR w) (ktrTop dp un gd (Str.ofString "law") scope L 481 cdv [(Str.ofString "well", cc)] []) (execs (hdS (bodS (hdS bd.tail.tail.tail.tail)) :: hdS (bodS (hdS bd.tail.tail.tail.tail)).tail :: hdS (bodS (hdS bd.tail.tail.tail.tail)).tail.tail :: rest) (envX (Str.ofString "law") scope L 481 cdv [(Str.ofString "well", cc)])) Q (fun _ _ => False) ⟨h, ge, dr, tk, os⟩ := by
  obtain ⟨LT, GT⟩ := law_tab hL
  obtain ⟨oc', od', osl', name', qual', params', dV', kV', doc', pm', an', ct', ho'⟩ := hL
  rw [show (Mine.hd.heap_39 w.params).lookup 481 = some _ from rfl] at ho'
  cases ho'
  unfold ksLaw at F LT
  unfold gsLaw at GT
  dsimp only [hdS, bodS, List.tail_cons]
  k_extra "SK"
  rcases hb with rfl | ⟨b, rfl⟩
  · k_extra "SK"
    refine' kont _ _ _ _ _ _ _ _ _ _ _ _ _ _ _ _ _ _ ?kfa ?kna ?kga ?c1a ?c2a ?c3a ?c4a ?c5a ?c6a ?c7a ?c8a ?c9a ?c10a ?c11a ?c12a ?c13a
    case kfa => k_asm
    case kna => (refine' newsSub ?kN ?ks; (case kN => k_asm); (case ks => repeat' (first | (with_reducible exact subRefl) | (with_reducible exact subNil) | (with_reducible refine' subCons (by repeat (first | (with_reducible exact List.mem_cons_self) | (with_reducible refine' memTail ?_))) ?_) | (with_reducible refine' subTail ?_))))
    case kga => repeat (first | exact Grown.refl | refine Grown.cons ?_ (by simp only [List.forall_mem_cons]; exact ⟨Nat.ne_of_gt (ltN (by first | (with_reducible assumption) | (with_reducible exact ltr (by with_reducible assumption) (by with_reducible assumption)) | k_extra "OM")), Nat.ne_of_gt (ltN (by first | (with_reducible assumption) | (with_reducible exact ltr (by with_reducible assumption) (by with_reducible assumption)) | k_extra "OM")), Nat.ne_of_gt (ltN (by first | (with_reducible assumption) | (with_reducible exact ltr (by with_reducible assumption) (by with_reducible assumption)) | k_extra "OM")), Nat.ne_of_gt (ltN (by first | (with_reducible assumption) | (with_reducible exact ltr (by with_reducible assumption) (by with_reducible assumption)) | k_extra "OM")), fun _ h => nomatch h⟩) (fun q hq => Nat.ne_of_gt (ktn_ltOf (by assumption) q hq)))
    all_goals first | assumption | omega | (intro e; exact ⟨by assumption, by assumption⟩) | (intro e; cases e)
  · k_extra "SK"
    refine' kont _ _ _ _ _ _ _ _ _ _ _ _ _ _ _ _ _ _ ?kfb ?knb ?kgb ?c1b ?c2b ?c3b ?c4b ?c5b ?c6b ?c7b ?c8b ?c9b ?c10b ?c11b ?c12b ?c13b
    case kfb => k_asm
    case knb => (refine' newsSub ?kN ?ks; (case kN => k_asm); (case ks => repeat' (first | (with_reducible exact subRefl) | (with_reducible exact subNil) | (with_reducible refine' subCons (by repeat (first | (with_reducible exact List.mem_cons_self) | (with_reducible refine' memTail ?_))) ?_) | (with_reducible refine' subTail ?_))))
    case kgb => repeat (first | exact Grown.refl | refine Grown.cons ?_ (by simp only [List.forall_mem_cons]; exact ⟨Nat.ne_of_gt (ltN (by first | (with_reducible assumption) | (with_reducible exact ltr (by with_reducible assumption) (by with_reducible assumption)) | k_extra "OM")), Nat.ne_of_gt (ltN (by first | (with_reducible assumption) | (with_reducible exact ltr (by with_reducible assumption) (by with_reducible assumption)) | k_extra "OM")), Nat.ne_of_gt (ltN (by first | (with_reducible assumption) | (with_reducible exact ltr (by with_reducible assumption) (by with_reducible assumption)) | k_extra "OM")), Nat.ne_of_gt (ltN (by first | (with_reducible assumption) | (with_reducible exact ltr (by with_reducible assumption) (by with_reducible assumption)) | k_extra "OM")), fun _ h => nomatch h⟩) (fun q hq => Nat.ne_of_gt (ktn_ltOf (by assumption) q hq)))
    all_goals first | assumption | omega | (intro e; exact ⟨by assumption, by assumption⟩) | (intro e; cases e)
end SS1
section SN1B
theorem xy_ne : xyN 0 ≠ xyN 1 := by decide +kernel
noncomputable def A2 (w : World) (A0 A1 TP : Led) (av : List Value) (c : Nat) (tg : Nat → Str) (vl : Nat → Value) (k0 k1 f0 f1 : Int) (vb : Value) : Prop :=
  ArgsAre TP av c tg vl ∧ c ≤ 2 ∧ (∀ p, p < c → tg p = xyN 0 ∨ tg p = xyN 1) ∧ (∀ (i : Int) p q, p < c → q < c → tg p = xyN i → tg q = xyN i → p = q) ∧
    ((k0 = 0 ∧ ∀ p, p < c → tg p ≠ xyN 0) ∨ (0 < k0 ∧ (∃ p, p < c ∧ tg p = xyN 0) ∧ ∃ va, (∀ p, p < c → tg p = xyN 0 → vl p = .ref va) ∧ ArgOk w A0 va k0 f0 vb)) ∧
    ((k1 = 0 ∧ ∀ p, p < c → tg p ≠ xyN 1) ∨ (0 < k1 ∧ (∃ p, p < c ∧ tg p = xyN 1) ∧ ∃ va, (∀ p, p < c → tg p = xyN 1 → vl p = .ref va) ∧ ArgOk w A1 va k1 f1 vb))
theorem A2.none_ {w : World} {k0 k1 f0 f1 : Int} {vb : Value} (h0 : k0 = 0) (h1 : k1 = 0) : A2 w [] [] [] [] 0 (fun _ => xyN 0) (fun _ => .none) k0 k1 f0 f1 vb :=
  ⟨⟨rfl, fun p hp => absurd hp (Nat.not_lt_zero _)⟩, by k_extra "OM", fun p hp => absurd hp (Nat.not_lt_zero _), fun _ p _ hp => absurd hp (Nat.not_lt_zero _), .inl ⟨h0, fun p hp => absurd hp (Nat.not_lt_zero _)⟩, .inl ⟨h1, fun p hp => absurd hp (Nat.not_lt_zero _)⟩⟩
theorem A2.y {w : World} {A1 : Led} {t x : Addr} {s : Tok} {k0 k1 f0 f1 : Int} {vb : Value} (h0 : k0 = 0) (h1 : 0 < k1) (h : ArgOk w A1 x k1 f1 vb) :
    A2 w [] A1 [(t, tupOf [.str (xyN 1) s, .ref x])] [.ref t] 1 (fun _ => xyN 1) (fun _ => .ref x) k0 k1 f0 f1 vb :=
  ⟨⟨rfl, fun p hp => ⟨t, s, by obtain rfl : p = 0 := by k_extra "OM"
                               rfl, List.mem_cons_self⟩⟩, by k_extra "OM", fun _ _ => .inr rfl, fun _ p q hp hq _ _ => by k_extra "OM", .inl ⟨h0, fun _ _ e => xy_ne e.symm⟩, .inr ⟨h1, ⟨0, by k_extra "OM", rfl⟩, x, fun _ _ _ => rfl, h⟩⟩
theorem A2.x {w : World} {A0 : Led} {t x : Addr} {s : Tok} {k0 k1 f0 f1 : Int} {vb : Value} (h0 : 0 < k0) (h1 : k1 = 0) (h : ArgOk w A0 x k0 f0 vb) :
    A2 w A0 [] [(t, tupOf [.str (xyN 0) s, .ref x])] [.ref t] 1 (fun _ => xyN 0) (fun _ => .ref x) k0 k1 f0 f1 vb :=
  ⟨⟨rfl, fun p hp => ⟨t, s, by obtain rfl : p = 0 := by k_extra "OM"
                               rfl, List.mem_cons_self⟩⟩, by k_extra "OM", fun _ _ => .inl rfl, fun _ p q hp hq _ _ => by k_extra "OM", .inr ⟨h0, ⟨0, by k_extra "OM", rfl⟩, x, fun _ _ _ => rfl, h⟩, .inl ⟨h1, fun _ _ e => xy_ne e⟩⟩
theorem A2.xy {w : World} {A0 A1 : Led} {t t' x x' : Addr} {s s' : Tok} {k0 k1 f0 f1 : Int} {vb : Value} (h0 : 0 < k0) (h1 : 0 < k1) (h : ArgOk w A0 x k0 f0 vb) (h' : ArgOk w A1 x' k1 f1 vb) :
    A2 w A0 A1 [(t, tupOf [.str (xyN 0) s, .ref x]), (t', tupOf [.str (xyN 1) s', .ref x'])] [.ref t', .ref t] 2 (fun p => if p = 0 then xyN 1 else xyN 0) (fun p => if p = 0 then .ref x' else .ref x) k0 k1 f0 f1 vb := by
  refine ⟨⟨rfl, fun p hp => ?_⟩, by k_extra "OM", fun p _ => ?_, fun i p q hp hq e1 e2 => ?_, .inr ⟨h0, ⟨1, by k_extra "OM", rfl⟩, x, fun p _ e => ?_, h⟩, .inr ⟨h1, ⟨0, by k_extra "OM", rfl⟩, x', fun p _ e => ?_, h'⟩⟩
  · have : p = 0 ∨ p = 1 := by k_extra "OM"
    rcases this with rfl | rfl
    · exact ⟨t', s', rfl, by simp⟩
    · exact ⟨t, s, rfl, by simp⟩
  · dsimp only; split
    · exact .inr rfl
    · exact .inl rfl
  · dsimp only at e1 e2
    split at e1 <;> split at e2 <;> first | omega | exact absurd (e2.trans e1.symm) xy_ne | exact absurd (e1.trans e2.symm) xy_ne
  · dsimp only at e ⊢; split at e
    · exact absurd e.symm xy_ne
    · rename_i q; rw [if_neg q]
  · dsimp only at e ⊢; split at e
    · rename_i q; rw [if_pos q]
    · exact absurd e xy_ne
theorem perm_tl {H tl R : Led} : ∀ p ∈ H ++ (tl ++ R), p ∈ tl ++ (H ++ R) := fun p hp => by
  rcases List.mem_append.mp hp with hp | hp
  · exact List.mem_append_right _ (List.mem_append_left _ hp)
  · rcases List.mem_append.mp hp with hp | hp
    · exact List.mem_append_left _ hp
    · exact List.mem_append_right _ (List.mem_append_right _ hp)
theorem off_fresh {own tl R : Led} {d : Addr} {o : Obj} (h : Fresh own tl) (hd : (d, o) ∈ own) (k : ∀ p ∈ R, p.1 ≠ d) : LCg.Off1 d (tl ++ R) := off1_of fun p hp => by
  rcases List.mem_append.mp hp with hp | hp
  · exact Nat.ne_of_gt (h _ hd p hp)
  · exact k p hp
noncomputable def tgX (c : Nat) (tg : Nat → Str) : Nat → Str := fun p => if p < c then tg p else Str.ofString "zz"
noncomputable def vlX (c : Nat) (vl : Nat → Value) (xs : List Addr) : Nat → Value := fun p => if p < c then vl p else .ref (xs.getD (p - c) 0)
theorem ArgsAre.snoc {own own' : Led} {av : List Value} {c i : Nat} {tg : Nat → Str} {vl : Nat → Value} {xs : List Addr} {t x : Addr} {s : Tok} (h : ArgsAre own av (c + i) (tgX c tg) (vlX c vl xs)) (hl : xs.length = i) (hm : ∀ p ∈ own, p ∈ own') (ht : (t, tupOf [.str (Str.ofString "zz") s, .ref x]) ∈ own') :
    ArgsAre own' (av ++ [.ref t]) (c + (i + 1)) (tgX c tg) (vlX c vl (xs ++ [x])) := by
  refine ⟨by rw [List.length_append, h.1]; rfl, fun p hp => ?_⟩
  by_cases q : p < c + i
  · obtain ⟨a, s', h1, h2⟩ := h.2 p q
    refine ⟨a, s', by rw [List.getElem?_append_left (by rw [h.1]; exact q)]; exact h1, ?_⟩
    have e : vlX c vl (xs ++ [x]) p = vlX c vl xs p := by
      unfold vlX
      split
      · rfl
      · rw [List.getD_eq_getElem?_getD, List.getD_eq_getElem?_getD, List.getElem?_append_left (by k_extra "OM")]
    rw [e]; exact hm _ h2
  · obtain rfl : p = c + i := by k_extra "OM"
    refine ⟨t, s, by rw [List.getElem?_append_right (by rw [h.1]; exact Nat.le_refl _), h.1, Nat.sub_self]; rfl, ?_⟩
    have e1 : tgX c tg (c + i) = Str.ofString "zz" := if_neg (by k_extra "OM")
    have e2 : vlX c vl (xs ++ [x]) (c + i) = .ref x := by
      unfold vlX
      rw [if_neg (by k_extra "OM"), show c + i - c = xs.length by k_extra "OM"]
      simp
    rw [e1, e2]; exact ht
theorem ArgsAre.toX {own own' : Led} {av : List Value} {c : Nat} {tg : Nat → Str} {vl : Nat → Value} (h : ArgsAre own av c tg vl) (hm : ∀ p ∈ own, p ∈ own') : ArgsAre own' av (c + 0) (tgX c tg) (vlX c vl []) :=
  ⟨h.1, fun p hp => by
    obtain ⟨a, s, h1, h2⟩ := h.2 p hp
    refine ⟨a, s, h1, ?_⟩
    have e1 : tgX c tg p = tg p := if_pos hp
    have e2 : vlX c vl [] p = vl p := if_pos hp
    rw [e1, e2]; exact hm _ h2⟩
theorem ints_at : ∀ {ys : List Value} {es : List Int} {i : Nat} {v : Value}, IntsAre ys es → ys[i]? = some v → i < es.length ∧ ∃ t, v = .int (es.getD i 0) t
  | _, _, i, _, .nil, h => by simp at h
  | _, _, 0, _, .cons x t r, h => by
    simp only [List.getElem?_cons_zero, Option.some.injEq] at h
    exact ⟨by simp, t, h.symm⟩
  | _, _, i + 1, _, .cons x t r, h => by
    simp only [List.getElem?_cons_succ] at h
    obtain ⟨h1, t', h2⟩ := ints_at r h
    exact ⟨by simp; exact h1, t', by simpa using h2⟩
theorem ints_len : ∀ {ys : List Value} {es : List Int}, IntsAre ys es → ys.length = es.length
  | _, _, .nil => rfl
  | _, _, .cons _ _ r => by rw [List.length_cons, List.length_cons, ints_len r]
noncomputable def FreT (hs : List Addr) (Ar : Addr) (Rest TL : Led) : Prop := ∀ p ∈ TL, (∀ b ∈ hs, @Ne Nat p.1 b) ∧ (∀ q ∈ Rest, @Ne Nat p.1 q.1) ∧ @Ne Nat p.1 Ar
end SN1B
section SS2
theorem t_law_arg (w : World) (mean : ExcName → Option Value) (mg mb : Str → Option Value) (own : Led) (kind fig : Int) (tk tf : Tok) (vb : Value) (h0 : 1 ≤ kind) (h1 : kind < 6) (hvb : (vb = .none ∧ kind ≤ 2) ∨ ∃ b, vb = .ref b) :
   Tell w mean mg mb 8 457 [.int kind tk, .int fig tf, vb] own (fun r news' => ∃ x tl, r = .ref x ∧ news' = tl ++ own ∧ Fresh own tl ∧ ArgOk w tl x kind fig vb) := by
  rcases hvb with ⟨rfl, h⟩ | ⟨b, rfl⟩
  · exact t_law_argument_n w mean mg mb own kind fig tk tf h0 h
  · exact t_law_argument_r w mean mg mb own kind fig tk tf b h0 h1
theorem perm_s2 {W cc E Dd Ar Lt : Addr × Obj} {A0 A1 TP R : Led} : ∀ p ∈ W :: cc :: E :: Dd :: Ar :: (A0 ++ (A1 ++ (TP ++ R))), p ∈ TP ++ (Lt :: Ar :: W :: cc :: E :: Dd :: (A0 ++ (A1 ++ R))) := by repeat' (first | (with_reducible exact subRefl) | (with_reducible exact subNil) | (with_reducible exact subLeft) | (with_reducible refine' subBoth ?_ ?_) | (refine' subCons (by k_mem) ?_) | (with_reducible refine' subTail ?_) | (with_reducible refine' subApp ?_))
theorem allOff_cons {d : Addr} {x : Addr × Obj} {l : Led} (h : x.1 ≠ d) (k : ∀ p ∈ l, p.1 ≠ d) : ∀ p ∈ x :: l, p.1 ≠ d := fun p hp => by
  rcases List.mem_cons.mp hp with rfl | hp
  · exact h
  · exact k p hp
theorem reg_k_all_s21 : True := by
  k_with "k_all_s21" => (((with_reducible refine' allOff_cons ?zqka ?zqkb); (case zqka => k_ne); (case zqkb => k_all)))
  trivial
local macro_rules | `(tactic| k_all) => `(tactic| k_extra "k_all_s21")
theorem seg2 (w : World) (mean : ExcName → Option Value) (mg mb : Str → Option Value) {W R E Dd Kn : Addr} {eo do_ : Obj} {a k : Int} {ta tk0 : Tok} {nW nk : Nat} {k0 k1 lev : Int} {t2 t3 tl : Tok} {vb : Value} {Rest : Led} {v0 v1 v2 v5 v7 v8 v9 v10 v11 v12 v13 v14 v15 v16 : Option Value}
    {scope : Scope} {cdv : Value} {bd : List Stmt} (hL : LawFn w bd scope cdv) {dp un : Nat} {gd : Option (List Code)} {A₀ : Around} {base g : Heap} {L cc : Addr} {oc : Obj} {ge : Array GenState} {dr : Drawn} {tk : Nat} {os : OsState} {h : Heap} {Q : Flow → Shared → Prop}
    (B : Below A₀ base [] g) (F : Fr g L h (frm ksLaw [v0, v1, v2, some vb, some (.int lev tl), v5, some (.ref Kn), v7, v8, v9, v10, v11, v12, v13, v14, v15, v16])) (X : (Mine.hd.heap_39 w.params).In g) (N : News g L h ((W, listOf #[.int a ta, .ref R, .int k tk0] nW) :: (cc, oc) :: (E, eo) :: (Dd, do_) :: Rest)) (T : Top VW LO mean mg mb g) (hd : dp + 40 < recursionLimit) (hu : un + 400 < cLine) (hoc : oc.data = .cell (some (.ref W)))
    (hK : (Kn, listOf [.int k0 t2, .int k1 t3].toArray nk) ∈ Rest) (hk0 : 0 ≤ k0) (hk0' : k0 < 6) (hk1 : 0 ≤ k1) (hk1' : k1 < 6) (hvb : (vb = .none ∧ k0 ≤ 2 ∧ k1 ≤ 2) ∨ ∃ b, vb = .ref b) (hl0 : 0 ≤ lev) (hl1 : lev < 10) {rest : List Stmt}
    (kont : ∀ h tk Ar (A0 A1 TP : Led) (av : List Value) (na c : Nat) (tg : Nat → Str) (vl : Nat → Value) (vat : Option Value), Fr g L h (frm ksLaw [v0, v1, v2, some vb, some (.int lev tl), v5, some (.ref Kn), some (.ref Ar), vat, v9, v10, v11, v12, v13, v14, v15, v16]) →
      News g L h ((W, listOf #[.int a ta, .ref R, .int k tk0] nW) :: (cc, oc) :: (E, eo) :: (Dd, do_) :: (Ar, listOf av.toArray na) :: (A0 ++ (A1 ++ (TP ++ Rest)))) → A2 w A0 A1 TP av c tg vl k0 k1 (10 * lev + 0) (10 * lev + 1) vb →
      (∀ b ∈ [W, cc, E, Dd], @Ne Nat Ar b) → (∀ q ∈ Rest, @Ne Nat Ar q.1) → (∀ p ∈ A0 ++ (A1 ++ TP), (∀ b ∈ [W, cc, E, Dd], @Ne Nat p.1 b) ∧ (∀ q ∈ Rest, @Ne Nat p.1 q.1) ∧ @Ne Nat p.1 Ar) → (∀ p ∈ A0, ∀ q ∈ A1 ++ TP, @Ne Nat p.1 q.1) → (∀ p ∈ A1, ∀ q ∈ TP, @Ne Nat p.1 q.1) →
      wpAny (model PR w) (ktrTop dp un gd (Str.ofString "law") scope L 481 cdv [(Str.ofString "well", cc)] []) (execs (rest) (envX (Str.ofString "law") scope L 481 cdv [(Str.ofString "well", cc)])) Q (fun _ _ => False) ⟨h, ge, dr, tk, os⟩) :
    wpAny (model PR w) (ktrTop dp un gd (Str.ofString "law") scope L 481 cdv [(Str.ofString "well", cc)] []) (execs (hdS (bodS (hdS bd.tail.tail.tail.tail)).tail.tail.tail :: hdS (bodS (hdS bd.tail.tail.tail.tail)).tail.tail.tail.tail :: rest) (envX (Str.ofString "law") scope L 481 cdv [(Str.ofString "well", cc)])) Q (fun _ _ => False) ⟨h, ge, dr, tk, os⟩ := by
  have hv0 : (vb = .none ∧ k0 ≤ 2) ∨ ∃ b, vb = .ref b := hvb.imp (fun h => ⟨h.1, h.2.1⟩) id
  have hv1 : (vb = .none ∧ k1 ≤ 2) ∨ ∃ b, vb = .ref b := hvb.imp (fun h => ⟨h.1, h.2.2⟩) id
  obtain ⟨LT, GT⟩ := law_tab hL
  obtain ⟨oc', od', osl', name', qual', params', dV', kV', doc', pm', an', ct', ho'⟩ := hL
  rw [show (Mine.hd.heap_39 w.params).lookup 481 = some _ from rfl] at ho'
  cases ho'
  unfold ksLaw at F LT
  unfold gsLaw at GT
  dsimp only [hdS, bodS, List.tail_cons]
  by_cases q1 : k1 = 0
  · by_cases q0 : k0 = 0
    · k_extra "SLK"
      refine' kont _ _ _ [] [] [] _ _ _ _ _ _ ?kfa ?kna (A2.none_ q0 q1) ?z1a ?z2a ?z3a ?z4a ?z5a
      case kfa => k_asm
      case kna => exact newsSub (by k_asm) (perm_s2 (TP := []) (A0 := []) (A1 := []))
      case z1a => simp only [List.forall_mem_cons]; exact ⟨Nat.ne_of_gt (ltN (by first | (with_reducible assumption) | (with_reducible exact ltr (by with_reducible assumption) (by with_reducible assumption)) | k_extra "OM")), Nat.ne_of_gt (ltN (by first | (with_reducible assumption) | (with_reducible exact ltr (by with_reducible assumption) (by with_reducible assumption)) | k_extra "OM")), Nat.ne_of_gt (ltN (by first | (with_reducible assumption) | (with_reducible exact ltr (by with_reducible assumption) (by with_reducible assumption)) | k_extra "OM")), Nat.ne_of_gt (ltN (by first | (with_reducible assumption) | (with_reducible exact ltr (by with_reducible assumption) (by with_reducible assumption)) | k_extra "OM")), fun _ h => nomatch h⟩
      case z2a => exact fun q hq => Nat.ne_of_gt (ktn_ltOf (by assumption) q hq)
      case z3a => exact fun p hp => by simp at hp
      case z4a => exact fun _ h => nomatch h
      case z5a => exact fun _ h => nomatch h
    · k_extra "SLK"
      refine' Tell.use (t_law_arg w mean mg mb _ k0 _ _ _ vb (by k_extra "OM") (by k_extra "OM") hv0) ?Bx1 ?Fx1 ?Xx1 ?Nx1 subRefl ?Tx1 rfl ?hdx1 ?hux1 ?retx1
      case Bx1 => k_asm
      case Fx1 => k_asm
      case Xx1 => k_asm
      case Nx1 => k_asm
      case Tx1 => k_asm
      case hdx1 => k_extra "OM"
      case hux1 => k_extra "OM"
      case retx1 =>
      rintro r' news' h' tk' F' N' ⟨xx1, tlx1, rfl, rfl, frx1, aox1⟩
      k_sweep
      rename News _ _ _ _ => NN
      have NNx1 := newsSub NN (perm_tl (H := [_, _, _, _, _, _, _]) (tl := tlx1) (R := Rest))
      simp only [List.cons_append, List.nil_append] at NNx1
      clear NN
      have hIx1 := off_fresh frx1 List.mem_cons_self (R := Rest) (fun p hp => Nat.ne_of_lt (ktn_ltOf (by assumption) p hp))
      have hAx1 := off_fresh frx1 (List.mem_cons_of_mem _ (List.mem_cons_of_mem _ List.mem_cons_self)) (R := Rest) (fun p hp => Nat.ne_of_lt (ktn_ltOf (by assumption) p hp))
      k_extra "SLK"
      refine' kont _ _ _ tlx1 [] [_] _ _ _ _ _ _ ?kfb ?knb (A2.x (by k_extra "OM") q1 aox1) ?z1b ?z2b ?z3b ?z4b ?z5b
      case kfb => k_asm
      case knb => exact newsSub (by k_asm) (perm_s2 (TP := [_]) (A0 := tlx1) (A1 := []))
      case z1b => simp only [List.forall_mem_cons]; exact ⟨Nat.ne_of_gt (ltN (by first | (with_reducible assumption) | (with_reducible exact ltr (by with_reducible assumption) (by with_reducible assumption)) | k_extra "OM")), Nat.ne_of_gt (ltN (by first | (with_reducible assumption) | (with_reducible exact ltr (by with_reducible assumption) (by with_reducible assumption)) | k_extra "OM")), Nat.ne_of_gt (ltN (by first | (with_reducible assumption) | (with_reducible exact ltr (by with_reducible assumption) (by with_reducible assumption)) | k_extra "OM")), Nat.ne_of_gt (ltN (by first | (with_reducible assumption) | (with_reducible exact ltr (by with_reducible assumption) (by with_reducible assumption)) | k_extra "OM")), fun _ h => nomatch h⟩
      case z2b => exact fun q hq => Nat.ne_of_gt (ktn_ltOf (by assumption) q hq)
      case z3b =>
        intro p hp
        rcases List.mem_append.mp hp with hp | hp
        · have hf := fun q hq => frx1 q hq p hp
          simp only [List.forall_mem_cons] at hf
          obtain ⟨_, _, h3, h4, h5, h6, h7, h8⟩ := hf
          exact ⟨by simp only [List.forall_mem_cons]; exact ⟨Nat.ne_of_gt h4, Nat.ne_of_gt h5, Nat.ne_of_gt h6, Nat.ne_of_gt h7, fun _ h => nomatch h⟩, fun q hq => Nat.ne_of_gt (h8 q hq), Nat.ne_of_gt h3⟩
        · obtain rfl := List.mem_singleton.mp hp
          exact ⟨by simp only [List.forall_mem_cons]; exact ⟨Nat.ne_of_gt (ltN (by first | (with_reducible assumption) | (with_reducible exact ltr (by with_reducible assumption) (by with_reducible assumption)) | k_extra "OM")), Nat.ne_of_gt (ltN (by first | (with_reducible assumption) | (with_reducible exact ltr (by with_reducible assumption) (by with_reducible assumption)) | k_extra "OM")), Nat.ne_of_gt (ltN (by first | (with_reducible assumption) | (with_reducible exact ltr (by with_reducible assumption) (by with_reducible assumption)) | k_extra "OM")), Nat.ne_of_gt (ltN (by first | (with_reducible assumption) | (with_reducible exact ltr (by with_reducible assumption) (by with_reducible assumption)) | k_extra "OM")), fun _ h => nomatch h⟩, fun q hq => Nat.ne_of_gt (ktn_ltOf (by assumption) q (List.mem_append_right _ hq)), Nat.ne_of_gt (ltN (by first | (with_reducible assumption) | (with_reducible exact ltr (by with_reducible assumption) (by with_reducible assumption)) | k_extra "OM"))⟩
      case z4b =>
        intro p hp q hq
        obtain rfl := List.mem_singleton.mp hq
        exact Nat.ne_of_lt (ktn_ltOf (by assumption) p (List.mem_append_left _ hp))
      case z5b => exact fun _ h => nomatch h
  · k_extra "SLK"
    refine' Tell.use (t_law_arg w mean mg mb _ k1 _ _ _ vb (by k_extra "OM") (by k_extra "OM") hv1) ?By1 ?Fy1 ?Xy1 ?Ny1 subRefl ?Ty1 rfl ?hdy1 ?huy1 ?rety1
    case By1 => k_asm
    case Fy1 => k_asm
    case Xy1 => k_asm
    case Ny1 => k_asm
    case Ty1 => k_asm
    case hdy1 => k_extra "OM"
    case huy1 => k_extra "OM"
    case rety1 =>
    rintro r' news' h' tk' F' N' ⟨xy1, tly1, rfl, rfl, fry1, aoy1⟩
    k_sweep
    rename News _ _ _ _ => NN
    have NNy1 := newsSub NN (perm_tl (H := [_, _, _, _, _, _, _]) (tl := tly1) (R := Rest))
    simp only [List.cons_append, List.nil_append] at NNy1
    clear NN
    have hIy1 := off_fresh fry1 List.mem_cons_self (R := Rest) (fun p hp => Nat.ne_of_lt (ktn_ltOf (by assumption) p hp))
    have hAy1 := off_fresh fry1 (List.mem_cons_of_mem _ (List.mem_cons_of_mem _ List.mem_cons_self)) (R := Rest) (fun p hp => Nat.ne_of_lt (ktn_ltOf (by assumption) p hp))
    by_cases q0 : k0 = 0
    · k_extra "SLK"
      refine' kont _ _ _ [] tly1 [_] _ _ _ _ _ _ ?kfc ?knc (A2.y q0 (by k_extra "OM") aoy1) ?z1c ?z2c ?z3c ?z4c ?z5c
      case kfc => k_asm
      case knc => exact newsSub (by k_asm) (perm_s2 (TP := [_]) (A0 := []) (A1 := tly1))
      case z1c => simp only [List.forall_mem_cons]; exact ⟨Nat.ne_of_gt (ltN (by first | (with_reducible assumption) | (with_reducible exact ltr (by with_reducible assumption) (by with_reducible assumption)) | k_extra "OM")), Nat.ne_of_gt (ltN (by first | (with_reducible assumption) | (with_reducible exact ltr (by with_reducible assumption) (by with_reducible assumption)) | k_extra "OM")), Nat.ne_of_gt (ltN (by first | (with_reducible assumption) | (with_reducible exact ltr (by with_reducible assumption) (by with_reducible assumption)) | k_extra "OM")), Nat.ne_of_gt (ltN (by first | (with_reducible assumption) | (with_reducible exact ltr (by with_reducible assumption) (by with_reducible assumption)) | k_extra "OM")), fun _ h => nomatch h⟩
      case z2c => exact fun q hq => Nat.ne_of_gt (ktn_ltOf (by assumption) q hq)
      case z3c =>
        intro p hp
        rcases List.mem_append.mp (show p ∈ tly1 ++ _ from hp) with hp | hp
        · have hf := fun q hq => fry1 q hq p hp
          simp only [List.forall_mem_cons] at hf
          obtain ⟨_, _, h3, h4, h5, h6, h7, h8⟩ := hf
          exact ⟨by simp only [List.forall_mem_cons]; exact ⟨Nat.ne_of_gt h4, Nat.ne_of_gt h5, Nat.ne_of_gt h6, Nat.ne_of_gt h7, fun _ h => nomatch h⟩, fun q hq => Nat.ne_of_gt (h8 q hq), Nat.ne_of_gt h3⟩
        · obtain rfl := List.mem_singleton.mp hp
          exact ⟨by simp only [List.forall_mem_cons]; exact ⟨Nat.ne_of_gt (ltN (by first | (with_reducible assumption) | (with_reducible exact ltr (by with_reducible assumption) (by with_reducible assumption)) | k_extra "OM")), Nat.ne_of_gt (ltN (by first | (with_reducible assumption) | (with_reducible exact ltr (by with_reducible assumption) (by with_reducible assumption)) | k_extra "OM")), Nat.ne_of_gt (ltN (by first | (with_reducible assumption) | (with_reducible exact ltr (by with_reducible assumption) (by with_reducible assumption)) | k_extra "OM")), Nat.ne_of_gt (ltN (by first | (with_reducible assumption) | (with_reducible exact ltr (by with_reducible assumption) (by with_reducible assumption)) | k_extra "OM")), fun _ h => nomatch h⟩, fun q hq => Nat.ne_of_gt (ktn_ltOf (by assumption) q (List.mem_append_right _ hq)), Nat.ne_of_gt (ltN (by first | (with_reducible assumption) | (with_reducible exact ltr (by with_reducible assumption) (by with_reducible assumption)) | k_extra "OM"))⟩
      case z5c =>
        intro p hp q hq
        obtain rfl := List.mem_singleton.mp hq
        exact Nat.ne_of_lt (ktn_ltOf (by assumption) p (List.mem_append_left _ hp))
      case z4c => exact fun _ h => nomatch h
    · k_extra "SLK"
      refine' Tell.use (t_law_arg w mean mg mb _ k0 _ _ _ vb (by k_extra "OM") (by k_extra "OM") hv0) ?Bx2 ?Fx2 ?Xx2 ?Nx2 subRefl ?Tx2 rfl ?hdx2 ?hux2 ?retx2
      case Bx2 => k_asm
      case Fx2 => k_asm
      case Xx2 => k_asm
      case Nx2 => k_asm
      case Tx2 => k_asm
      case hdx2 => k_extra "OM"
      case hux2 => k_extra "OM"
      case retx2 =>
      rintro r' news' h' tk' F' N' ⟨xx2, tlx2, rfl, rfl, frx2, aox2⟩
      k_sweep
      rename News _ _ _ _ => NN
      have NNx2 := newsSub NN (perm_tl (H := [_, _, _, _, _, _, _, _]) (tl := tlx2) (R := (tly1 ++ Rest)))
      simp only [List.cons_append, List.nil_append] at NNx2
      clear NN
      have hIx2 := off_fresh frx2 (List.mem_cons_of_mem _ List.mem_cons_self) (R := (tly1 ++ Rest)) (off1_mem hIy1)
      have hAx2 := off_fresh frx2 (List.mem_cons_of_mem _ (List.mem_cons_of_mem _ (List.mem_cons_of_mem _ List.mem_cons_self))) (R := (tly1 ++ Rest)) (off1_mem hAy1)
      k_extra "SLK"
      refine' kont _ _ _ tlx2 tly1 [_, _] _ _ _ _ _ _ ?kfd ?knd (A2.xy (by k_extra "OM") (by k_extra "OM") aox2 aoy1) ?z1d ?z2d ?z3d ?z4d ?z5d
      case kfd => k_asm
      case knd => exact newsSub (by k_asm) (perm_s2 (TP := [_, _]) (A0 := tlx2) (A1 := tly1))
      case z1d => simp only [List.forall_mem_cons]; exact ⟨Nat.ne_of_gt (ltN (by first | (with_reducible assumption) | (with_reducible exact ltr (by with_reducible assumption) (by with_reducible assumption)) | k_extra "OM")), Nat.ne_of_gt (ltN (by first | (with_reducible assumption) | (with_reducible exact ltr (by with_reducible assumption) (by with_reducible assumption)) | k_extra "OM")), Nat.ne_of_gt (ltN (by first | (with_reducible assumption) | (with_reducible exact ltr (by with_reducible assumption) (by with_reducible assumption)) | k_extra "OM")), Nat.ne_of_gt (ltN (by first | (with_reducible assumption) | (with_reducible exact ltr (by with_reducible assumption) (by with_reducible assumption)) | k_extra "OM")), fun _ h => nomatch h⟩
      case z2d => exact fun q hq => Nat.ne_of_gt (ktn_ltOf (by assumption) q hq)
      case z3d =>
        intro p hp
        rcases List.mem_append.mp hp with hp | hp
        · have hf := fun q hq => frx2 q hq p hp
          simp only [List.forall_mem_cons] at hf
          obtain ⟨_, _, _, h3, h4, h5, h6, h7, h8⟩ := hf
          exact ⟨by simp only [List.forall_mem_cons]; exact ⟨Nat.ne_of_gt h4, Nat.ne_of_gt h5, Nat.ne_of_gt h6, Nat.ne_of_gt h7, fun _ h => nomatch h⟩, fun q hq => Nat.ne_of_gt (h8 q (List.mem_append_right _ hq)), Nat.ne_of_gt h3⟩
        rcases List.mem_append.mp hp with hp | hp
        · have hf := fun q hq => fry1 q hq p hp
          simp only [List.forall_mem_cons] at hf
          obtain ⟨_, _, h3, h4, h5, h6, h7, h8⟩ := hf
          exact ⟨by simp only [List.forall_mem_cons]; exact ⟨Nat.ne_of_gt h4, Nat.ne_of_gt h5, Nat.ne_of_gt h6, Nat.ne_of_gt h7, fun _ h => nomatch h⟩, fun q hq => Nat.ne_of_gt (h8 q hq), Nat.ne_of_gt h3⟩
        rcases List.mem_cons.mp hp with rfl | hp
        · exact ⟨by simp only [List.forall_mem_cons]; exact ⟨Nat.ne_of_gt (ltN (by first | (with_reducible assumption) | (with_reducible exact ltr (by with_reducible assumption) (by with_reducible assumption)) | k_extra "OM")), Nat.ne_of_gt (ltN (by first | (with_reducible assumption) | (with_reducible exact ltr (by with_reducible assumption) (by with_reducible assumption)) | k_extra "OM")), Nat.ne_of_gt (ltN (by first | (with_reducible assumption) | (with_reducible exact ltr (by with_reducible assumption) (by with_reducible assumption)) | k_extra "OM")), Nat.ne_of_gt (ltN (by first | (with_reducible assumption) | (with_reducible exact ltr (by with_reducible assumption) (by with_reducible assumption)) | k_extra "OM")), fun _ h => nomatch h⟩, fun q hq => Nat.ne_of_gt (ktn_ltOf (by assumption) q (List.mem_append_right _ (List.mem_append_right _ hq))), Nat.ne_of_gt (ltN (by first | (with_reducible assumption) | (with_reducible exact ltr (by with_reducible assumption) (by with_reducible assumption)) | k_extra "OM"))⟩
        · obtain rfl := List.mem_singleton.mp hp
          exact ⟨by simp only [List.forall_mem_cons]; exact ⟨Nat.ne_of_gt (ltN (by first | (with_reducible assumption) | (with_reducible exact ltr (by with_reducible assumption) (by with_reducible assumption)) | k_extra "OM")), Nat.ne_of_gt (ltN (by first | (with_reducible assumption) | (with_reducible exact ltr (by with_reducible assumption) (by with_reducible assumption)) | k_extra "OM")), Nat.ne_of_gt (ltN (by first | (with_reducible assumption) | (with_reducible exact ltr (by with_reducible assumption) (by with_reducible assumption)) | k_extra "OM")), Nat.ne_of_gt (ltN (by first | (with_reducible assumption) | (with_reducible exact ltr (by with_reducible assumption) (by with_reducible assumption)) | k_extra "OM")), fun _ h => nomatch h⟩, fun q hq => Nat.ne_of_gt (ktn_ltOf (by assumption) q (List.mem_append_right _ hq)), Nat.ne_of_gt (ltN (by first | (with_reducible assumption) | (with_reducible exact ltr (by with_reducible assumption) (by with_reducible assumption)) | k_extra "OM"))⟩
      case z4d =>
        intro p hp q hq
        have hf := fun q hq => frx2 q hq p hp
        simp only [List.forall_mem_cons] at hf
        rcases List.mem_append.mp hq with hq | hq
        · exact Nat.ne_of_gt (hf.2.2.2.2.2.2.2.2 q (List.mem_append_left _ hq))
        rcases List.mem_cons.mp hq with rfl | hq
        · exact Nat.ne_of_lt (ktn_ltOf (by assumption) p (List.mem_append_left _ hp))
        · obtain rfl := List.mem_singleton.mp hq
          exact Nat.ne_of_gt hf.1
      case z5d =>
        intro p hp q hq
        rcases List.mem_cons.mp hq with rfl | hq
        · exact Nat.ne_of_lt (ktn_ltOf (by assumption) p (List.mem_append_right _ (List.mem_append_left _ hp)))
        · obtain rfl := List.mem_singleton.mp hq
          exact Nat.ne_of_lt (ktn_ltOf (by assumption) p (List.mem_append_left _ hp))
end SS2
section SS3B
theorem xt_snoc {w : World} {own own' : Led} {xs : List Addr} {es : List Int} {i : Nat} {x : Addr} (h : ∀ j, j < i → XtOk w own (xs.getD j 0) (es.getD j 0)) (hl : xs.length = i) (hm : ∀ p ∈ own, p ∈ own') (hx : XtOk w own' x (es.getD i 0)) :
    ∀ j, j < i + 1 → XtOk w own' ((xs ++ [x]).getD j 0) (es.getD j 0) := fun j hj => by
  by_cases q : j < i
  · rw [show (xs ++ [x]).getD j 0 = xs.getD j 0 by rw [List.getD_eq_getElem?_getD, List.getD_eq_getElem?_getD, List.getElem?_append_left (by k_extra "OM")]]
    exact (h j q).mono hm
  · obtain rfl : j = i := by k_extra "OM"
    rw [show (xs ++ [x]).getD j 0 = x by rw [← hl]; simp]
    exact hx
theorem perm_s3 {N4 TL R : Led} {I W cc E Dd Ar : Addr × Obj} : ∀ p ∈ W :: cc :: E :: Dd :: Ar :: ((N4 ++ TL) ++ R), p ∈ N4 ++ (I :: W :: cc :: E :: Dd :: Ar :: (TL ++ R)) := by repeat' (first | (with_reducible exact subRefl) | (with_reducible exact subNil) | (with_reducible exact subLeft) | (with_reducible refine' subBoth ?_ ?_) | (refine' subCons (by k_mem) ?_) | (with_reducible refine' subTail ?_) | (with_reducible refine' subApp ?_))
theorem FreT.app {hs : List Addr} {Ar : Addr} {R TL N4 : Led} (h : FreT hs Ar R TL) (k : FreT hs Ar R N4) : FreT hs Ar R (N4 ++ TL) := fun p hp => by
  rcases List.mem_append.mp hp with hp | hp
  · exact k p hp
  · exact h p hp
theorem FreT.nil {hs : List Addr} {Ar : Addr} {R : Led} : FreT hs Ar R [] := fun _ h => nomatch h
theorem FreT.cons {hs : List Addr} {Ar x : Addr} {o : Obj} {R TL : Led} (h : FreT hs Ar R TL) (h1 : ∀ b ∈ hs, @Ne Nat x b) (h2 : ∀ q ∈ R, @Ne Nat x q.1) (h3 : @Ne Nat x Ar) : FreT hs Ar R ((x, o) :: TL) := fun p hp => by
  rcases List.mem_cons.mp hp with rfl | hp
  · exact ⟨h1, h2, h3⟩
  · exact h p hp
theorem off_s3 {N4 TL R : Led} {W cc E Dd : Addr × Obj} {Ar I : Addr} {o o' : Obj} (h : ∀ p ∈ W :: cc :: E :: Dd :: (Ar, o) :: (TL ++ R), p.1 ≠ I) (k : ∀ p ∈ N4, p.1 ≠ I) : ∀ p ∈ W :: cc :: E :: Dd :: (Ar, o') :: ((N4 ++ TL) ++ R), p.1 ≠ I := by
  intro p hp
  simp only [List.mem_cons, List.mem_append] at hp
  rcases hp with rfl | rfl | rfl | rfl | rfl | (hp | hp) | hp
  · exact h _ (by simp)
  · exact h _ (by simp)
  · exact h _ (by simp)
  · exact h _ (by simp)
  · exact h (Ar, o) (by simp)
  · exact k p hp
  · exact h p (by simp [hp])
  · exact h p (by simp [hp])
inductive S3J (w : World) (S Rest : Led) (W cc E Dd Ar : Addr) (wo oc eo do_ : Obj) (c : Nat) (tg : Nat → Str) (vl : Nat → Value) (es : List Int) (v0 v1 v2 v3 v4 v5 v6 v8 v9 v11 v12 v13 v14 v15 v16 : Option Value) (i : Nat) (vs : List (Option Value)) (news : Led) : Prop
  | mk (v10 : Option Value) (TL : Led) (av' : List Value) (na' : Nat) (xs : List Addr) (c0 : vs = [v0, v1, v2, v3, v4, v5, v6, some (.ref Ar), v8, v9, v10, v11, v12, v13, v14, v15, v16]) (c1 : news = (W, wo) :: (cc, oc) :: (E, eo) :: (Dd, do_) :: (Ar, listOf av'.toArray na') :: (TL ++ Rest))
    (c2 : xs.length = i) (c3 : ArgsAre (TL ++ S) av' (c + i) (tgX c tg) (vlX c vl xs)) (c4 : ∀ j, j < i → XtOk w (TL ++ S) (xs.getD j 0) (es.getD j 0)) (c5 : FreT [W, cc, E, Dd] Ar Rest TL) : S3J w S Rest W cc E Dd Ar wo oc eo do_ c tg vl es v0 v1 v2 v3 v4 v5 v6 v8 v9 v11 v12 v13 v14 v15 v16 i vs news
theorem seg3b (w : World) (mean : ExcName → Option Value) (mg mb : Str → Option Value) {W E Dd Ar Ex : Addr} {wo eo do_ : Obj} {na ne c : Nat} {ys av : List Value} {es : List Int} {tg : Nat → Str} {vl : Nat → Value} {Rest S : Led} {v0 v1 v2 v3 v4 v5 v6 v8 v10 v11 v12 v13 v14 v15 v16 : Option Value}
    {scope : Scope} {cdv : Value} {bd : List Stmt} (hL : LawFn w bd scope cdv) {dp un : Nat} {gd : Option (List Code)} {A₀ : Around} {base g : Heap} {L cc : Addr} {oc : Obj} {ge : Array GenState} {dr : Drawn} {tk : Nat} {os : OsState} {h : Heap} {Q : Flow → Shared → Prop}
    (B : Below A₀ base [] g) (F : Fr g L h (frm ksLaw [v0, v1, v2, v3, v4, v5, v6, some (.ref Ar), v8, some (.ref Ex), v10, v11, v12, v13, v14, v15, v16])) (X : (Mine.hd.heap_39 w.params).In g) (N : News g L h ((W, wo) :: (cc, oc) :: (E, eo) :: (Dd, do_) :: (Ar, listOf av.toArray na) :: Rest)) (T : Top VW LO mean mg mb g) (hd : dp + 40 < recursionLimit) (hu : un + 400 < cLine) (hoc : oc.data = .cell (some (.ref W)))
    (hEx : (Ex, listOf ys.toArray ne) ∈ Rest) (hi : IntsAre ys es) (hle : es.length ≤ 2) (hav : ArgsAre S av c tg vl) (hc : c ≤ 2) (hA1 : @Ne Nat Ar W) (hA2 : @Ne Nat Ar cc) (hA3 : @Ne Nat Ar E) (hA4 : @Ne Nat Ar Dd) (hAR : ∀ p ∈ Rest, @Ne Nat p.1 Ar)
    {rest : List Stmt}
    (kont : ∀ h tk (TL : Led) (av' : List Value) (na' : Nat) (xs : List Addr) (v10 : Option Value), Fr g L h (frm ksLaw [v0, v1, v2, v3, v4, v5, v6, some (.ref Ar), v8, some (.ref Ex), v10, v11, v12, v13, v14, v15, v16]) →
      News g L h ((W, wo) :: (cc, oc) :: (E, eo) :: (Dd, do_) :: (Ar, listOf av'.toArray na') :: (TL ++ Rest)) → xs.length = es.length → ArgsAre (TL ++ S) av' (c + es.length) (tgX c tg) (vlX c vl xs) →
      (∀ j, j < es.length → XtOk w (TL ++ S) (xs.getD j 0) (es.getD j 0)) → FreT [W, cc, E, Dd] Ar Rest TL → wpAny (model PR w) (ktrTop dp un gd (Str.ofString "law") scope L 481 cdv [(Str.ofString "well", cc)] []) (execs (rest) (envX (Str.ofString "law") scope L 481 cdv [(Str.ofString "well", cc)])) Q (fun _ _ => False) ⟨h, ge, dr, tk, os⟩) :
    wpAny (model PR w) (ktrTop dp un gd (Str.ofString "law") scope L 481 cdv [(Str.ofString "well", cc)] []) (execs (hdS (bodS (hdS bd.tail.tail.tail.tail)).tail.tail.tail.tail.tail.tail :: rest) (envX (Str.ofString "law") scope L 481 cdv [(Str.ofString "well", cc)])) Q (fun _ _ => False) ⟨h, ge, dr, tk, os⟩ := by
  have hyl := ints_len hi
  obtain ⟨LT, GT⟩ := law_tab hL
  obtain ⟨oc', od', osl', name', qual', params', dV', kV', doc', pm', an', ct', ho'⟩ := hL
  rw [show (Mine.hd.heap_39 w.params).lookup 481 = some _ from rfl] at ho'
  cases ho'
  unfold ksLaw at F LT
  unfold gsLaw at GT
  dsimp only [hdS, bodS, List.tail_cons]
  k_extra "S0"
  rename Addr => I1
  refine' lst_inv (news := (W, wo) :: (cc, oc) :: (E, eo) :: (Dd, do_) :: (Ar, listOf av.toArray na) :: Rest) ys (S3J w S Rest W cc E Dd Ar wo oc eo do_ c tg vl es v0 v1 v2 v3 v4 v5 v6 v8 (some (.ref Ex)) v11 v12 v13 v14 v15 v16) ?hh LT ?F ?N ?hI ?ho 10 ?hx ?hJ ?start ?step ?fin
  case hh => rfl
  case F => k_asm
  case N => k_asm
  case hI => (first | k_all | fail "k_all")
  case ho => assumption
  case hx => rfl
  case hJ => rintro i vs news ⟨v10, TL, av', na', xs, rfl, rfl, _⟩; exact ⟨rfl, memTail (memTail (memTail (memTail (memTail (memApp hEx)))))⟩
  case start => exact ⟨_, [], _, _, [], rfl, rfl, rfl, hav.toX (fun _ h => h), fun j h => absurd h (Nat.not_lt_zero _), fun _ h => nomatch h⟩
  case fin =>
    rintro vs news h tk ⟨v10, TL, av', na', xs, rfl, rfl, h1, h2, h3, h4⟩ F N
    rw [hyl] at h1 h2 h3
    exact kont _ _ TL av' na' xs v10 F N h1 h2 h3 h4
  case step =>
    rintro i v vs news h tk o hv ⟨v10, TL, av', na', xs, rfl, rfl, h1, h2, h3, h4⟩ F N ho hI
    obtain ⟨hil, t, rfl⟩ := ints_at hi hv
    simp only [List.set_cons_succ, List.set_cons_zero] at F
    have hAT : LCg.Off1 Ar (TL ++ Rest) := off1_of fun p hp => by
      rcases List.mem_append.mp hp with hp | hp
      · exact (h4 p hp).2.2
      · exact hAR p hp
    have hIA : @Ne Nat I1 Ar := Ne.symm (hI (Ar, listOf av'.toArray na') (by simp))
    have hal := h2.1
    by_cases hlt : es.getD i 0 < 50
    · k_extra "S0"
      rename AllLt _ _ => aD
      clear aD
      rename AllLt _ _ => aL
      have bL := ktn_ltOf aL
      refine TurnEnd.mk' ((W, wo) :: (cc, oc) :: (E, eo) :: (Dd, do_) :: (Ar, listOf _ _) :: (([(_, tupOf _), (_, instObj 213 _), (_, dictOf _ _), (_, listOf _ _)] ++ TL) ++ Rest)) (by k_asm) (by k_asm) (by k_mem) perm_s3 (off_s3 hI ?q1) ho ⟨.inl rfl, _, _, _, _, xs ++ [_], rfl, rfl, by rw [List.length_append, h1]; rfl, h2.snoc h1 (fun _ h => memTail (memTail (memTail (memTail (h))))) (List.mem_cons_self), xt_snoc h3 h1 (fun _ h => memTail (memTail (memTail (memTail (h))))) (.inl ⟨hlt, _, _, _, _, _, _, _, _, _, _, ⟨_, _, memTail List.mem_cons_self, memTail (memTail List.mem_cons_self)⟩, memTail (memTail (memTail List.mem_cons_self))⟩), ?q2⟩
      · simp only [List.forall_mem_cons]; exact ⟨Nat.ne_of_gt (ltN (by first | (with_reducible assumption) | (with_reducible exact ltr (by with_reducible assumption) (by with_reducible assumption)) | k_extra "OM")), Nat.ne_of_gt (ltN (by first | (with_reducible assumption) | (with_reducible exact ltr (by with_reducible assumption) (by with_reducible assumption)) | k_extra "OM")), Nat.ne_of_gt (ltN (by first | (with_reducible assumption) | (with_reducible exact ltr (by with_reducible assumption) (by with_reducible assumption)) | k_extra "OM")), Nat.ne_of_gt (ltN (by first | (with_reducible assumption) | (with_reducible exact ltr (by with_reducible assumption) (by with_reducible assumption)) | k_extra "OM")), fun _ h => nomatch h⟩
      · exact h4.app (by refine FreT.cons ?_ (by simp only [List.forall_mem_cons]; exact ⟨Nat.ne_of_gt (ltN (by first | (with_reducible assumption) | (with_reducible exact ltr (by with_reducible assumption) (by with_reducible assumption)) | k_extra "OM")), Nat.ne_of_gt (ltN (by first | (with_reducible assumption) | (with_reducible exact ltr (by with_reducible assumption) (by with_reducible assumption)) | k_extra "OM")), Nat.ne_of_gt (ltN (by first | (with_reducible assumption) | (with_reducible exact ltr (by with_reducible assumption) (by with_reducible assumption)) | k_extra "OM")), Nat.ne_of_gt (ltN (by first | (with_reducible assumption) | (with_reducible exact ltr (by with_reducible assumption) (by with_reducible assumption)) | k_extra "OM")), fun _ h => nomatch h⟩) (fun q hq => Nat.ne_of_gt (Nat.lt_of_lt_of_le (bL q (List.mem_append_right _ hq)) (by k_extra "OM"))) (Nat.ne_of_gt (ltN (by first | (with_reducible assumption) | (with_reducible exact ltr (by with_reducible assumption) (by with_reducible assumption)) | k_extra "OM"))); refine FreT.cons ?_ (by simp only [List.forall_mem_cons]; exact ⟨Nat.ne_of_gt (ltN (by first | (with_reducible assumption) | (with_reducible exact ltr (by with_reducible assumption) (by with_reducible assumption)) | k_extra "OM")), Nat.ne_of_gt (ltN (by first | (with_reducible assumption) | (with_reducible exact ltr (by with_reducible assumption) (by with_reducible assumption)) | k_extra "OM")), Nat.ne_of_gt (ltN (by first | (with_reducible assumption) | (with_reducible exact ltr (by with_reducible assumption) (by with_reducible assumption)) | k_extra "OM")), Nat.ne_of_gt (ltN (by first | (with_reducible assumption) | (with_reducible exact ltr (by with_reducible assumption) (by with_reducible assumption)) | k_extra "OM")), fun _ h => nomatch h⟩) (fun q hq => Nat.ne_of_gt (Nat.lt_of_lt_of_le (bL q (List.mem_append_right _ hq)) (by k_extra "OM"))) (Nat.ne_of_gt (ltN (by first | (with_reducible assumption) | (with_reducible exact ltr (by with_reducible assumption) (by with_reducible assumption)) | k_extra "OM"))); refine FreT.cons ?_ (by simp only [List.forall_mem_cons]; exact ⟨Nat.ne_of_gt (ltN (by first | (with_reducible assumption) | (with_reducible exact ltr (by with_reducible assumption) (by with_reducible assumption)) | k_extra "OM")), Nat.ne_of_gt (ltN (by first | (with_reducible assumption) | (with_reducible exact ltr (by with_reducible assumption) (by with_reducible assumption)) | k_extra "OM")), Nat.ne_of_gt (ltN (by first | (with_reducible assumption) | (with_reducible exact ltr (by with_reducible assumption) (by with_reducible assumption)) | k_extra "OM")), Nat.ne_of_gt (ltN (by first | (with_reducible assumption) | (with_reducible exact ltr (by with_reducible assumption) (by with_reducible assumption)) | k_extra "OM")), fun _ h => nomatch h⟩) (fun q hq => Nat.ne_of_gt (Nat.lt_of_lt_of_le (bL q (List.mem_append_right _ hq)) (by k_extra "OM"))) (Nat.ne_of_gt (ltN (by first | (with_reducible assumption) | (with_reducible exact ltr (by with_reducible assumption) (by with_reducible assumption)) | k_extra "OM"))); refine FreT.cons ?_ (by simp only [List.forall_mem_cons]; exact ⟨Nat.ne_of_gt (ltN (by first | (with_reducible assumption) | (with_reducible exact ltr (by with_reducible assumption) (by with_reducible assumption)) | k_extra "OM")), Nat.ne_of_gt (ltN (by first | (with_reducible assumption) | (with_reducible exact ltr (by with_reducible assumption) (by with_reducible assumption)) | k_extra "OM")), Nat.ne_of_gt (ltN (by first | (with_reducible assumption) | (with_reducible exact ltr (by with_reducible assumption) (by with_reducible assumption)) | k_extra "OM")), Nat.ne_of_gt (ltN (by first | (with_reducible assumption) | (with_reducible exact ltr (by with_reducible assumption) (by with_reducible assumption)) | k_extra "OM")), fun _ h => nomatch h⟩) (fun q hq => Nat.ne_of_gt (Nat.lt_of_lt_of_le (bL q (List.mem_append_right _ hq)) (by k_extra "OM"))) (Nat.ne_of_gt (ltN (by first | (with_reducible assumption) | (with_reducible exact ltr (by with_reducible assumption) (by with_reducible assumption)) | k_extra "OM"))); exact FreT.nil)
    · k_extra "S0"
      rename AllLt _ _ => aD
      clear aD
      rename AllLt _ _ => aL
      have bL := ktn_ltOf aL
      refine TurnEnd.mk' ((W, wo) :: (cc, oc) :: (E, eo) :: (Dd, do_) :: (Ar, listOf _ _) :: (([(_, tupOf _), (_, instObj 234 _), (_, dictOf _ _)] ++ TL) ++ Rest)) (by k_asm) (by k_asm) (by k_mem) perm_s3 (off_s3 hI ?q1b) ho ⟨.inl rfl, _, _, _, _, xs ++ [_], rfl, rfl, by rw [List.length_append, h1]; rfl, h2.snoc h1 (fun _ h => memTail (memTail (memTail (h)))) (List.mem_cons_self), xt_snoc h3 h1 (fun _ h => memTail (memTail (memTail (h)))) (.inr ⟨by k_extra "OM", KindRec.of (co_Symbol w) (ao_Symbol_kind w) kN_Symbol (memTail List.mem_cons_self) (memTail (memTail List.mem_cons_self))⟩), ?q2b⟩
      · simp only [List.forall_mem_cons]; exact ⟨Nat.ne_of_gt (ltN (by first | (with_reducible assumption) | (with_reducible exact ltr (by with_reducible assumption) (by with_reducible assumption)) | k_extra "OM")), Nat.ne_of_gt (ltN (by first | (with_reducible assumption) | (with_reducible exact ltr (by with_reducible assumption) (by with_reducible assumption)) | k_extra "OM")), Nat.ne_of_gt (ltN (by first | (with_reducible assumption) | (with_reducible exact ltr (by with_reducible assumption) (by with_reducible assumption)) | k_extra "OM")), fun _ h => nomatch h⟩
      · exact h4.app (by refine FreT.cons ?_ (by simp only [List.forall_mem_cons]; exact ⟨Nat.ne_of_gt (ltN (by first | (with_reducible assumption) | (with_reducible exact ltr (by with_reducible assumption) (by with_reducible assumption)) | k_extra "OM")), Nat.ne_of_gt (ltN (by first | (with_reducible assumption) | (with_reducible exact ltr (by with_reducible assumption) (by with_reducible assumption)) | k_extra "OM")), Nat.ne_of_gt (ltN (by first | (with_reducible assumption) | (with_reducible exact ltr (by with_reducible assumption) (by with_reducible assumption)) | k_extra "OM")), Nat.ne_of_gt (ltN (by first | (with_reducible assumption) | (with_reducible exact ltr (by with_reducible assumption) (by with_reducible assumption)) | k_extra "OM")), fun _ h => nomatch h⟩) (fun q hq => Nat.ne_of_gt (Nat.lt_of_lt_of_le (bL q (List.mem_append_right _ hq)) (by k_extra "OM"))) (Nat.ne_of_gt (ltN (by first | (with_reducible assumption) | (with_reducible exact ltr (by with_reducible assumption) (by with_reducible assumption)) | k_extra "OM"))); refine FreT.cons ?_ (by simp only [List.forall_mem_cons]; exact ⟨Nat.ne_of_gt (ltN (by first | (with_reducible assumption) | (with_reducible exact ltr (by with_reducible assumption) (by with_reducible assumption)) | k_extra "OM")), Nat.ne_of_gt (ltN (by first | (with_reducible assumption) | (with_reducible exact ltr (by with_reducible assumption) (by with_reducible assumption)) | k_extra "OM")), Nat.ne_of_gt (ltN (by first | (with_reducible assumption) | (with_reducible exact ltr (by with_reducible assumption) (by with_reducible assumption)) | k_extra "OM")), Nat.ne_of_gt (ltN (by first | (with_reducible assumption) | (with_reducible exact ltr (by with_reducible assumption) (by with_reducible assumption)) | k_extra "OM")), fun _ h => nomatch h⟩) (fun q hq => Nat.ne_of_gt (Nat.lt_of_lt_of_le (bL q (List.mem_append_right _ hq)) (by k_extra "OM"))) (Nat.ne_of_gt (ltN (by first | (with_reducible assumption) | (with_reducible exact ltr (by with_reducible assumption) (by with_reducible assumption)) | k_extra "OM"))); refine FreT.cons ?_ (by simp only [List.forall_mem_cons]; exact ⟨Nat.ne_of_gt (ltN (by first | (with_reducible assumption) | (with_reducible exact ltr (by with_reducible assumption) (by with_reducible assumption)) | k_extra "OM")), Nat.ne_of_gt (ltN (by first | (with_reducible assumption) | (with_reducible exact ltr (by with_reducible assumption) (by with_reducible assumption)) | k_extra "OM")), Nat.ne_of_gt (ltN (by first | (with_reducible assumption) | (with_reducible exact ltr (by with_reducible assumption) (by with_reducible assumption)) | k_extra "OM")), Nat.ne_of_gt (ltN (by first | (with_reducible assumption) | (with_reducible exact ltr (by with_reducible assumption) (by with_reducible assumption)) | k_extra "OM")), fun _ h => nomatch h⟩) (fun q hq => Nat.ne_of_gt (Nat.lt_of_lt_of_le (bL q (List.mem_append_right _ hq)) (by k_extra "OM"))) (Nat.ne_of_gt (ltN (by first | (with_reducible assumption) | (with_reducible exact ltr (by with_reducible assumption) (by with_reducible assumption)) | k_extra "OM"))); exact FreT.nil)
end SS3B
section SS4

theorem reg_s4_1 : True := by
  k_with "kpc_turns" => (((with_reducible show wpAny _ _ (call (Value.ref 300) _) _ _ _); (with_reducible refine' Tell.use (new_Environment _ _ _ _ _ _ _) ?zqB ?zqF ?zqX ?zqN ?zqsub ?zqT ?zqhk ?zqhd ?zqhu ?_); (case zqB => k_asm); (case zqF => k_asm); (case zqX => k_asm); (case zqN => k_asm); (case zqsub => exact subRefl); (case zqT => k_asm); (case zqhk => rfl); (case zqhd => first | exact lim (by assumption) rfl | k_extra "OM"); (case zqhu => first | exact lim (by assumption) rfl | k_extra "OM"); intro zqr' zqnews' zqh' zqtk' zqF' zqN' zqpo0'; (refine ex15 zqpo0' ?_); clear zqpo0'; intro zqx' zqdx' zqf' zqk' _ _ _ _ _ _ _ _ _ zqfo' zqko' zqpo0'; (refine sp8 zqpo0' ?_); clear zqpo0'; intro zqe1 zql1 zql2 zql3 zql4 zqlof zqhfo zqe2; subst zqe1; subst zqe2; (try (k_extra "ALl1")); (try k_lt2 zql2); (try k_lt2 zql3); (try k_lt2 zql4); (try k_sweep)))
  trivial
theorem perm_s4 {P1 t1 t0 R : Led} {k f e de W cc E Dd Ar : Addr × Obj} : ∀ p ∈ W :: cc :: E :: Dd :: Ar :: f :: (((P1 ++ [k, e, de]) ++ (t1 ++ t0)) ++ R), p ∈ P1 ++ (k :: f :: e :: de :: W :: cc :: E :: Dd :: Ar :: (t1 ++ (t0 ++ R))) := by repeat' (first | (with_reducible exact subRefl) | (with_reducible exact subNil) | (with_reducible exact subLeft) | (with_reducible refine' subBoth ?_ ?_) | (refine' subCons (by k_mem) ?_) | (with_reducible refine' subTail ?_) | (with_reducible refine' subApp ?_))
theorem fre_of {hs : List Addr} {Ar d : Addr} {R P : Led} (h1 : ∀ b ∈ hs, @_root_.LT.lt Nat _ b d) (h2 : @_root_.LT.lt Nat _ Ar d) (h3 : ∀ q ∈ R, q.1 < d) (h4 : ∀ p ∈ P, @_root_.LE.le Nat _ d p.1) : FreT hs Ar R P := fun p hp =>
  ⟨fun b hb => Nat.ne_of_gt (Nat.lt_of_lt_of_le (h1 b hb) (h4 p hp)), fun q hq => Nat.ne_of_gt (Nat.lt_of_lt_of_le (h3 q hq) (h4 p hp)), Nat.ne_of_gt (Nat.lt_of_lt_of_le h2 (h4 p hp))⟩
theorem allOff_cons4 {d : Addr} {x : Addr × Obj} {l : Led} (h : x.1 ≠ d) (k : ∀ p ∈ l, p.1 ≠ d) : ∀ p ∈ x :: l, p.1 ≠ d := fun p hp => by
  rcases List.mem_cons.mp hp with rfl | hp
  · exact h
  · exact k p hp
theorem reg_k_all_s42 : True := by
  k_with "k_all_s42" => (((with_reducible refine' allOff_cons4 ?zqka ?zqkb); (case zqka => k_ne); (case zqkb => k_all)))
  trivial
local macro_rules | `(tactic| k_all) => `(tactic| k_extra "k_all_s42")
theorem seg4 (w : World) (mean : ExcName → Option Value) (mg mb : Str → Option Value) {W E Dd Ar Df : Addr} {wo eo do_ ao : Obj} {nd : Nat} {d0 d1 lev : Int} {s0 s1 tl : Tok} {Rest : Led} {v0 v1 v2 v3 v6 v7 v8 v9 v10 v11 v12 v13 v14 v15 v16 : Option Value}
    {scope : Scope} {cdv : Value} {bd : List Stmt} (hL : LawFn w bd scope cdv) {dp un : Nat} {gd : Option (List Code)} {A₀ : Around} {base g : Heap} {L cc : Addr} {oc : Obj} {ge : Array GenState} {dr : Drawn} {tk : Nat} {os : OsState} {h : Heap} {Q : Flow → Shared → Prop}
    (B : Below A₀ base [] g) (F : Fr g L h (frm ksLaw [v0, v1, v2, v3, some (.int lev tl), some (.ref Df), v6, v7, v8, v9, v10, v11, v12, v13, v14, v15, v16])) (X : (Mine.hd.heap_39 w.params).In g) (N : News g L h ((W, wo) :: (cc, oc) :: (E, eo) :: (Dd, do_) :: (Ar, ao) :: Rest)) (T : Top VW LO mean mg mb g) (hd : dp + 40 < recursionLimit) (hu : un + 400 < cLine) (hoc : oc.data = .cell (some (.ref W)))
    (hDf : (Df, listOf [.int d0 s0, .int d1 s1].toArray nd) ∈ Rest) (h00 : 0 ≤ d0) (h01 : d0 < 4) (h10 : 0 ≤ d1) (h11 : d1 < 4)
    {rest : List Stmt}
    (kont : ∀ (NT : Led) h tk (e f cl lfm q0 q1 q2 dd0 dd1 dd2 : Addr) (fo : Obj) (nf : Nat) (st0 st1 st2 c1 c2 c3 c4 c5 t1 t2 t3 t4 t5 t6 t7 : Tok) (cv1 cv3 cv4 cv5 w1 w3 w4 w6 w7 : Value) (v8 v12 : Option Value), Fr g L h (frm ksLaw [v0, v1, v2, v3, some (.int lev tl), some (.ref Df), v6, v7, v8, v9, v10, some (.ref e), v12, some (.ref cl), v14, v15, v16]) →
      News g L h ((W, wo) :: (cc, oc) :: (E, eo) :: (Dd, do_) :: (Ar, ao) :: (f, fo) :: (NT ++ Rest)) → Rec w NT cl 278 ksClosure [(c1, cv1), (c2, .ref lfm), (c3, cv3), (c4, cv4), (c5, cv5)] → (lfm, listOf [.ref q0, .ref q1, .ref q2].toArray nf) ∈ NT →
      (q0, tupOf [.str (xyN 0) st0, .ref dd0]) ∈ NT → (q1, tupOf [.str (xyN 1) st1, .ref dd1]) ∈ NT → (q2, tupOf [.str (Str.ofString "...") st2, .ref dd2]) ∈ NT → DfOk w NT dd0 d0 → DfOk w NT dd1 d1 →
      Rec w NT e 300 ksEnvironment [(t1, w1), (t2, .int lev tl), (t3, w3), (t4, w4), (t5, .ref f), (t6, w6), (t7, w7)] → fo.IsDictOf (strKind PR w) [] → (f == sysModules) = false → FreT [W, cc, E, Dd] Ar Rest NT → (∀ b ∈ [W, cc, E, Dd, Ar], @Ne Nat f b) → (∀ q ∈ Rest, @Ne Nat f q.1) → (∀ p ∈ NT, @Ne Nat p.1 f) →
      wpAny (model PR w) (ktrTop dp un gd (Str.ofString "law") scope L 481 cdv [(Str.ofString "well", cc)] []) (execs (rest) (envX (Str.ofString "law") scope L 481 cdv [(Str.ofString "well", cc)])) Q (fun _ _ => False) ⟨h, ge, dr, tk, os⟩) :
    wpAny (model PR w) (ktrTop dp un gd (Str.ofString "law") scope L 481 cdv [(Str.ofString "well", cc)] []) (execs (hdS (bodS (hdS bd.tail.tail.tail.tail)).tail.tail.tail.tail.tail.tail.tail :: hdS (bodS (hdS bd.tail.tail.tail.tail)).tail.tail.tail.tail.tail.tail.tail.tail :: hdS (bodS (hdS bd.tail.tail.tail.tail)).tail.tail.tail.tail.tail.tail.tail.tail.tail :: hdS (bodS (hdS bd.tail.tail.tail.tail)).tail.tail.tail.tail.tail.tail.tail.tail.tail.tail :: rest) (envX (Str.ofString "law") scope L 481 cdv [(Str.ofString "well", cc)])) Q (fun _ _ => False) ⟨h, ge, dr, tk, os⟩ := by
  obtain ⟨LT, GT⟩ := law_tab hL
  obtain ⟨oc', od', osl', name', qual', params', dV', kV', doc', pm', an', ct', ho'⟩ := hL
  rw [show (Mine.hd.heap_39 w.params).lookup 481 = some _ from rfl] at ho'
  cases ho'
  unfold ksLaw at F LT
  unfold gsLaw at GT
  dsimp only [hdS, bodS, List.tail_cons]
  k_extra "SLK"
  refine' Tell.use (t_law_default w mean mg mb _ d0 _ _ _ ?dkp ?dlp) ?Bp ?Fp ?Xp ?Np subRefl ?Tp rfl ?hdp ?hup ?retp
  case dkp => assumption
  case dlp => assumption
  case Bp => k_asm
  case Fp => k_asm
  case Xp => k_asm
  case Np => k_asm
  case Tp => k_asm
  case hdp => k_extra "OM"
  case hup => k_extra "OM"
  case retp =>
  rintro r' news' h' tk' F' N' ⟨xp, tlp, rfl, rfl, frp, dfp⟩
  k_sweep
  rename News _ _ _ _ => NN
  have NNp := newsSub NN (perm_tl (H := [_, _, _, _, _, _, _, _, _, _, _, _]) (tl := tlp) (R := Rest))
  simp only [List.cons_append, List.nil_append] at NNp
  clear NN
  have hIp := off_fresh frp List.mem_cons_self (R := Rest) (fun p hp => Nat.ne_of_lt (ktn_ltOf (by assumption) p hp))
  have hAp := off_fresh frp (List.mem_cons_of_mem _ (List.mem_cons_of_mem _ List.mem_cons_self)) (R := Rest) (fun p hp => Nat.ne_of_lt (ktn_ltOf (by assumption) p hp))
  k_extra "SLK"
  refine' Tell.use (t_law_default w mean mg mb _ d1 _ _ _ ?dkq ?dlq) ?Bq ?Fq ?Xq ?Nq subRefl ?Tq rfl ?hdq ?huq ?retq
  case dkq => assumption
  case dlq => assumption
  case Bq => k_asm
  case Fq => k_asm
  case Xq => k_asm
  case Nq => k_asm
  case Tq => k_asm
  case hdq => k_extra "OM"
  case huq => k_extra "OM"
  case retq =>
  rintro r' news' h' tk' F' N' ⟨xq, tlq, rfl, rfl, frq, dfq⟩
  k_sweep
  rename News _ _ _ _ => NN
  have NNq := newsSub NN (perm_tl (H := [_, _, _, _, _, _, _, _, _, _, _, _, _]) (tl := tlq) (R := (tlp ++ Rest)))
  simp only [List.cons_append, List.nil_append] at NNq
  clear NN
  have hIq := off_fresh frq (List.mem_cons_of_mem _ List.mem_cons_self) (R := (tlp ++ Rest)) (off1_mem hIp)
  have hAq := off_fresh frq (List.mem_cons_of_mem _ (List.mem_cons_of_mem _ (List.mem_cons_of_mem _ List.mem_cons_self))) (R := (tlp ++ Rest)) (off1_mem hAp)
  k_extra "SLK"
  rename AllLt _ Rest => a1
  clear a1
  rename AllLt _ Rest => a2
  clear a2
  rename AllLt _ Rest => a3
  clear a3
  rename AllLt _ Rest => aD
  have bD := ktn_ltOf aD
  refine' kont (([_, _, _, _, _, _, _, _, _, _, _, _, _] ++ [_, _, _]) ++ (tlq ++ tlp)) _ _ _ _ _ _ _ _ _ xp xq _ _ _ _ _ _ _ _ _ _ _ _ _ _ _ _ _ _ _ _ _ _ _ _ _ _ _ _ _ ?kf ?kn ⟨_, _, memLeft (memLeft (List.mem_cons_self)), memLeft (memLeft (memTail (List.mem_cons_self)))⟩ (memLeft (memLeft (memTail (memTail (memTail (memTail (List.mem_cons_self))))))) (memLeft (memLeft (memTail (memTail (memTail (memTail (memTail (memTail (memTail (memTail (memTail (memTail (List.mem_cons_self))))))))))))) (memLeft (memLeft (memTail (memTail (memTail (memTail (memTail (memTail (memTail (memTail (memTail (List.mem_cons_self)))))))))))) (memLeft (memLeft (memTail (memTail (memTail (memTail (memTail (memTail (List.mem_cons_self))))))))) ?d0 ?d1 ⟨_, _, memLeft (memApp (memTail (List.mem_cons_self))), memLeft (memApp (memTail (memTail (List.mem_cons_self))))⟩ (by assumption) (by assumption) ?fr ?f1 ?f2 ?f3
  case kf => k_asm
  case kn => exact newsSub (by k_asm) perm_s4
  case d0 => exact DfOk.mono dfp (fun _ h => memApp (memApp h))
  case d1 => exact DfOk.mono dfq (fun _ h => memApp (memLeft h))
  case fr =>
    refine fre_of (by simp only [List.forall_mem_cons]; exact ⟨by k_extra "OM", by k_extra "OM", by k_extra "OM", by k_extra "OM", fun _ h => nomatch h⟩) (by k_extra "OM") bD ?_
    simp only [List.forall_mem_cons, List.cons_append, List.nil_append]
    exact ⟨by k_extra "OM", by k_extra "OM", by k_extra "OM", by k_extra "OM", by k_extra "OM", by k_extra "OM", by k_extra "OM", by k_extra "OM", by k_extra "OM", by k_extra "OM", by k_extra "OM", by k_extra "OM", by k_extra "OM", by k_extra "OM", by k_extra "OM", by k_extra "OM", fun p hp => by
      rcases List.mem_append.mp hp with hp | hp
      · exact Nat.le_of_lt (frq _ (List.mem_cons_of_mem _ (List.mem_cons_of_mem _ (List.mem_cons_of_mem _ (List.mem_cons_of_mem _ (List.mem_cons_of_mem _ (List.mem_cons_of_mem _ (List.mem_cons_of_mem _ (List.mem_cons_self)))))))) p hp)
      · exact Nat.le_of_lt (frp _ (List.mem_cons_of_mem _ (List.mem_cons_of_mem _ (List.mem_cons_of_mem _ (List.mem_cons_of_mem _ (List.mem_cons_of_mem _ (List.mem_cons_of_mem _ (List.mem_cons_self))))))) p hp)⟩
  case f1 => simp only [List.forall_mem_cons]; exact ⟨by k_extra "OM", by k_extra "OM", by k_extra "OM", by k_extra "OM", by k_extra "OM", fun _ h => nomatch h⟩
  case f2 => exact fun q hq => Nat.ne_of_gt (Nat.lt_trans (bD q hq) (by k_extra "OM"))
  case f3 =>
    simp only [List.forall_mem_cons, List.cons_append, List.nil_append]
    exact ⟨by k_extra "OM", by k_extra "OM", by k_extra "OM", by k_extra "OM", by k_extra "OM", by k_extra "OM", by k_extra "OM", by k_extra "OM", by k_extra "OM", by k_extra "OM", by k_extra "OM", by k_extra "OM", by k_extra "OM", by k_extra "OM", by k_extra "OM", by k_extra "OM", fun p hp => by
      rcases List.mem_append.mp hp with hp | hp
      · exact Nat.ne_of_gt (frq _ (List.mem_cons_of_mem _ (List.mem_cons_of_mem _ (List.mem_cons_of_mem _ (List.mem_cons_of_mem _ (List.mem_cons_of_mem _ (List.mem_cons_self)))))) p hp)
      · exact Nat.ne_of_gt (frp _ (List.mem_cons_of_mem _ (List.mem_cons_of_mem _ (List.mem_cons_of_mem _ (List.mem_cons_of_mem _ (List.mem_cons_self))))) p hp)⟩
end SS4
section SSRT
theorem sort_strs {w : World} {A : Around} {E : Value → Shared → Prop} {s : Shared} {h₀ : Heap} {L D : Addr} {m : Str → Option Value} {news : Led} {vs : List Value} {ss : List Str} {n : Nat} {Q : Value → Shared → Prop}
    (F : Fr h₀ L s.heap m) (N : News h₀ L s.heap ((D, listOf vs.toArray n) :: news)) (off : ∀ q ∈ news, q.1 ≠ D) (hS : StrsAre vs ss) (hne : vs.length ≠ 0) (h64 : vs.length < 64)
    (h : ∀ h' vs' ss' k, Fr h₀ L h' m → News h₀ L h' ((D, listOf vs'.toArray k) :: news) → StrsAre vs' ss' → ss'.Perm ss → sortedS ss' = true → Q .none { s with heap := h' }) :
    wpAny (model PR w) A (call (.builtin "list.sort") [.ref D]) Q E s := by
  have z := N _ List.mem_cons_self
  have ho : s.heap.get? D = some (seqObj "list" vs.toArray n) := z.1
  refine wpAny_call_entry PyProof.Rows.slot_list_sort ⟨_, z.1, rfl⟩ PyProof.Rows.entry_list_sort (list_sort_treeK strKind_oneLt (n := n) (vs := vs) ho hS.keysOf (fun v₁ v₂ rest e => keyKind_strs (by rw [← e]; exact hS)) h64 fun st' hp hs => ⟨.none, rfl, ?_⟩) (PyProof.Rows.args_list_sort _)
  obtain ⟨ss', h1, h2, h3⟩ := sorted_out_str hS hp hs
  obtain ⟨out, ho2⟩ : ∃ o, o = (arrOf st').map (·.2) := ⟨_, rfl⟩
  rw [← ho2] at h1 ⊢
  have F1 : Fr h₀ L (s.heap.update D (Obj.mapSeq fun _ => (#[] : Array Value))) m := F.change (Heap.SameBut.update ..) z.2.1 z.2.2
  have N1 := ki_turn (pre := []) (fun _ => (#[] : Array Value)) (its' := #[]) N (fun _ h => nomatch h) off rfl rfl
  have N2 := News.grown N1 fun _ _ e => Heap.get?_push_of_some (seqObj "tuple" vs.toArray 0) e
  have N3 := News.grown N2 fun _ _ e => Heap.get?_push_of_some (seqObj "list" #[] 0) e
  have N4 := ki_turn (pre := []) (fun _ => out) (its' := out) N3 (fun _ h => nomatch h) off rfl rfl
  have F4 : Fr h₀ L ((((s.heap.update D (Obj.mapSeq fun _ => (#[] : Array Value))).push (seqObj "tuple" vs.toArray 0)).push (seqObj "list" #[] 0)).update D (Obj.mapSeq fun _ => out)) m :=
    ((F1.push (seqObj "tuple" vs.toArray 0)).push (seqObj "list" #[] 0)).change (Heap.SameBut.update ..) z.2.1 z.2.2
  exact h _ out.toList ss' _ F4 (by rw [Array.toArray_toList]; exact N4) h1 h2 h3
theorem sorted_xy {ss : List Str} (hp : ss.Perm [Str.ofString "x", Str.ofString "y", Str.ofString "..."]) (hs : sortedS ss = true) : ss = [Str.ofString "...", Str.ofString "x", Str.ofString "y"] := by
  have hl := hp.length_eq
  have hn : ss.Nodup := hp.nodup_iff.mpr (by decide +kernel)
  have hm : ∀ a ∈ ss, a = Str.ofString "x" ∨ a = Str.ofString "y" ∨ a = Str.ofString "..." := fun a ha => by simpa using hp.mem_iff.mp ha
  match ss, hl, hn, hm, hs with
  | [a, b, c], _, hn, hm, hs =>
    rcases hm a (by simp) with rfl | rfl | rfl <;> rcases hm b (by simp) with rfl | rfl | rfl <;> rcases hm c (by simp) with rfl | rfl | rfl <;>
      first | rfl | (exact absurd hn (by decide +kernel)) | (exact absurd hs (by decide +kernel))
theorem strs_of_keys {w : World} {vs : List Value} {kvs : List (Str × Value)} (hl : vs.length = kvs.length) (hv : ∀ (j : Nat) (v : Value), vs[j]? = some v → ∃ k x, kvs[j]? = some (k, x) ∧ (strKind PR w).is k v = true) : StrsAre vs (kvs.map (·.1)) := by
  induction vs generalizing kvs with
  | nil => cases kvs with
    | nil => exact .nil
    | cons _ _ => simp at hl
  | cons v r ih => cases kvs with
    | nil => simp at hl
    | cons p q =>
      obtain ⟨k, x, h1, h2⟩ := hv 0 v rfl
      simp at h1
      subst h1
      obtain ⟨t, rfl⟩ : ∃ t, v = .str k t := Value.isStrOf_shape h2
      exact .cons k t (ih (by simpa using hl) fun j u hu => by simpa using hv (j + 1) u (by simpa using hu))
theorem sorted_dict {w : World} {A : Around} {E : Value → Shared → Prop} {h₀ h : Heap} {L d : Addr} {m : Str → Option Value} {ge : Array GenState} {dr : Drawn} {tk : Nat} {os : OsState} {news : Led} {o : Obj} {kvs : List (Str × Value)} {Q : Value → Shared → Prop}
    (hh : A.handled = none) (F : Fr h₀ L h m) (N : News h₀ L h news) (hd : (d, o) ∈ news) (hD : o.IsDictOf (strKind PR w) kvs) (lo : (d == sysModules) = false) (hz : kvs.map (·.1) = [Str.ofString "x", Str.ofString "y", Str.ofString "..."])
    (q : ∀ h' tk D vs k, Fr h₀ L h' m → News h₀ L h' ((D, listOf vs.toArray k) :: news) → (∀ q ∈ news, q.1 < D) → StrsAre vs [Str.ofString "...", Str.ofString "x", Str.ofString "y"] → Q (.ref D) ⟨h', ge, dr, tk, os⟩) :
    wpAny (model PR w) A (call (.builtin "sorted") [.ref d]) Q E ⟨h, ge, dr, tk, os⟩ := by
  have hdo : h.DictOf (strKind PR w) d kvs := (Heap.dictOf_iff.mpr ⟨o, (N _ hd).1, hD⟩)
  obtain ⟨ep, hat⟩ := hdo.dictAt
  have hl : kvs.length = 3 := by have := congrArg List.length hz; simpa using this
  refine kdu_sorted (s := ⟨h, ge, dr, tk, os⟩) (kdl_dict (knd := strKind PR w) (kvs := kvs) (ep := ep) lo) hh F N hat (kdl_size (by k_extra "OM")) fun B h' tk' vs F' N' l1 hvl hv => ?_
  have hS := strs_of_keys hvl hv
  rw [hz] at hS
  refine sort_strs (s := ⟨h', ge, dr, tk', os⟩) F' N' (fun p hp => Nat.ne_of_lt (l1 p hp)) hS (by k_extra "OM") (by k_extra "OM") fun h2 vs' ss' k F2 N2 s1 s2 s3 => ?_
  rw [sorted_xy s2 s3] at s1
  exact q h2 tk' B vs' k F2 N2 l1 s1
end SSRT

theorem reg_macros_srt : True := by
  k_with "lsm_bools" => (first
  | ((with_reducible refine' sorted_dict ?zqhh ?zqF ?zqN ?zqhd ?zqhD ?zqlo ?zqhz ?_); (case zqhh => rfl); (case zqF => k_asm); (case zqN => k_asm); (case zqhd => k_mem); (case zqhD => assumption); (case zqlo => assumption); (case zqhz => assumption); intro zqh' zqtk2' zqD' zqvs' zqkk' zqF' zqN' zql1 zqhss'; (try (k_extra "ALl1")); (try k_sweep)))
  trivial
section SM6
theorem t_law_dots (w : World) (mean : ExcName → Option Value) (mg mb : Str → Option Value) (own : Led) (d lx : Addr) (n nx : Nat) (xv : List Value) (ex : Nat → Int) (hlx : (lx, listOf xv.toArray nx) ∈ own) (hxv : IntsFn xv n ex) (hn : n ≤ 10) (hd : DotsOk w own d n ex) :
    Tell w mean mg mb 14 469 [.ref d, .ref lx] own (fun r news' => r = .bool true ∧ news' = own) := by
  obtain ⟨t1, t2, t3, u, l, vs, k, hd, hl, hvl, hit⟩ := hd
  have hxl : (xv.length : Int) = n := by rw [hxv.1]
  have hxl2 := hxv.1
  refine' TellC.tell ?_
  refine' tellC_of [Str.ofString "bound", Str.ofString "extras"] [.ref d, .ref lx] [Str.ofString "at", Str.ofString "value"] [Str.ofString "len", Str.ofString "range"] ?ho ?hcd ?hb rfl ?hl ?hg ?hc ?h1 ?h2 ?R
  case ho => k_dflt k_is
  case hcd => k_dflt k_is
  case hb => exact fun _ _ _ _ => BindsTo.of_eq rfl
  case hl => kernel_rfl!
  case hg => kernel_rfl!
  case hc => kernel_rfl!
  case h1 => rfl
  case h2 => rfl
  intro LT GT dp un gd outer A₀ base g L s B F X N T hd hu
  simp only [List.map, List.cons_append, List.nil_append, List.append_nil] at F LT
  obtain ⟨hp, ge, dr, tk, os⟩ := s
  k_extra "SK"
  refine' LCp.SrcLP.ledger ?hh ?F ?N ?hm ?hz ?_
  case hh => rfl
  case F => k_asm
  case N => k_asm
  case hm => k_mem
  case hz => rw [sizeLine_eq, List.size_toArray, hvl]; omega
  intro gg
  refine' compP_inv (fun i ys news => news = own ∧ StrsAre ys (List.replicate i (Str.ofString "zz"))) ?start ?step ?fin
  case start => exact ⟨rfl, .nil⟩
  case step =>
    rintro i ys news v hi ⟨rfl, hys⟩ hv
    rw [List.size_toArray, hvl] at hi
    obtain ⟨a, ha, t, va, hm, _⟩ := hit i hi
    obtain rfl : v = .ref a := by
      have hv' : vs[i]? = some v := by simpa using hv
      rw [ha] at hv'; exact (Option.some.inj hv').symm
    refine ⟨a, _, _, rfl, hm, ?_⟩
    intro I oI C oC D m₂ h tk E' hC hx hx2 F N off ne
    dsimp only
    k_extra "SK"
    exact compEnd (by k_asm) (by k_asm) _ (by k_mem) (by k_mem) (by k_mem) (by repeat' (first | (with_reducible exact subRefl) | (with_reducible exact subNil) | (with_reducible exact subLeft) | (with_reducible refine' subBoth ?_ ?_) | (refine' subCons (by k_mem) ?_) | (with_reducible refine' subTail ?_) | (with_reducible refine' subApp ?_))) off (.inr ⟨_, hl, rfl, _, rfl⟩) ⟨rfl, by rw [List.replicate_succ']; exact strs_snoc hys⟩
  case fin =>
    rintro ys nws ⟨e0, hys⟩
    replace e0 := e0.symm
    subst e0
    rw [List.size_toArray, hvl] at hys
    intro D h tk F N o1
    k_extra "SK"
    rename Addr => I1
    refine' rng_inv (news := own) n (fun j vs news => ∃ v3 v4, vs = [some (.ref d), some (.ref lx), v3, v4] ∧ news = own) ?hb ?hh LT ?F ?N ?hI 2 ?hx ?hJ ?rstart ?rstep ?rfin
    case hh => rfl
    case F => k_asm
    case N => exact newsSub (by k_asm) (by repeat' (first | (with_reducible exact subRefl) | (with_reducible exact subNil) | (with_reducible exact subLeft) | (with_reducible refine' subBoth ?_ ?_) | (refine' subCons (by k_mem) ?_) | (with_reducible refine' subTail ?_) | (with_reducible refine' subApp ?_)))
    case hb => k_extra "OM"
    case hI => (first | k_all | fail "k_all")
    case hx => rfl
    case hJ => rintro i vs news ⟨v3, v4, rfl, _⟩; rfl
    case rstart => exact ⟨_, _, rfl, rfl⟩
    case rfin =>
      rintro vs news h tk ⟨v3, v4, rfl, rfl⟩ F N
      k_extra "SK"
      all_goals (refine' RunEnd.intro ?zf ?zn ?zp; (case zp => exact ⟨rfl, rfl⟩); (case zf => k_asm); (case zn => first | k_asm | (refine' newsSub ?zN ?zs; (case zN => k_asm); (case zs => repeat' (first | (with_reducible exact subRefl) | (with_reducible exact subNil) | (with_reducible exact subLeft) | (with_reducible refine' subBoth ?_ ?_) | (refine' subCons (by k_mem) ?_) | (with_reducible refine' subTail ?_) | (with_reducible refine' subApp ?_))) )))
    case rstep =>
      rintro j vs news h tk hj ⟨v3, v4, rfl, rfl⟩ F N off
      simp only [List.set_cons_succ, List.set_cons_zero] at F
      obtain ⟨a, ha, t, va, hm, hc⟩ := hit j hj
      have ha' : vs[((j : Nat) : Int).toNat]? = some (.ref a) := by simpa using ha
      obtain ⟨tx, hx⟩ := hxv.2 j hj
      have hx' : xv[((j : Nat) : Int).toNat]? = some (.int (ex j) tx) := by simpa using hx
      have hj2 : (j : Int) < 1000 := by k_extra "OM"
      rcases hc with ⟨hg, lv, nl, tf, s1, s2, s3, s4, s5, su, sb, h3, hl3⟩ | ⟨hg, x, hdn, hk⟩
      · k_extra "SK"
        exact TurnEnd.mk' _ (by k_asm) (by k_asm) (by k_mem) (by repeat' (first | (with_reducible exact subRefl) | (with_reducible exact subNil) | (with_reducible exact subLeft) | (with_reducible refine' subBoth ?_ ?_) | (refine' subCons (by k_mem) ?_) | (with_reducible refine' subTail ?_) | (with_reducible refine' subApp ?_))) off rfl ⟨.inl rfl, _, _, rfl, rfl⟩
      · obtain ⟨y1, y2, y3, y4, y5, y6, yu, yu2, hdn⟩ := hdn
        obtain ⟨C, ks, t, u, tvs, hc, ha2, hn2, hr⟩ := hk
        k_extra "SK"
        exact TurnEnd.mk' _ (by k_asm) (by k_asm) (by k_mem) (by repeat' (first | (with_reducible exact subRefl) | (with_reducible exact subNil) | (with_reducible exact subLeft) | (with_reducible refine' subBoth ?_ ?_) | (refine' subCons (by k_mem) ?_) | (with_reducible refine' subTail ?_) | (with_reducible refine' subApp ?_))) off rfl ⟨.inl rfl, _, _, rfl, rfl⟩
end SM6

theorem reg_macros_m6 : True := by
  k_with "kpc_turns" => (((with_reducible show wpAny _ _ (call (Value.ref 469) _) _ _ _); (with_reducible refine' Tell.use (t_law_dots _ _ _ _ _ _ _ _ _ _ _ ?zqz11 ?zqz12 ?zqz13 ?zqz14) ?zqB ?zqF ?zqX ?zqN ?zqsub ?zqT ?zqhk ?zqhd ?zqhu ?_); (case zqB => k_asm); (case zqF => k_asm); (case zqX => k_asm); (case zqN => k_asm); (case zqsub => exact subRefl); (case zqT => k_asm); (case zqhk => rfl); (case zqhd => first | exact lim (by assumption) rfl | k_extra "OM"); (case zqhu => first | exact lim (by assumption) rfl | k_extra "OM"); (case zqz11 => k_mem); (case zqz12 => assumption); (case zqz13 => k_extra "OM"); (case zqz14 => first | (with_reducible assumption) | k_extra "k_caughtB"); intro zqr' zqnews' zqh' zqtk' zqF' zqN' zqpo0'; (refine sp2 zqpo0' ?_); clear zqpo0'; intro zqe1 zqe2; subst zqe1; subst zqe2; (try k_sweep)))
  trivial
section SS6
theorem seg6 (w : World) (mean : ExcName → Option Value) (mg mb : Str → Option Value) {W e f Ex d : Addr} {fo : Obj} {kvs : List (Str × Value)} {nx nd : Nat} {xv : List Value} {ex : Nat → Int} {t1 t2 t3 t4 t5 t6 t7 : Tok} {w1 w2 w3 w4 w6 w7 : Value} {G : Led} {v0 v1 v2 v3 v4 v5 v6 v7 v8 v10 v12 v13 v14 v15 v16 : Option Value}
    {scope : Scope} {cdv : Value} {bd : List Stmt} (hL : LawFn w bd scope cdv) {dp un : Nat} {gd : Option (List Code)} {A₀ : Around} {base g : Heap} {L cc : Addr} {oc : Obj} {ge : Array GenState} {dr : Drawn} {tk : Nat} {os : OsState} {h : Heap} {Q : Flow → Shared → Prop}
    (B : Below A₀ base [] g) (F : Fr g L h (frm ksLaw [v0, v1, v2, v3, v4, v5, v6, v7, v8, some (.ref Ex), v10, some (.ref e), v12, v13, v14, v15, v16])) (X : (Mine.hd.heap_39 w.params).In g) (N : News g L h ((f, fo) :: G)) (T : Top VW LO mean mg mb g) (hd : dp + 40 < recursionLimit) (hu : un + 400 < cLine) (hoc : oc.data = .cell (some (.ref W)))
    (he : Rec w ((f, fo) :: G) e 300 ksEnvironment [(t1, w1), (t2, w2), (t3, w3), (t4, w4), (t5, .ref f), (t6, w6), (t7, w7)]) (hfo : fo.IsDictOf (strKind PR w) kvs) (lo : (f == sysModules) = false) (hks : kvs.map (·.1) = [Str.ofString "x", Str.ofString "y", Str.ofString "..."]) (hvd : valueAt kvs (Str.ofString "...") = some (.ref d))
    (hdd : DotsOk w ((f, fo) :: G) d nd ex) (hxv : IntsFn xv nd ex) (hEx : (Ex, listOf xv.toArray nx) ∈ G) (hnd : nd ≤ 10)
    {rest : List Stmt}
    (kont : ∀ h tk, Fr g L h (frm ksLaw [v0, v1, v2, v3, v4, v5, v6, v7, v8, some (.ref Ex), v10, some (.ref e), v12, v13, v14, v15, v16]) → News g L h ((f, fo) :: G) → wpAny (model PR w) (ktrTop dp un gd (Str.ofString "law") scope L 481 cdv [(Str.ofString "well", cc)] []) (execs (rest) (envX (Str.ofString "law") scope L 481 cdv [(Str.ofString "well", cc)])) Q (fun _ _ => False) ⟨h, ge, dr, tk, os⟩) :
    wpAny (model PR w) (ktrTop dp un gd (Str.ofString "law") scope L 481 cdv [(Str.ofString "well", cc)] []) (execs (hdS (bodS (hdS bd.tail.tail.tail.tail)).tail.tail.tail.tail.tail.tail.tail.tail.tail.tail.tail.tail :: rest) (envX (Str.ofString "law") scope L 481 cdv [(Str.ofString "well", cc)])) Q (fun _ _ => False) ⟨h, ge, dr, tk, os⟩ := by
  obtain ⟨LT, GT⟩ := law_tab hL
  obtain ⟨oc', od', osl', name', qual', params', dV', kV', doc', pm', an', ct', ho'⟩ := hL
  rw [show (Mine.hd.heap_39 w.params).lookup 481 = some _ from rfl] at ho'
  cases ho'
  unfold ksLaw at F LT
  unfold gsLaw at GT
  dsimp only [hdS, bodS, List.tail_cons]
  k_extra "SK"
  refine' nel_strs ?N ?ha ?hb ?hi ?hj ?hok ?hu ?_
  case N => k_asm
  case ha => k_mem
  case hb => k_mem
  case hi => assumption
  case hj => exact .cons _ _ (.cons _ _ (.cons _ _ .nil))
  case hok => simp only [List.forall_mem_cons]; exact ⟨by decide +kernel, by decide +kernel, by decide +kernel, fun _ h => nomatch h⟩
  case hu => (try dsimp only [ktrTop]); omega
  k_extra "SK"
  refine' kont _ _ ?kf ?kn
  case kf => k_asm
  case kn => exact newsSub (by k_asm) (fun _ h => memTail (memTail h))
end SS6
section SS7
theorem EnvNum.mono {w : World} {own own' : Led} {e : Addr} {n : Int} (h : EnvNum w own e n) (hs : ∀ p ∈ own, p ∈ own') : EnvNum w own' e n :=
  let ⟨s1, s2, s3, s4, s5, s6, s7, sn, w1, w3, w4, w5, w6, w7, r⟩ := h; ⟨s1, s2, s3, s4, s5, s6, s7, sn, w1, w3, w4, w5, w6, w7, r.mono hs⟩
theorem seg7 (w : World) (mean : ExcName → Option Value) (mg mb : Str → Option Value) {W e f Kn Df b0 b1 : Addr} {fo : Obj} {kvs : List (Str × Value)} {nk nd : Nat} {k0 k1 d0 d1 lev : Int} {s0 s1 s2 s3 tl : Tok} {bf : Value} {t1 t2 t3 t4 t5 t6 t7 : Tok} {w1 w3 w4 w6 w7 : Value} {G : Led} {v0 v1 v2 v3 v7 v8 v9 v10 v12 v13 v14 v15 v16 : Option Value}
    {scope : Scope} {cdv : Value} {bd : List Stmt} (hL : LawFn w bd scope cdv) {dp un : Nat} {gd : Option (List Code)} {A₀ : Around} {base g : Heap} {L cc : Addr} {oc : Obj} {ge : Array GenState} {dr : Drawn} {tk : Nat} {os : OsState} {h : Heap} {Q : Flow → Shared → Prop}
    (B : Below A₀ base [] g) (F : Fr g L h (frm ksLaw [v0, v1, v2, v3, some (.int lev tl), some (.ref Df), some (.ref Kn), v7, v8, v9, v10, some (.ref e), v12, v13, v14, v15, v16])) (X : (Mine.hd.heap_39 w.params).In g) (N : News g L h ((f, fo) :: G)) (T : Top VW LO mean mg mb g) (hd : dp + 40 < recursionLimit) (hu : un + 400 < cLine) (hoc : oc.data = .cell (some (.ref W)))
    (he : Rec w ((f, fo) :: G) e 300 ksEnvironment [(t1, w1), (t2, .int lev tl), (t3, w3), (t4, w4), (t5, .ref f), (t6, w6), (t7, w7)]) (hfo : fo.IsDictOf (strKind PR w) kvs) (lo : (f == sysModules) = false) (hv0 : valueAt kvs (Txt.item (Str.ofString "xy") 0) = some (.ref b0)) (hv1 : valueAt kvs (Txt.item (Str.ofString "xy") 1) = some (.ref b1))
    (hDf : (Df, listOf [.int d0 s0, .int d1 s1].toArray nd) ∈ G) (hKn : (Kn, listOf [.int k0 s2, .int k1 s3].toArray nk) ∈ G)
    (hb0 : BndOk w ((f, fo) :: G) e bf k0 d0 (10 * lev + 0) b0) (hb1 : BndOk w ((f, fo) :: G) e bf k1 d1 (10 * lev + 1) b1) (hen : EnvNum w ((f, fo) :: G) e lev) (h00 : 0 ≤ k0) (h10 : 0 ≤ k1) (hbf0 : 3 ≤ k0 → ∃ e', bf = .ref e' ∧ EnvNum w ((f, fo) :: G) e' (lev - 1)) (hbf1 : 3 ≤ k1 → ∃ e', bf = .ref e' ∧ EnvNum w ((f, fo) :: G) e' (lev - 1))
    {rest : List Stmt}
    (kont : ∀ h tk v8, Fr g L h (frm ksLaw [v0, v1, v2, v3, some (.int lev tl), some (.ref Df), some (.ref Kn), v7, v8, v9, v10, some (.ref e), v12, v13, v14, v15, v16]) → News g L h ((f, fo) :: G) → wpAny (model PR w) (ktrTop dp un gd (Str.ofString "law") scope L 481 cdv [(Str.ofString "well", cc)] []) (execs (rest) (envX (Str.ofString "law") scope L 481 cdv [(Str.ofString "well", cc)])) Q (fun _ _ => False) ⟨h, ge, dr, tk, os⟩) :
    wpAny (model PR w) (ktrTop dp un gd (Str.ofString "law") scope L 481 cdv [(Str.ofString "well", cc)] []) (execs (hdS (bodS (hdS bd.tail.tail.tail.tail)).tail.tail.tail.tail.tail.tail.tail.tail.tail.tail.tail.tail.tail :: rest) (envX (Str.ofString "law") scope L 481 cdv [(Str.ofString "well", cc)])) Q (fun _ _ => False) ⟨h, ge, dr, tk, os⟩ := by
  obtain ⟨LT, GT⟩ := law_tab hL
  obtain ⟨oc', od', osl', name', qual', params', dV', kV', doc', pm', an', ct', ho'⟩ := hL
  rw [show (Mine.hd.heap_39 w.params).lookup 481 = some _ from rfl] at ho'
  cases ho'
  unfold ksLaw at F LT
  unfold gsLaw at GT
  dsimp only [hdS, bodS, List.tail_cons]
  k_extra "SLK"
  refine' Tell.use (t_law_binding w mean mg mb _ _ _ _ _ _ lev _ _ _ bf h00 (hb0.mono ?sba) (EnvNum.mono hen ?sca) ?bfa) ?Ba ?Fa ?Xa ?Na subRefl ?Ta rfl ?hda ?hua ?reta
  case Na => k_asm
  case sba => exact fun _ h => memTail (memTail h)
  case sca => exact fun _ h => memTail (memTail h)
  case bfa => exact fun q => let ⟨e', h1, h2⟩ := hbf0 q; ⟨e', h1, EnvNum.mono h2 fun _ h => memTail (memTail h)⟩
  case Ba => k_asm
  case Fa => k_asm
  case Xa => k_asm
  case Ta => k_asm
  case hda => k_extra "OM"
  case hua => k_extra "OM"
  case reta =>
  rintro r' news' h' tk' F' N' ⟨rfl, tla, rfl, _⟩
  k_sweep
  rename News _ _ _ _ => NN
  replace NN := newsSub NN (fun _ h => memApp h)
  k_extra "SLK"
  refine' Tell.use (t_law_binding w mean mg mb _ _ _ _ _ _ lev _ _ _ bf h10 (hb1.mono ?sbb) (EnvNum.mono hen ?scb) ?bfb) ?Bb ?Fb ?Xb ?Nb subRefl ?Tb rfl ?hdb ?hub ?retb
  case Nb => k_asm
  case sbb => exact fun _ h => memTail (memTail h)
  case scb => exact fun _ h => memTail (memTail h)
  case bfb => exact fun q => let ⟨e', h1, h2⟩ := hbf1 q; ⟨e', h1, EnvNum.mono h2 fun _ h => memTail (memTail h)⟩
  case Bb => k_asm
  case Fb => k_asm
  case Xb => k_asm
  case Tb => k_asm
  case hdb => k_extra "OM"
  case hub => k_extra "OM"
  case retb =>
  rintro r' news' h' tk' F' N' ⟨rfl, tlb, rfl, _⟩
  k_sweep
  rename News _ _ _ _ => NN
  replace NN := newsSub NN (fun _ h => memApp h)
  k_extra "SLK"
  refine' kont _ _ _ ?kf ?kn
  case kf => k_asm
  case kn => exact newsSub (by k_asm) (fun _ h => memTail h)
end SS7
section SS8
noncomputable def DueIs (k : Int) (v : Value) : Prop := (k < 4 ∧ v = .bool (decide (k < 2))) ∨ (4 ≤ k ∧ ∃ t, v = .str (Txt.item (Str.ofString "xy") (k - 4)) t)
noncomputable def RowOk (rvs : List (Str × Value)) (u0 u1 ud : Value) : Prop := valueAt rvs (xyN 0) = some u0 ∧ valueAt rvs (xyN 1) = some u1 ∧ valueAt rvs (Str.ofString "...") = some ud ∧ rvs.length ≤ 10
theorem row_dict {t : Tok} {vd v0 v1 : Value} : RowOk (stored (stored (strPairs [(Value.str (Str.ofString "...") t, vd)]) (Txt.item (Str.ofString "xy") 0) v0) (Txt.item (Str.ofString "xy") 1) v1) v0 v1 vd := by
  have e : strPairs [(Value.str (Str.ofString "...") t, vd)] = [(Str.ofString "...", vd)] := rfl
  have n01 : ¬ xyN 1 = xyN 0 := by decide +kernel
  have n0d : ¬ xyN 0 = Str.ofString "..." := by decide +kernel
  have n1d : ¬ xyN 1 = Str.ofString "..." := by decide +kernel
  have nd0 : ¬ Str.ofString "..." = xyN 0 := by decide +kernel
  have nd1 : ¬ Str.ofString "..." = xyN 1 := by decide +kernel
  rw [e, xyN_item (by decide) (by decide), xyN_item (by decide) (by decide)]
  refine ⟨?_, ?_, ?_, ?_⟩
  · rw [valueAt_stored, if_neg n01, valueAt_stored, if_pos rfl]
  · rw [valueAt_stored, if_pos rfl]
  · rw [valueAt_stored, if_neg n1d, valueAt_stored, if_neg n0d]; simp [valueAt]
  · simp [stored, nd0, nd1, Ne.symm n01]
noncomputable def asgE : Stmt → PySem.Expr
  | .Assign _ v _ => v
  | _ => .Constant .none 0 default
theorem due_exp (w : World) (mean : ExcName → Option Value) (mg mb : Str → Option Value) {scope : Scope} {cdv : Value} {bd : List Stmt} (hL : LawFn w bd scope cdv) {dp un : Nat} {gd : Option (List Code)} {A₀ : Around} {base g : Heap} {L cc : Addr} {ge : Array GenState} {dr : Drawn} {tk : Nat} {os : OsState} {h : Heap} {Q : Value → Shared → Prop} {E : Value → Shared → Prop} {Kn : Addr} {xs : List Value} {nk : Nat} {i k : Int} {ti s : Tok} {G : Led} {v0 v1 v2 v3 v4 v5 v7 v9 v10 v11 v12 v13 v14 v15 v16 : Option Value}
    (B : Below A₀ base [] g) (F : Fr g L h (frm ksLaw [v0, v1, v2, v3, v4, v5, some (.ref Kn), v7, some (.int i ti), v9, v10, v11, v12, v13, v14, v15, v16])) (X : (Mine.hd.heap_39 w.params).In g) (N : News g L h G) (T : Top VW LO mean mg mb g) (hd : dp + 40 < recursionLimit) (hu : un + 400 < cLine)
    (hKn : (Kn, listOf xs.toArray nk) ∈ G) (hi0 : 0 ≤ i) (hi1 : i < 2) (hx : xs[i.toNat]? = some (.int k s)) (h0 : 0 ≤ k) (h1 : k < 6) (q : ∀ u t, DueIs k u → Q u ⟨h, ge, dr, t, os⟩) :
    wpAny (model PR w) (ktrTop dp un gd (Str.ofString "law") scope L 481 cdv [(Str.ofString "well", cc)] []) (eval (asgE (hdS (bodS (hdS (bodS (hdS bd.tail.tail.tail.tail)).tail.tail.tail.tail.tail.tail.tail.tail.tail.tail.tail.tail.tail.tail.tail)))) (envX (Str.ofString "law") scope L 481 cdv [(Str.ofString "well", cc)])) Q E ⟨h, ge, dr, tk, os⟩ := by
  obtain ⟨LT, GT⟩ := law_tab hL
  obtain ⟨oc', od', osl', name', qual', params', dV', kV', doc', pm', an', ct', ho'⟩ := hL
  rw [show (Mine.hd.heap_39 w.params).lookup 481 = some _ from rfl] at ho'
  cases ho'
  unfold ksLaw at F LT
  unfold gsLaw at GT
  dsimp only [hdS, bodS, asgE, List.tail_cons]
  k_extra "SK"
  all_goals first | exact q _ _ (.inr ⟨by k_extra "OM", _, rfl⟩) | exact q _ _ (.inl ⟨by k_extra "OM", rfl⟩)

theorem reg_s8_1 : True := by
  k_with "kat_tups" => (((with_reducible refine' d_set ?zqF ?zqN ?zqU ?zqhd ?zqhz ?zqe ?_); (case zqF => k_asm); (case zqN => k_asm); (case zqhd => assumption); (case zqU => k_updF); (case zqhz => first | exact Nat.le_of_ble_eq_true rfl | exact Nat.le_trans (stored_len) (Nat.le_of_ble_eq_true rfl)); (case zqe => exact rfl); intro zqh' zqo' zqF' zqN' zqhd'; (try k_sweep)))
  trivial

theorem reg_s8_2 : True := by
  k_with "kfm_turns" => (((with_reducible show wpAny _ _ (eval (PySem.Expr.IfExp _ _ _ _) _) _ _ _); refine' due_exp w mean mg mb hL0 B ?zqF X ?zqN T hd hu ?zqhKn ?zqhi0 ?zqhi1 ?zqhx ?zqh0 ?zqh1 ?_; (case zqF => k_asm); (case zqN => k_asm); (case zqhKn => k_mem); (case zqhi0 => decide); (case zqhi1 => decide); (case zqhx => rfl); (case zqh0 => assumption); (case zqh1 => assumption); intro zquu zqtt zqhdu))
  trivial
theorem seg8 (w : World) (mean : ExcName → Option Value) (mg mb : Str → Option Value) {W E Dd Ex Kn e : Addr} {es ds : List Value} {n1 n2 nx nk : Nat} {xv : List Value} {k0 k1 lev : Int} {s2 s3 tl : Tok} {G : Led} {v0 v3 v5 v7 v8 v10 v12 v13 v14 v15 v16 : Option Value}
    {scope : Scope} {cdv : Value} {bd : List Stmt} (hL : LawFn w bd scope cdv) {dp un : Nat} {gd : Option (List Code)} {A₀ : Around} {base g : Heap} {L cc : Addr} {oc : Obj} {ge : Array GenState} {dr : Drawn} {tk : Nat} {os : OsState} {h : Heap} {Q : Flow → Shared → Prop}
    (B : Below A₀ base [] g) (F : Fr g L h (frm ksLaw [v0, some (.ref E), some (.ref Dd), v3, some (.int lev tl), v5, some (.ref Kn), v7, v8, some (.ref Ex), v10, some (.ref e), v12, v13, v14, v15, v16])) (X : (Mine.hd.heap_39 w.params).In g) (N : News g L h ((E, listOf es.toArray n1) :: (Dd, listOf ds.toArray n2) :: G)) (T : Top VW LO mean mg mb g) (hd : dp + 40 < recursionLimit) (hu : un + 400 < cLine) (hoc : oc.data = .cell (some (.ref W)))
    (hEx : (Ex, listOf xv.toArray nx) ∈ G) (hxl : xv.length ≤ 10) (hKn : (Kn, listOf [.int k0 s2, .int k1 s3].toArray nk) ∈ G) (h00 : 0 ≤ k0) (h01 : k0 < 6) (h10 : 0 ≤ k1) (h11 : k1 < 6) (hel : es.length ≤ 10) (hdl : ds.length ≤ 10) (hED : @Ne Nat E Dd) (hEG : ∀ p ∈ G, @Ne Nat p.1 E) (hDG : ∀ p ∈ G, @Ne Nat p.1 Dd)
    {rest : List Stmt}
    (kont : ∀ h tk (d : Addr) (do_ : Obj) (rvs : List (Str × Value)) (u0 u1 : Value) (v8 : Option Value), Fr g L h (frm ksLaw [v0, some (.ref E), some (.ref Dd), some (.ref e), some (.int lev tl), v5, some (.ref Kn), v7, v8, some (.ref Ex), v10, some (.ref e), v12, v13, some (.ref d), v15, v16]) →
      News g L h ((E, listOf (es ++ [Value.ref e]).toArray (n1 + 1)) :: (Dd, listOf (ds ++ [Value.ref d]).toArray (n2 + 1)) :: (d, do_) :: G) → do_.IsDictOf (strKind PR w) rvs → RowOk rvs u0 u1 (.bool ((xv.length : Int) == 0)) → DueIs k0 u0 → DueIs k1 u1 → @Ne Nat d E → @Ne Nat d Dd → (∀ q ∈ G, @Ne Nat d q.1) →
      wpAny (model PR w) (ktrTop dp un gd (Str.ofString "law") scope L 481 cdv [(Str.ofString "well", cc)] []) (execs (rest) (envX (Str.ofString "law") scope L 481 cdv [(Str.ofString "well", cc)])) Q (fun _ _ => False) ⟨h, ge, dr, tk, os⟩) :
    wpAny (model PR w) (ktrTop dp un gd (Str.ofString "law") scope L 481 cdv [(Str.ofString "well", cc)] []) (execs (hdS (bodS (hdS bd.tail.tail.tail.tail)).tail.tail.tail.tail.tail.tail.tail.tail.tail.tail.tail.tail.tail.tail :: hdS (bodS (hdS bd.tail.tail.tail.tail)).tail.tail.tail.tail.tail.tail.tail.tail.tail.tail.tail.tail.tail.tail.tail :: hdS (bodS (hdS bd.tail.tail.tail.tail)).tail.tail.tail.tail.tail.tail.tail.tail.tail.tail.tail.tail.tail.tail.tail.tail :: hdS (bodS (hdS bd.tail.tail.tail.tail)).tail.tail.tail.tail.tail.tail.tail.tail.tail.tail.tail.tail.tail.tail.tail.tail.tail :: hdS (bodS (hdS bd.tail.tail.tail.tail)).tail.tail.tail.tail.tail.tail.tail.tail.tail.tail.tail.tail.tail.tail.tail.tail.tail.tail :: rest) (envX (Str.ofString "law") scope L 481 cdv [(Str.ofString "well", cc)])) Q (fun _ _ => False) ⟨h, ge, dr, tk, os⟩ := by
  have hL0 := hL
  have hoE := off1_of hEG
  have hoD := off1_of hDG
  obtain ⟨LT, GT⟩ := law_tab hL
  obtain ⟨oc', od', osl', name', qual', params', dV', kV', doc', pm', an', ct', ho'⟩ := hL
  rw [show (Mine.hd.heap_39 w.params).lookup 481 = some _ from rfl] at ho'
  cases ho'
  unfold ksLaw at F LT
  unfold gsLaw at GT
  dsimp only [hdS, bodS, List.tail_cons]
  k_extra "SLK"
  all_goals (refine' kont _ _ _ _ _ _ _ _ ?kf ?kn ?kd row_dict ?d0 ?d1 ?n1 ?n2 ?n3; (case kf => k_asm); (case kn => (refine' newsSub ?kN ?ks; (case kN => k_asm); (case ks => repeat' (first | (with_reducible exact subRefl) | (with_reducible exact subNil) | (with_reducible refine' subCons (by repeat (first | (with_reducible exact List.mem_cons_self) | (with_reducible refine' memTail ?_))) ?_) | (with_reducible refine' subTail ?_))))); (case kd => assumption); (case d0 => first | assumption | exact .inr ⟨by k_extra "OM", _, rfl⟩ | exact .inl ⟨by k_extra "OM", rfl⟩); (case d1 => first | assumption | exact .inr ⟨by k_extra "OM", _, rfl⟩ | exact .inl ⟨by k_extra "OM", rfl⟩); (case n1 => exact Nat.ne_of_gt (ltN (by first | (with_reducible assumption) | (with_reducible exact ltr (by with_reducible assumption) (by with_reducible assumption)) | k_extra "OM"))); (case n2 => exact Nat.ne_of_gt (ltN (by first | (with_reducible assumption) | (with_reducible exact ltr (by with_reducible assumption) (by with_reducible assumption)) | k_extra "OM"))); (case n3 => exact fun q hq => Nat.ne_of_gt (ktn_ltOf (And.right (And.right (by assumption))) q hq)))
end SS8
section SS5
theorem seg5 (w : World) (mean : ExcName → Option Value) (mg mb : Str → Option Value) {W Ar e f cl lfm q0 q1 q2 dd0 dd1 dd2 : Addr} {fo : Obj} {A0 A1 TP OW S : Led} {av av0 : List Value} {na nf c n : Nat} {tg : Nat → Str} {vl : Nat → Value} {xs : List Addr} {es : List Int} {k0 k1 f0 f1 d0 d1 : Int} {vb : Value}
    {st0 st1 st2 c1 c2 c3 c4 c5 t1 t2 t3 t4 t5 t6 t7 : Tok} {cv1 cv3 cv4 cv5 w1 w2 w3 w4 w6 w7 : Value} {v0 v1 v2 v3 v4 v5 v6 v8 v9 v10 v12 v14 v15 v16 : Option Value}
    {scope : Scope} {cdv : Value} {bd : List Stmt} (hL : LawFn w bd scope cdv) {dp un : Nat} {gd : Option (List Code)} {A₀ : Around} {base g : Heap} {L cc : Addr} {oc : Obj} {ge : Array GenState} {dr : Drawn} {tk : Nat} {os : OsState} {h : Heap} {Q : Flow → Shared → Prop}
    (B : Below A₀ base [] g) (F : Fr g L h (frm ksLaw [v0, v1, v2, v3, v4, v5, v6, some (.ref Ar), v8, v9, v10, some (.ref e), v12, some (.ref cl), v14, v15, v16])) (X : (Mine.hd.heap_39 w.params).In g) (N : News g L h ((f, fo) :: (A0 ++ (A1 ++ OW)))) (T : Top VW LO mean mg mb g) (hd : dp + 40 < recursionLimit) (hu : un + 400 < cLine) (hoc : oc.data = .cell (some (.ref W)))
    (hcl : Rec w OW cl 278 ksClosure [(c1, cv1), (c2, .ref lfm), (c3, cv3), (c4, cv4), (c5, cv5)]) (hlfm : (lfm, listOf [.ref q0, .ref q1, .ref q2].toArray nf) ∈ OW)
    (hq0 : (q0, tupOf [.str (xyN 0) st0, .ref dd0]) ∈ OW) (hq1 : (q1, tupOf [.str (xyN 1) st1, .ref dd1]) ∈ OW) (hq2 : (q2, tupOf [.str (Str.ofString "...") st2, .ref dd2]) ∈ OW) (hf0 : DfOk w S dd0 d0) (hf1 : DfOk w S dd1 d1) (hS : ∀ p ∈ S, p ∈ OW)
    (he : Rec w OW e 300 ksEnvironment [(t1, w1), (t2, w2), (t3, w3), (t4, w4), (t5, .ref f), (t6, w6), (t7, w7)]) (hla : (Ar, listOf av.toArray na) ∈ OW) (hav : ArgsAre S av (c + n) (tgX c tg) (vlX c vl xs)) (hA2 : A2 w A0 A1 TP av0 c tg vl k0 k1 f0 f1 vb) (hn : n ≤ 2) (hxl : xs.length = n)
    (hx : ∀ j, j < n → XtOk w S (xs.getD j 0) (es.getD j 0)) (hfo : fo.IsDictOf (strKind PR w) []) (lo : (f == sysModules) = false) (hf : ∀ p ∈ A0 ++ (A1 ++ OW), p.1 ≠ f) (hp0 : Apart A0 (A1 ++ OW)) (hp1 : Apart A1 OW)
    {rest : List Stmt}
    (kont : ∀ h tk (fo' : Obj) (NB : Led) (kvs : List (Str × Value)) (b0 b1 d : Addr), Fr g L h (frm ksLaw [v0, v1, v2, v3, v4, v5, v6, some (.ref Ar), v8, v9, v10, some (.ref e), v12, some (.ref cl), v14, v15, v16]) → News g L h ((f, fo') :: (NB ++ OW)) → (∀ p ∈ NB, p.1 ≠ f ∧ ∀ q ∈ OW, @Ne Nat p.1 q.1) →
      fo'.IsDictOf (strKind PR w) kvs → kvs.map (·.1) = [Str.ofString "x", Str.ofString "y", Str.ofString "..."] → valueAt kvs (xyN 0) = some (.ref b0) → valueAt kvs (xyN 1) = some (.ref b1) → valueAt kvs (Str.ofString "...") = some (.ref d) →
      BndOk w (NB ++ S) e vb k0 d0 f0 b0 → BndOk w (NB ++ S) e vb k1 d1 f1 b1 → DotsOk w (NB ++ S) d n (fun j => es.getD j 0) → wpAny (model PR w) (ktrTop dp un gd (Str.ofString "law") scope L 481 cdv [(Str.ofString "well", cc)] []) (execs (rest) (envX (Str.ofString "law") scope L 481 cdv [(Str.ofString "well", cc)])) Q (fun _ _ => False) ⟨h, ge, dr, tk, os⟩) :
    wpAny (model PR w) (ktrTop dp un gd (Str.ofString "law") scope L 481 cdv [(Str.ofString "well", cc)] []) (execs (hdS (bodS (hdS bd.tail.tail.tail.tail)).tail.tail.tail.tail.tail.tail.tail.tail.tail.tail.tail :: rest) (envX (Str.ofString "law") scope L 481 cdv [(Str.ofString "well", cc)])) Q (fun _ _ => False) ⟨h, ge, dr, tk, os⟩ := by
  obtain ⟨LT, GT⟩ := law_tab hL
  obtain ⟨oc', od', osl', name', qual', params', dV', kV', doc', pm', an', ct', ho'⟩ := hL
  rw [show (Mine.hd.heap_39 w.params).lookup 481 = some _ from rfl] at ho'
  cases ho'
  unfold ksLaw at F LT
  unfold gsLaw at GT
  dsimp only [hdS, bodS, List.tail_cons]
  k_extra "S0"
  refine' Tell.use (t_bind w mean mg mb OW S (fun i => if i = 0 then A0 else A1) cl e f lfm Ar fo (c + n) c (tgX c tg) (vlX c vl xs) av nf na (fun i => if i = 0 then q0 else if i = 1 then q1 else q2) (fun i => if i = 0 then dd0 else if i = 1 then dd1 else dd2) (fun i => if i = 0 then st0 else if i = 1 then st1 else st2) (fun i => if i = 0 then k0 else k1) (fun i => if i = 0 then d0 else d1) (fun i => if i = 0 then f0 else f1) (fun j => es.getD j 0) vb
    c1 c2 c3 c4 c5 cv1 cv3 cv4 cv5 t1 t2 t3 t4 t5 t6 t7 w1 w2 w3 w4 w6 w7 hcl hlfm ?hq ?hdf he hla hS hav ?hn ?hun ?hc ?hc1 ?hc2 ?hk ?hx hfo lo hf hp0 hp1) ?B ?F ?X ?N subRefl ?T rfl ?hd ?hu ?ret
  case hq =>
    intro i hi
    have : i = 0 ∨ i = 1 ∨ i = 2 := by k_extra "OM"
    rcases this with rfl | rfl | rfl
    · exact hq0
    · exact hq1
    · exact hq2
  case hdf =>
    intro i hi
    rcases xy_cases hi with rfl | rfl
    · exact hf0
    · exact hf1
  case hn => have := hA2.2.1; omega
  case hun =>
    intro i hi p q hp hq e1 e2
    have zz : Str.ofString "zz" ≠ xyN i := by rcases xy_cases hi with rfl | rfl <;> decide +kernel
    unfold tgX at e1 e2
    split at e1
    · split at e2
      · exact hA2.2.2.2.1 i p q (by assumption) (by assumption) e1 e2
      · exact absurd e2 zz
    · exact absurd e1 zz
  case hc => k_extra "OM"
  case hc1 => intro p hp; rw [show tgX c tg p = tg p from if_pos hp]; exact hA2.2.2.1 p hp
  case hc2 => intro p hp _; exact if_neg (by k_extra "OM")
  case hk =>
    have zz : ∀ i : Nat, i < 2 → Str.ofString "zz" ≠ xyN i := fun i hi => by rcases xy_cases hi with rfl | rfl <;> decide +kernel
    have low : ∀ i : Nat, i < 2 → ∀ p, tgX c tg p = xyN i → p < c := fun i hi p e => by
      unfold tgX at e
      split at e
      · assumption
      · exact absurd e (zz i hi)
    intro i hi
    rcases xy_cases hi with rfl | rfl
    · rcases hA2.2.2.2.2.1 with ⟨h1, h2⟩ | ⟨h1, ⟨p, hp, e1⟩, va, h3, h4⟩
      · exact .inl ⟨h1, fun p _ e => h2 p (low 0 (by k_extra "OM") p e) ((if_pos (low 0 (by k_extra "OM") p e)).symm.trans e)⟩
      · refine .inr ⟨h1, ⟨p, by k_extra "OM", by rw [show tgX c tg p = tg p from if_pos hp]; exact e1⟩, va, fun p _ e => ?_, h4⟩
        have hp := low 0 (by k_extra "OM") p e
        rw [show vlX c vl xs p = vl p from if_pos hp]
        exact h3 p hp ((if_pos hp).symm.trans e)
    · rcases hA2.2.2.2.2.2 with ⟨h1, h2⟩ | ⟨h1, ⟨p, hp, e1⟩, va, h3, h4⟩
      · exact .inl ⟨h1, fun p _ e => h2 p (low 1 (by k_extra "OM") p e) ((if_pos (low 1 (by k_extra "OM") p e)).symm.trans e)⟩
      · refine .inr ⟨h1, ⟨p, by k_extra "OM", by rw [show tgX c tg p = tg p from if_pos hp]; exact e1⟩, va, fun p _ e => ?_, h4⟩
        have hp := low 1 (by k_extra "OM") p e
        rw [show vlX c vl xs p = vl p from if_pos hp]
        exact h3 p hp ((if_pos hp).symm.trans e)
  case hx =>
    intro j hj
    refine ⟨xs.getD j 0, ?_, hx j (by k_extra "OM")⟩
    unfold vlX
    rw [if_neg (by k_extra "OM"), show c + j - c = j by k_extra "OM"]
  case B => k_asm
  case F => k_asm
  case X => k_asm
  case N => k_asm
  case T => k_asm
  case hd => k_extra "OM"
  case hu => k_extra "OM"
  case ret =>
  rintro r' news' h' tk' F' N' ⟨fo', tl, Bs, kvs, rfl, rfl, J⟩
  k_sweep
  obtain ⟨j1, j2, j3, j4, j5, j6, j7⟩ := J
  obtain ⟨b0, hb0, hB0⟩ := j6 0 (by k_extra "OM") (by k_extra "OM")
  obtain ⟨b1, hb1, hB1⟩ := j6 1 (by k_extra "OM") (by k_extra "OM")
  obtain ⟨d, hvd, hD⟩ := j7 rfl
  rw [show c + n - c = n by k_extra "OM"] at hD
  k_extra "S0"
  refine' kont _ _ fo' (tl ++ (Bs 0 ++ Bs 1)) kvs b0 b1 d ?kf ?kn ?kg j1 j2 hb0 hb1 hvd (hB0.mono ?m0) (hB1.mono ?m1) (hD.mono ?m2)
  case kf => k_asm
  case kn => exact newsSub (by k_asm) (fun p hp => by simp only [List.mem_cons, List.mem_append] at hp ⊢; rcases hp with h | (h | h | h) | h <;> simp [h])
  case m0 => exact fun p hp => by simp only [List.mem_append] at hp ⊢; rcases hp with h | h | h <;> simp [h]
  case m1 => exact fun p hp => by simp only [List.mem_append] at hp ⊢; rcases hp with h | h | h <;> simp [h]
  case m2 => exact fun p hp => by simp only [List.mem_append] at hp ⊢; rcases hp with h | h <;> simp [h]
  case kg =>
    intro p hp
    rcases List.mem_append.mp hp with hp | hp
    · exact ⟨(j5 p hp).1, (j5 p hp).2.1⟩
    · have key : ∀ k : Nat, k < 2 → ∀ p ∈ Bs k, p.1 ≠ f ∧ ∀ q ∈ OW, @Ne Nat p.1 q.1 := fun k hk p hp => by
        obtain ⟨r, hr, e⟩ := j4 k hk p hp
        rw [← e]
        rcases xy_cases hk with rfl | rfl
        · exact ⟨hf r (memLeft hr), fun q hq => hp0 r hr q (memApp hq)⟩
        · exact ⟨hf r (memApp (memLeft hr)), fun q hq => hp1 r hr q hq⟩
      rcases List.mem_append.mp hp with hp | hp
      · exact key 0 (by k_extra "OM") p hp
      · exact key 1 (by k_extra "OM") p hp
end SS5
section SS3
theorem ints_snoc {vs : List Value} {ns : List Int} {x : Int} {t : Tok} (h : IntsAre vs ns) : IntsAre (vs ++ [.int x t]) (ns ++ [x]) := by
  induction h with
  | nil => exact .cons x t .nil
  | cons y t _ ih => exact .cons y t ih
theorem compRange {w : World} {A : Around} {h₀ : Heap} {L : Addr} {m : Str → Option Value} {env : Env} {elt : PySem.Expr} {x : Str} {scope : Scope} {cl : List (Str × Addr)} {Fin : Shared → List Value → Led → Prop} {r : Addr} {b : Int} {t u v : Tok} {news : Led} {s₁ : Shared}
    (hh : A.handled = none) (F : Fr h₀ L s₁.heap m) (N : News h₀ L s₁.heap news) (hr : IsRange s₁.heap r 0 b 1 t u v) (h0 : 0 ≤ b) (h1 : b ≤ 1000)
    (h : ∀ g, LCg.CompRest PR w A h₀ L m env elt x scope cl { s₁ with heap := g } (fun _ => True) (fun i v => ∃ t, v = .int (0 + (i : Int)) t) (Fin { s₁ with heap := g }) b.toNat 0 [] news) :
    LCg.CompSrc PR w A h₀ L m env elt x scope cl Fin (.ref r) s₁ :=
  LCg.CompSrc.range hh F N hr (small_of (by decide) (by decide) h0 (by k_extra "OM")) (by rw [size_of h0]; omega) (by rw [sizeLine_eq]; omega) h
theorem seg3a (w : World) (mean : ExcName → Option Value) (mg mb : Str → Option Value) {W R E Dd Ar : Addr} {eo do_ : Obj} {a k : Int} {ta tk0 : Tok} {nW nR na : Nat} {vr av : List Value} {ns : List Int} {Rest : Led} {v0 v1 v2 v3 v4 v5 v6 v8 v9 v10 v11 v12 v13 v14 v15 v16 : Option Value}
    {scope : Scope} {cdv : Value} {bd : List Stmt} (hL : LawFn w bd scope cdv) {dp un : Nat} {gd : Option (List Code)} {A₀ : Around} {base g : Heap} {L cc : Addr} {oc : Obj} {ge : Array GenState} {dr : Drawn} {tk : Nat} {os : OsState} {h : Heap} {Q : Flow → Shared → Prop}
    (B : Below A₀ base [] g) (F : Fr g L h (frm ksLaw [v0, v1, v2, v3, v4, v5, v6, some (.ref Ar), v8, v9, v10, v11, v12, v13, v14, v15, v16])) (X : (Mine.hd.heap_39 w.params).In g) (N : News g L h ((W, listOf #[.int a ta, .ref R, .int k tk0] nW) :: (cc, oc) :: (E, eo) :: (Dd, do_) :: (Ar, listOf av.toArray na) :: Rest)) (T : Top VW LO mean mg mb g) (hd : dp + 40 < recursionLimit) (hu : un + 400 < cLine) (hoc : oc.data = .cell (some (.ref W)))
    (hW : LCg.Off1 W ((cc, oc) :: (E, eo) :: (Dd, do_) :: (Ar, listOf av.toArray na) :: Rest)) (hR : (R, listOf vr.toArray nR) ∈ Rest) (hRW : @Ne Nat R W) (hi : IntsAre vr ns) (hn1 : 0 < ns.length) (hn2 : ns.length ≤ 40) (ha : 0 ≤ a) (ha' : a < 10^70) (hk : 0 ≤ k) (hk' : k ≤ 900)
    {rest : List Stmt}
    (kont : ∀ h tk Ex (ys : List Value) (es : List Int) (ne : Nat) (a k' : Int) (ta tk0 : Tok), Fr g L h (frm ksLaw [v0, v1, v2, v3, v4, v5, v6, some (.ref Ar), v8, some (.ref Ex), v10, v11, v12, v13, v14, v15, v16]) →
      News g L h ((W, listOf #[.int a ta, .ref R, .int k' tk0] nW) :: (cc, oc) :: (E, eo) :: (Dd, do_) :: (Ar, listOf av.toArray na) :: (Ex, listOf ys.toArray ne) :: Rest) → IntsAre ys es → es.length ≤ 2 → (∀ e ∈ es, 40 ≤ e ∧ e < 60) →
      (∀ b ∈ [W, cc, E, Dd], @Ne Nat Ex b) → (∀ q ∈ Rest, @Ne Nat Ex q.1) → @Ne Nat Ex Ar → 0 ≤ a → a < 10^70 → 0 ≤ k' → k' ≤ k + 3 → wpAny (model PR w) (ktrTop dp un gd (Str.ofString "law") scope L 481 cdv [(Str.ofString "well", cc)] []) (execs (rest) (envX (Str.ofString "law") scope L 481 cdv [(Str.ofString "well", cc)])) Q (fun _ _ => False) ⟨h, ge, dr, tk, os⟩) :
    wpAny (model PR w) (ktrTop dp un gd (Str.ofString "law") scope L 481 cdv [(Str.ofString "well", cc)] []) (execs (hdS (bodS (hdS bd.tail.tail.tail.tail)).tail.tail.tail.tail.tail :: rest) (envX (Str.ofString "law") scope L 481 cdv [(Str.ofString "well", cc)])) Q (fun _ _ => False) ⟨h, ge, dr, tk, os⟩ := by
  obtain ⟨LT, GT⟩ := law_tab hL
  obtain ⟨oc', od', osl', name', qual', params', dV', kV', doc', pm', an', ct', ho'⟩ := hL
  rw [show (Mine.hd.heap_39 w.params).lookup 481 = some _ from rfl] at ho'
  cases ho'
  unfold ksLaw at F LT
  unfold gsLaw at GT
  dsimp only [hdS, bodS, List.tail_cons]
  k_extra "SK"
  refine' compRange ?hh ?F ?N ?hr ?h0 ?h1 ?_
  case hh => rfl
  case F => k_asm
  case N => k_asm
  case hr => assumption
  case h0 => k_extra "OM"
  case h1 => k_extra "OM"
  intro gg
  refine' compU_inv (fun i ys news => ∃ (a k' : Int) (ta tk0 : Tok) (es : List Int), news = (W, listOf #[.int a ta, .ref R, .int k' tk0] nW) :: (cc, oc) :: (E, eo) :: (Dd, do_) :: (Ar, listOf av.toArray na) :: Rest ∧ IntsAre ys es ∧ es.length = i ∧ (∀ e ∈ es, 40 ≤ e ∧ e < 60) ∧ 0 ≤ a ∧ a < 10^70 ∧ 0 ≤ k' ∧ k' ≤ k + 1 + i) ?start ?step ?fin
  case start => exact ⟨_, _, _, _, [], rfl, .nil, rfl, (fun _ h => nomatch h), by assumption, by assumption, by k_extra "OM", by k_extra "OM"⟩
  case step =>
    rintro i ys news v I oI C oC D m₂ h tk E' hi' ⟨a2, k2, ta2, tk2, es, rfl, hys, hel, hes, b1, b2, b3, b4⟩ ⟨t, rfl⟩ hC hx F N off ne
    have w1 : @Ne Nat W I := off.1.1
    have w2 : @Ne Nat W C := off.1.2.1
    have w3 : @Ne Nat W D := off.1.2.2
    clear ne
    dsimp only
    k_extra "SK"
    refine' compEnd (by k_asm) (by k_asm) _ List.mem_cons_self (List.mem_cons_of_mem _ List.mem_cons_self) (List.mem_cons_of_mem _ (List.mem_cons_of_mem _ List.mem_cons_self)) (fun _ h => memTail (memTail (memTail h))) (show LCg.Off3 I C D ((W, listOf _ _) :: (cc, oc) :: (E, eo) :: (Dd, do_) :: (Ar, listOf av.toArray na) :: Rest) from ⟨⟨w1, w2, w3⟩, off.2⟩) trivial ⟨_, _, _, _, es ++ [_], rfl, ints_snoc hys, by rw [List.length_append, hel]; rfl, fun e he => ?_, by assumption, by assumption, by k_extra "OM", by k_extra "OM"⟩
    rcases List.mem_append.mp he with he | he
    · exact hes e he
    · rw [List.mem_singleton.mp he]; omega
  case fin =>
    rintro ys news ⟨a2, k2, ta2, tk2, es, rfl, hys, hel, hes, b1, b2, b3, b4⟩
    unfold LCg.FinA
    intro D h tk F N o1
    (try dsimp only at F)
    (try dsimp only at N)
    replace F := fr_put LT F (by k_extra "ktr_rel")
    have h1 := o1.1
    have h2 := o1.2.1
    have h3 := o1.2.2.1
    have h4 := o1.2.2.2.1
    have h5 := o1.2.2.2.2.1
    have h6 := off1_mem o1.2.2.2.2.2
    k_extra "SK"
    refine' kont _ _ _ ys es _ _ _ _ _ ?kf ?kn hys (by k_extra "OM") hes ?z1 ?z2 (Ne.symm h5) b1 b2 b3 (by k_extra "OM")
    case kf => k_asm
    case kn => (refine' newsSub ?kN ?ks; (case kN => k_asm); (case ks => repeat' (first | (with_reducible exact subRefl) | (with_reducible exact subNil) | (with_reducible refine' subCons (by repeat (first | (with_reducible exact List.mem_cons_self) | (with_reducible refine' memTail ?_))) ?_) | (with_reducible refine' subTail ?_))))
    case z1 => simp only [List.forall_mem_cons]; exact ⟨Ne.symm h1, Ne.symm h2, Ne.symm h3, Ne.symm h4, fun _ h => nomatch h⟩
    case z2 => exact fun q hq => Ne.symm (h6 q hq)
end SS3
section STURN
theorem perm_t5 {W cc E Dd Ar f Ex : Addr × Obj} {A0 A1 NT TL TP R1 : Led} : ∀ p ∈ f :: (A0 ++ (A1 ++ (W :: cc :: E :: Dd :: Ar :: (NT ++ (TL ++ (Ex :: (TP ++ R1))))))), p ∈ W :: cc :: E :: Dd :: Ar :: f :: (NT ++ (TL ++ (Ex :: (A0 ++ (A1 ++ (TP ++ R1)))))) := by repeat' (first | (with_reducible exact subRefl) | (with_reducible exact subNil) | (with_reducible exact subLeft) | (with_reducible refine' subBoth ?_ ?_) | (refine' subCons (by k_mem) ?_) | (with_reducible refine' subTail ?_) | (with_reducible refine' subApp ?_))
theorem perm_t8 {W cc E Dd Ar f Ex : Addr × Obj} {NB NT TL TP R1 : Led} : ∀ p ∈ E :: Dd :: W :: cc :: f :: Ar :: (NB ++ (NT ++ (TL ++ (Ex :: (TP ++ R1))))), p ∈ f :: (NB ++ (W :: cc :: E :: Dd :: Ar :: (NT ++ (TL ++ (Ex :: (TP ++ R1)))))) := by repeat' (first | (with_reducible exact subRefl) | (with_reducible exact subNil) | (with_reducible exact subLeft) | (with_reducible refine' subBoth ?_ ?_) | (refine' subCons (by k_mem) ?_) | (with_reducible refine' subTail ?_) | (with_reducible refine' subApp ?_))
theorem perm_t9 {W cc E Dd Ar f d Ex x y : Addr × Obj} {NB NT TL TP R : Led} : ∀ p ∈ W :: cc :: E :: Dd :: d :: f :: ((Ar :: (NB ++ (NT ++ (TL ++ (Ex :: TP))))) ++ R), p ∈ E :: Dd :: d :: W :: cc :: f :: Ar :: (NB ++ (NT ++ (TL ++ (Ex :: (TP ++ (x :: y :: R)))))) := by repeat' (first | (with_reducible exact subRefl) | (with_reducible exact subNil) | (with_reducible exact subLeft) | (with_reducible refine' subBoth ?_ ?_) | (refine' subCons (by k_mem) ?_) | (with_reducible refine' subTail ?_) | (with_reducible refine' subApp ?_))
theorem intsFn_of {ys : List Value} {es : List Int} (h : IntsAre ys es) : IntsFn ys es.length fun j => es.getD j 0 := by
  refine ⟨ints_len h, fun p hp => ?_⟩
  have hl := ints_len h
  have e : ys[p]? = some ys[p] := List.getElem?_eq_getElem (by k_extra "OM")
  obtain ⟨_, t, ht⟩ := ints_at h e
  exact ⟨t, by rw [e, ht]⟩
theorem law_turn (w : World) (mean : ExcName → Option Value) (mg mb : Str → Option Value) {W R E Dd : Addr} {a k lev : Int} {ta tk0 tl : Tok} {nW nR n1 n2 : Nat} {vr es ds : List Value} {ns : List Int} {Rest : Led} {vb : Value} {v0 v5 v6 v7 v8 v9 v10 v11 v12 v13 v14 v15 v16 : Option Value}
    {scope : Scope} {cdv : Value} {bd : List Stmt} (hL : LawFn w bd scope cdv) {dp un : Nat} {gd : Option (List Code)} {A₀ : Around} {base g : Heap} {L cc : Addr} {oc : Obj} {ge : Array GenState} {dr : Drawn} {tk : Nat} {os : OsState} {h : Heap} {Q : Flow → Shared → Prop}
    (B : Below A₀ base [] g) (F : Fr g L h (frm ksLaw [v0, some (.ref E), some (.ref Dd), some vb, some (.int lev tl), v5, v6, v7, v8, v9, v10, v11, v12, v13, v14, v15, v16])) (X : (Mine.hd.heap_39 w.params).In g) (N : News g L h ((W, listOf #[.int a ta, .ref R, .int k tk0] nW) :: (cc, oc) :: (E, listOf es.toArray n1) :: (Dd, listOf ds.toArray n2) :: Rest)) (T : Top VW LO mean mg mb g) (hd : dp + 40 < recursionLimit) (hu : un + 400 < cLine) (hoc : oc.data = .cell (some (.ref W)))
    (e1 : @Ne Nat cc W) (e2 : @Ne Nat E W) (e3 : @Ne Nat Dd W) (e4 : @Ne Nat cc E) (e5 : @Ne Nat cc Dd) (e6 : @Ne Nat E Dd) (oR : ∀ p ∈ Rest, ∀ b ∈ [W, cc, E, Dd], @Ne Nat p.1 b)
    (hR : (R, listOf vr.toArray nR) ∈ Rest) (hRW : @Ne Nat R W) (hi : IntsAre vr ns) (hn1 : 0 < ns.length) (hn2 : ns.length ≤ 40) (ha : 0 ≤ a) (ha' : a < 10^70) (hk : 0 ≤ k) (hk' : k ≤ 800)
    (hvb : vb = .none ∨ ∃ b, vb = .ref b ∧ EnvNum w Rest b (lev - 1)) (hl0 : 0 ≤ lev) (hl1 : lev < 10) (hel : es.length ≤ 10) (hdl : ds.length ≤ 10)
    (kont : ∀ h tk (e f d b0 b1 dts : Addr) (fo do_ : Obj) (kvs rvs : List (Str × Value)) (u0 u1 : Value) (n : Nat) (ex : Nat → Int) (k0 k1 d0 d1 : Int) (NR : Led) (a k' : Int) (ta tk0 : Tok) (t1 t2 t3 t4 t5 t6 t7 : Tok) (w1 w3 w4 w6 w7 : Value) (v5 v6 v7 v8 v9 v10 v12 v13 : Option Value),
      Fr g L h (frm ksLaw [v0, some (.ref E), some (.ref Dd), some (.ref e), some (.int lev tl), v5, v6, v7, v8, v9, v10, some (.ref e), v12, v13, some (.ref d), v15, v16]) →
      News g L h ((W, listOf #[.int a ta, .ref R, .int k' tk0] nW) :: (cc, oc) :: (E, listOf (es ++ [Value.ref e]).toArray (n1 + 1)) :: (Dd, listOf (ds ++ [Value.ref d]).toArray (n2 + 1)) :: (d, do_) :: (f, fo) :: (NR ++ Rest)) →
      Rec w NR e 300 ksEnvironment [(t1, w1), (t2, .int lev tl), (t3, w3), (t4, w4), (t5, .ref f), (t6, w6), (t7, w7)] → fo.IsDictOf (strKind PR w) kvs → (f == sysModules) = false → kvs.map (·.1) = [Str.ofString "x", Str.ofString "y", Str.ofString "..."] → valueAt kvs (xyN 0) = some (.ref b0) → valueAt kvs (xyN 1) = some (.ref b1) → valueAt kvs (Str.ofString "...") = some (.ref dts) →
      do_.IsDictOf (strKind PR w) rvs → RowOk rvs u0 u1 (.bool ((n : Int) == 0)) → DotsOk w NR dts n ex → n ≤ 2 → BndOk w NR e vb k0 d0 (10 * lev + 0) b0 → DueIs k0 u0 → BndOk w NR e vb k1 d1 (10 * lev + 1) b1 → DueIs k1 u1 → (vb = .none → k0 ≤ 2 ∧ k1 ≤ 2) → 0 ≤ k0 → 0 ≤ k1 → k0 < 6 → k1 < 6 →
      (∀ p ∈ (d, do_) :: (f, fo) :: NR, (∀ b ∈ [W, cc, E, Dd], @Ne Nat p.1 b) ∧ ∀ q ∈ Rest, @Ne Nat p.1 q.1) → (∀ p ∈ NR, @Ne Nat p.1 f ∧ @Ne Nat p.1 d) → @Ne Nat d f → 0 ≤ a → a < 10^70 → 0 ≤ k' → k' ≤ k + 7 → Q .next ⟨h, ge, dr, tk, os⟩) :
    wpAny (model PR w) (ktrTop dp un gd (Str.ofString "law") scope L 481 cdv [(Str.ofString "well", cc)] []) (execs (hdS (bodS (hdS bd.tail.tail.tail.tail)) :: hdS (bodS (hdS bd.tail.tail.tail.tail)).tail :: hdS (bodS (hdS bd.tail.tail.tail.tail)).tail.tail :: hdS (bodS (hdS bd.tail.tail.tail.tail)).tail.tail.tail :: hdS (bodS (hdS bd.tail.tail.tail.tail)).tail.tail.tail.tail :: hdS (bodS (hdS bd.tail.tail.tail.tail)).tail.tail.tail.tail.tail :: hdS (bodS (hdS bd.tail.tail.tail.tail)).tail.tail.tail.tail.tail.tail :: hdS (bodS (hdS bd.tail.tail.tail.tail)).tail.tail.tail.tail.tail.tail.tail :: hdS (bodS (hdS bd.tail.tail.tail.tail)).tail.tail.tail.tail.tail.tail.tail.tail :: hdS (bodS (hdS bd.tail.tail.tail.tail)).tail.tail.tail.tail.tail.tail.tail.tail.tail :: hdS (bodS (hdS bd.tail.tail.tail.tail)).tail.tail.tail.tail.tail.tail.tail.tail.tail.tail :: hdS (bodS (hdS bd.tail.tail.tail.tail)).tail.tail.tail.tail.tail.tail.tail.tail.tail.tail.tail :: hdS (bodS (hdS bd.tail.tail.tail.tail)).tail.tail.tail.tail.tail.tail.tail.tail.tail.tail.tail.tail :: hdS (bodS (hdS bd.tail.tail.tail.tail)).tail.tail.tail.tail.tail.tail.tail.tail.tail.tail.tail.tail.tail :: hdS (bodS (hdS bd.tail.tail.tail.tail)).tail.tail.tail.tail.tail.tail.tail.tail.tail.tail.tail.tail.tail.tail :: hdS (bodS (hdS bd.tail.tail.tail.tail)).tail.tail.tail.tail.tail.tail.tail.tail.tail.tail.tail.tail.tail.tail.tail :: hdS (bodS (hdS bd.tail.tail.tail.tail)).tail.tail.tail.tail.tail.tail.tail.tail.tail.tail.tail.tail.tail.tail.tail.tail :: hdS (bodS (hdS bd.tail.tail.tail.tail)).tail.tail.tail.tail.tail.tail.tail.tail.tail.tail.tail.tail.tail.tail.tail.tail.tail :: hdS (bodS (hdS bd.tail.tail.tail.tail)).tail.tail.tail.tail.tail.tail.tail.tail.tail.tail.tail.tail.tail.tail.tail.tail.tail.tail :: []) (envX (Str.ofString "law") scope L 481 cdv [(Str.ofString "well", cc)])) Q (fun _ _ => False) ⟨h, ge, dr, tk, os⟩ := by
  have oW : ∀ p ∈ Rest, p.1 ≠ W := fun p hp => oR p hp W (by simp)
  refine seg1 w mean mg mb hL B F X N T hd hu hoc ⟨e1, e2, e3, off1_of oW⟩ hR hRW hi hn1 hn2 ha ha' hk (by k_extra "OM") (by rcases hvb with rfl | ⟨b, rfl, _⟩; exact .inl rfl; exact .inr ⟨b, rfl⟩) ?_
  intro h1 tk1 Df Kn d0 d1 k0 k1 a1 c1 ta1 tb1 s0 s1 s2 s3 nd nk F N gr1 hd00 hd01 hd10 hd11 hk00 hk01 hk10 hk11 hkn ha0 ha1 hc0 hc1
  have hvb2 : (vb = .none ∧ k0 ≤ 2 ∧ k1 ≤ 2) ∨ ∃ b, vb = .ref b := by
    rcases hvb with rfl | ⟨b, rfl, _⟩
    · exact .inl ⟨rfl, hkn rfl⟩
    · exact .inr ⟨b, rfl⟩
  obtain ⟨R1, hR1⟩ : ∃ R1, R1 = (Df, listOf [.int d0 s0, .int d1 s1].toArray nd) :: (Kn, listOf [.int k0 s2, .int k1 s3].toArray nk) :: Rest := ⟨_, rfl⟩
  rw [← hR1] at N gr1
  have mDf : (Df, listOf [.int d0 s0, .int d1 s1].toArray nd) ∈ R1 := by rw [hR1]; exact List.mem_cons_self
  have mKn : (Kn, listOf [.int k0 s2, .int k1 s3].toArray nk) ∈ R1 := by rw [hR1]; exact memTail List.mem_cons_self
  refine seg2 w mean mg mb hL B F X N T hd hu hoc mKn hk00 hk01 hk10 hk11 hvb2 hl0 hl1 ?_
  intro h2 tk2 Ar A0 A1 TP av na c tg vl vat F N hA2 ar1 ar2 fr3 ap0 ap1
  have oR1 : ∀ p ∈ R1, ∀ b ∈ [W, cc, E, Dd], @Ne Nat p.1 b := fun p hp b hb => by
    rcases gr1.2 p hp with h | ⟨h, _⟩
    · exact oR p h b hb
    · exact h b hb
  have oA : ∀ p ∈ A0 ++ (A1 ++ (TP ++ R1)), ∀ b ∈ [W, cc, E, Dd], @Ne Nat p.1 b := fun p hp b hb => by
    simp only [List.mem_append] at hp
    rcases hp with h | h | h | h
    · exact (fr3 p (by k_mem)).1 b hb
    · exact (fr3 p (by k_mem)).1 b hb
    · exact (fr3 p (by k_mem)).1 b hb
    · exact oR1 p h b hb
  have arA : ∀ p ∈ A0 ++ (A1 ++ (TP ++ R1)), @Ne Nat p.1 Ar := fun p hp => by
    simp only [List.mem_append] at hp
    rcases hp with h | h | h | h
    · exact (fr3 p (by k_mem)).2.2
    · exact (fr3 p (by k_mem)).2.2
    · exact (fr3 p (by k_mem)).2.2
    · exact Ne.symm (ar2 p h)
  refine seg3a w mean mg mb hL B F X N T hd hu hoc ⟨e1, e2, e3, ar1 W (by simp), off1_of fun p hp => oA p hp W (by simp)⟩ (memApp (memApp (memApp (gr1.1 _ hR)))) hRW hi hn1 hn2 ha0 ha1 hc0 (by k_extra "OM") ?_
  intro h3 tk3 Ex ys fs ne a2 c2 ta2 tb2 F N hys hle hfs ex1 ex2 ex3 ha2 ha3 hc2 hc3
  refine seg3b w mean mg mb (S := TP) hL B F X N T hd hu hoc List.mem_cons_self hys hle hA2.1 hA2.2.1 (ar1 W (by simp)) (ar1 cc (by simp)) (ar1 E (by simp)) (ar1 Dd (by simp)) (fun p hp => by
    rcases List.mem_cons.mp hp with rfl | hp
    · exact ex3
    · exact arA p hp) ?_
  intro h4 tk4 TL av' na' xs v10 F N hxl havX hxt frT
  refine seg4 w mean mg mb hL B F X N T hd hu hoc (memApp (memTail (memApp (memApp (memApp mDf))))) hd00 hd01 hd10 hd11 ?_
  intro NT h5 tk5 e f cl lfm q0 q1 q2 dd0 dd1 dd2 fo nf st0 st1 st2 c1' c2' c3' c4' c5' t1 t2 t3 t4 t5 t6 t7 cv1 cv3 cv4 cv5 w1 w3 w4 w6 w7 v8 v12 F N hcl hlfm hq0 hq1 hq2 hf0 hf1 he hfo lo frN ff1 ff2 ff3
  have N5 := newsSub N perm_t5
  have inNT : ∀ {o1 o2 o3 o4 o5 : Addr × Obj} {r : Led}, ∀ p ∈ NT, p ∈ o1 :: o2 :: o3 :: o4 :: o5 :: (NT ++ r) := fun p h => memTail (memTail (memTail (memTail (memTail (memLeft h)))))
  refine seg5 w mean mg mb (S := NT ++ (TL ++ TP)) hL B F X N5 T hd hu hoc (hcl.mono inNT) (inNT _ hlfm) (inNT _ hq0) (inNT _ hq1) (inNT _ hq2) (hf0.mono fun _ h => memLeft h) (hf1.mono fun _ h => memLeft h) ?hS (he.mono inNT) (memTail (memTail (memTail (memTail List.mem_cons_self)))) (havX.mono fun _ h => memApp h) hA2 hle hxl (fun j hj => (hxt j hj).mono fun _ h => memApp h) hfo lo ?hf ?hp0 ?hp1 ?_
  case hS =>
    exact by repeat' (first | (with_reducible exact subRefl) | (with_reducible exact subNil) | (with_reducible exact subLeft) | (with_reducible refine' subBoth ?_ ?_) | (refine' subCons (by k_mem) ?_) | (with_reducible refine' subTail ?_) | (with_reducible refine' subApp ?_))
  case hf =>
    intro p hp
    simp only [List.mem_cons, List.mem_append] at hp
    rcases hp with h | h | rfl | rfl | rfl | rfl | rfl | h | h | rfl | h | h
    · exact Ne.symm (ff2 p (by k_mem))
    · exact Ne.symm (ff2 p (by k_mem))
    · exact Ne.symm (ff1 W (by simp))
    · exact Ne.symm (ff1 cc (by simp))
    · exact Ne.symm (ff1 E (by simp))
    · exact Ne.symm (ff1 Dd (by simp))
    · exact Ne.symm (ff1 Ar (by simp))
    · exact ff3 p h
    · exact Ne.symm (ff2 p (by k_mem))
    · exact Ne.symm (ff2 _ (memApp List.mem_cons_self))
    · exact Ne.symm (ff2 p (by k_mem))
    · exact Ne.symm (ff2 p (by k_mem))
  case hp0 =>
    intro p hp q hq
    have z := fr3 p (by k_mem)
    simp only [List.mem_cons, List.mem_append] at hq
    rcases hq with h | rfl | rfl | rfl | rfl | rfl | h | h | rfl | h | h
    · exact ap0 p hp q (by k_mem)
    · exact z.1 W (by simp)
    · exact z.1 cc (by simp)
    · exact z.1 E (by simp)
    · exact z.1 Dd (by simp)
    · exact z.2.2
    · exact Ne.symm ((frN q h).2.1 p (by k_mem))
    · exact Ne.symm ((frT q h).2.1 p (by k_mem))
    · exact Ne.symm (ex2 p (by k_mem))
    · exact ap0 p hp q (by k_mem)
    · exact z.2.1 q h
  case hp1 =>
    intro p hp q hq
    have z := fr3 p (by k_mem)
    simp only [List.mem_cons, List.mem_append] at hq
    rcases hq with rfl | rfl | rfl | rfl | rfl | h | h | rfl | h | h
    · exact z.1 W (by simp)
    · exact z.1 cc (by simp)
    · exact z.1 E (by simp)
    · exact z.1 Dd (by simp)
    · exact z.2.2
    · exact Ne.symm ((frN q h).2.1 p (by k_mem))
    · exact Ne.symm ((frT q h).2.1 p (by k_mem))
    · exact Ne.symm (ex2 p (by k_mem))
    · exact ap1 p hp q h
    · exact z.2.1 q h
  intro h6 tk6 fo' NB kvs b0 b1 dts F N hNB hfo' hks hb0 hb1 hvd hB0 hB1 hD
  have inS : ∀ {o1 o2 o3 o4 o5 o6 ox : Addr × Obj} {r : Led}, ∀ p ∈ NB ++ (NT ++ (TL ++ TP)), p ∈ o6 :: (NB ++ (o1 :: o2 :: o3 :: o4 :: o5 :: (NT ++ (TL ++ (ox :: (TP ++ r)))))) := by repeat' (first | (with_reducible exact subRefl) | (with_reducible exact subNil) | (with_reducible exact subLeft) | (with_reducible refine' subBoth ?_ ?_) | (refine' subCons (by k_mem) ?_) | (with_reducible refine' subTail ?_) | (with_reducible refine' subApp ?_))
  have inN6 : ∀ {o1 o2 o3 o4 o5 o6 : Addr × Obj} {r : Led}, ∀ p ∈ NT, p ∈ o6 :: (NB ++ (o1 :: o2 :: o3 :: o4 :: o5 :: (NT ++ r))) := fun p h => memTail (memApp (inNT p h))
  refine seg6 w mean mg mb hL B F X N T hd hu hoc (he.mono inN6) hfo' lo hks hvd (hD.mono inS) (intsFn_of hys) (memApp (memTail (memTail (memTail (memTail (memTail (memApp (memApp List.mem_cons_self)))))))) (by k_extra "OM") ?_
  intro h7 tk7 F N
  have inR6 : ∀ {o1 o2 o3 o4 o5 o6 ox : Addr × Obj}, ∀ p ∈ R1, p ∈ o6 :: (NB ++ (o1 :: o2 :: o3 :: o4 :: o5 :: (NT ++ (TL ++ (ox :: (TP ++ R1)))))) := by repeat' (first | (with_reducible exact subRefl) | (with_reducible exact subNil) | (with_reducible exact subLeft) | (with_reducible refine' subBoth ?_ ?_) | (refine' subCons (by k_mem) ?_) | (with_reducible refine' subTail ?_) | (with_reducible refine' subApp ?_))
  have inG : ∀ {o1 o2 o3 o4 o5 ox : Addr × Obj}, ∀ p ∈ R1, p ∈ NB ++ (o1 :: o2 :: o3 :: o4 :: o5 :: (NT ++ (TL ++ (ox :: (TP ++ R1))))) := fun p h => memApp (memTail (memTail (memTail (memTail (memTail (memApp (memApp (memTail (memApp h)))))))))
  have hen : EnvNum w NT e lev := ⟨_, _, _, _, _, _, _, _, _, _, _, _, _, _, he⟩
  have hbf : ∀ {o1 o2 o3 o4 o5 o6 ox : Addr × Obj} (kk : Int), (vb = .none → kk ≤ 2) → 3 ≤ kk → ∃ e', vb = .ref e' ∧ EnvNum w (o6 :: (NB ++ (o1 :: o2 :: o3 :: o4 :: o5 :: (NT ++ (TL ++ (ox :: (TP ++ R1))))))) e' (lev - 1) := fun kk h1 h2 => by
    rcases hvb with h | ⟨b, h, hen⟩
    · have := h1 h; omega
    · exact ⟨b, h, hen.mono fun p hp => inR6 p (gr1.1 p hp)⟩
  have hkn0 : vb = .none → k0 ≤ 2 := fun h => (hkn (by rw [h])).1
  have hkn1 : vb = .none → k1 ≤ 2 := fun h => (hkn (by rw [h])).2
  refine seg7 w mean mg mb hL B F X N T hd hu hoc (he.mono inN6) hfo' lo (by rw [xyN_item (by decide) (by decide)]; exact hb0) (by rw [xyN_item (by decide) (by decide)]; exact hb1) (inG _ mDf) (inG _ mKn) (hB0.mono inS) (hB1.mono inS) (hen.mono inN6) hk00 hk10 (hbf k0 hkn0) (hbf k1 hkn1) ?_
  intro h8 tk8 v8' F N
  have N8 := newsSub N perm_t8
  have oG : ∀ b ∈ [E, Dd], ∀ p ∈ (W, listOf #[.int a2 ta2, .ref R, .int c2 tb2] nW) :: (cc, oc) :: (f, fo') :: (Ar, listOf av'.toArray na') :: (NB ++ (NT ++ (TL ++ ((Ex, listOf ys.toArray ne) :: (TP ++ R1))))), @Ne Nat p.1 b := fun b hb p hp => by
    have hb4 : b ∈ [W, cc, E, Dd] := by simp at hb ⊢; rcases hb with h | h <;> simp [h]
    have hbo : ∃ o, (b, o) ∈ (E, listOf es.toArray n1) :: (Dd, listOf ds.toArray n2) :: [] := by
      simp at hb
      rcases hb with rfl | rfl
      · exact ⟨_, List.mem_cons_self⟩
      · exact ⟨_, memTail List.mem_cons_self⟩
    obtain ⟨o, hbo⟩ := hbo
    simp only [List.mem_cons, List.mem_append] at hp
    rcases hp with rfl | rfl | rfl | rfl | h | h | h | rfl | h | h
    · simp at hb; rcases hb with rfl | rfl; exact Ne.symm e2; exact Ne.symm e3
    · simp at hb; rcases hb with rfl | rfl; exact e4; exact e5
    · exact ff1 b (by simp at hb ⊢; rcases hb with h | h <;> simp [h])
    · exact ar1 b hb4
    · refine (hNB p h).2 (b, o) ?_
      simp only [List.mem_cons, List.not_mem_nil, or_false] at hbo
      rcases hbo with h | h <;> simp [h]
    · exact (frN p h).1 b hb4
    · exact (frT p h).1 b hb4
    · exact ex1 b hb4
    · exact (fr3 p (by k_mem)).1 b hb4
    · exact oR1 p h b hb4
  refine seg8 w mean mg mb (rest := []) hL B F X N8 T hd hu hoc (memTail (memTail (memTail (memTail (memApp (memApp (memApp List.mem_cons_self))))))) (by rw [ints_len hys]; omega) (memTail (memTail (memTail (memTail (memApp (memApp (memApp (memTail (memApp mKn))))))))) hk00 hk01 hk10 hk11 hel hdl e6 (oG E (by simp)) (oG Dd (by simp)) ?_
  intro h9 tk9 d do_ rvs u0 u1 v8'' F N hdo hrow hdu0 hdu1 dE dD dG
  refine wpAny_execs_nil ?_
  rw [hR1] at N
  have N9 := newsSub N perm_t9
  refine kont h9 tk9 e f d b0 b1 dts fo' do_ kvs rvs u0 u1 fs.length (fun j => fs.getD j 0) k0 k1 d0 d1 ((Ar, listOf av'.toArray na') :: (NB ++ (NT ++ (TL ++ ((Ex, listOf ys.toArray ne) :: TP))))) a2 c2 ta2 tb2 t1 t2 t3 t4 t5 t6 t7 w1 w3 w4 w6 w7 _ _ _ _ _ _ _ _ F N9 (he.mono ?i1) hfo' lo hks hb0 hb1 hvd hdo ?row (hD.mono ?i2) hle (hB0.mono ?i2) hdu0 (hB1.mono ?i2) hdu1 (fun h => ⟨hkn0 h, hkn1 h⟩) hk00 hk10 hk01 hk11 ?fre ?off ?df ha2 ha3 hc2 (by k_extra "OM")
  case i1 => exact fun p h => memTail (memApp (memLeft h))
  case row => rw [← ints_len hys]; exact hrow
  case i2 =>
    exact by repeat' (first | (with_reducible exact subRefl) | (with_reducible exact subNil) | (with_reducible exact subLeft) | (with_reducible refine' subBoth ?_ ?_) | (refine' subCons (by k_mem) ?_) | (with_reducible refine' subTail ?_) | (with_reducible refine' subApp ?_))
  case fre =>
    have rr : ∀ q ∈ Rest, q ∈ R1 := gr1.1
    have dR : ∀ q ∈ Rest, @Ne Nat d q.1 := fun q hq => dG q (by simp only [List.mem_cons, List.mem_append]; simp [rr q hq])
    intro p hp
    simp only [List.mem_cons, List.mem_append] at hp
    rcases hp with rfl | rfl | rfl | h | h | h | rfl | h
    · refine ⟨?_, dR⟩
      simp only [List.forall_mem_cons]
      exact ⟨dG _ List.mem_cons_self, dG _ (memTail List.mem_cons_self), dE, dD, fun _ h => nomatch h⟩
    · refine ⟨fun b hb => ff1 b (by simp at hb ⊢; rcases hb with h | h | h | h <;> simp [h]), fun q hq => ff2 q ?_⟩
      exact memApp (memTail (memApp (memApp (memApp (rr q hq)))))
    · exact ⟨ar1, fun q hq => ar2 q (rr q hq)⟩
    · refine ⟨?_, fun q hq => (hNB p h).2 q ?_⟩
      · simp only [List.forall_mem_cons]
        exact ⟨(hNB p h).2 _ List.mem_cons_self, (hNB p h).2 _ (memTail List.mem_cons_self), (hNB p h).2 _ (memTail (memTail List.mem_cons_self)), (hNB p h).2 _ (memTail (memTail (memTail List.mem_cons_self))), fun _ h => nomatch h⟩
      · exact memTail (memTail (memTail (memTail (memTail (memApp (memApp (memTail (memApp (rr q hq)))))))))
    · exact ⟨(frN p h).1, fun q hq => (frN p h).2.1 q (memApp (memTail (memApp (memApp (memApp (rr q hq))))))⟩
    · exact ⟨(frT p h).1, fun q hq => (frT p h).2.1 q (memTail (memApp (memApp (memApp (rr q hq)))))⟩
    · exact ⟨ex1, fun q hq => ex2 q (memApp (memApp (memApp (rr q hq))))⟩
    · exact ⟨(fr3 p (by k_mem)).1, fun q hq => (fr3 p (by k_mem)).2.1 q (rr q hq)⟩
  case off =>
    intro p hp
    refine ⟨?_, Ne.symm (dG p ?_)⟩
    · simp only [List.mem_cons, List.mem_append] at hp
      rcases hp with rfl | h | h | h | rfl | h
      · exact Ne.symm (ff1 Ar (by simp))
      · exact (hNB p h).1
      · exact ff3 p h
      · exact Ne.symm (ff2 p (by k_mem))
      · exact Ne.symm (ff2 _ (memApp List.mem_cons_self))
      · exact Ne.symm (ff2 p (by k_mem))
    · simp only [List.mem_cons, List.mem_append] at hp ⊢
      rcases hp with h | h | h | h | h | h <;> simp [h]
  case df => exact dG (f, fo') (memTail (memTail List.mem_cons_self))
end STURN
section SLEV
noncomputable def BindDue (w : World) (I : Led) (en : Nat → Addr) (i : Nat) (b : Addr) (u : Value) : Prop :=
  (u = .bool true ∧ KindRec w I b (Str.ofString "missing")) ∨ (u = .bool true ∧ ∃ ex, PromRec w I b ex (.ref (en i))) ∨ (u = .bool false ∧ ∃ v kd, DoneRec w I b v ∧ KindRec w I v kd) ∨
    (u = .bool false ∧ ∃ i', i = i' + 1 ∧ ∃ x, PromRec w I b (.ref x) (.ref (en i')) ∧ KindRec w I x (Str.ofString "language")) ∨
    (∃ i', i = i' + 1 ∧ ∃ (m : Int) (t : Tok) (x : Addr), 0 ≤ m ∧ m < 2 ∧ u = .str (xyN m) t ∧ PromRec w I b (.ref x) (.ref (en i')) ∧ SymRec w I x (xyN m)) ∨
    (u = .bool false ∧ KindRec w I b (Str.ofString "integer"))
inductive LevAt (w : World) (I Fd Du : Led) (en fr dd : Nat → Addr) (i : Nat) : Prop
  | mk (e0 : ∃ t1 t2 t3 t4 t5 t6 t7 tn w1 w3 w4 w6 w7, Rec w I (en i) 300 ksEnvironment [(t1, w1), (t2, .int (i : Int) tn), (t3, w3), (t4, w4), (t5, .ref (fr i)), (t6, w6), (t7, w7)]) (e1 : (fr i == sysModules) = false)
    (fo : Obj) (kvs : List (Str × Value)) (b0 b1 dts : Addr) (n : Nat) (ex : Nat → Int) (do_ : Obj) (rvs : List (Str × Value)) (u0 u1 : Value) (a1 : (fr i, fo) ∈ Fd) (a2 : fo.IsDictOf (strKind PR w) kvs) (a3 : kvs.map (·.1) = [Str.ofString "x", Str.ofString "y", Str.ofString "..."]) (a4 : valueAt kvs (xyN 0) = some (.ref b0)) (a5 : valueAt kvs (xyN 1) = some (.ref b1)) (a6 : valueAt kvs (Str.ofString "...") = some (.ref dts))
    (a7 : DotsOk w I dts n ex) (a8 : n ≤ 2) (a9 : (dd i, do_) ∈ Du) (a10 : do_.IsDictOf (strKind PR w) rvs) (a11 : RowOk rvs u0 u1 (.bool ((n : Int) == 0))) (a12 : BindDue w I en i b0 u0) (a13 : BindDue w I en i b1 u1) : LevAt w I Fd Du en fr dd i
noncomputable def LevS (w : World) (I Fd Du : Led) (en fr dd : Nat → Addr) (j : Nat) : Prop :=
  (∀ i, i < j → LevAt w I Fd Du en fr dd i) ∧ (∀ i i', i < j → i' < j → i ≠ i' → @Ne Nat (fr i) (fr i') ∧ @Ne Nat (dd i) (dd i')) ∧ Apart Du (Fd ++ I) ∧ Apart Fd I
theorem BindDue.mono {w : World} {I I' : Led} {en en' : Nat → Addr} {i : Nat} {b : Addr} {u : Value} (h : BindDue w I en i b u) (hs : ∀ p ∈ I, p ∈ I') (he : ∀ k, k ≤ i → en' k = en k) : BindDue w I' en' i b u := by
  rcases h with ⟨h, k⟩ | ⟨h, ex, k⟩ | ⟨h, v, kd, k, k2⟩ | ⟨h, i', e, x, k, k2⟩ | ⟨i', e, m, t, x, m0, m1, h, k, k2⟩ | ⟨h, k⟩
  · exact .inl ⟨h, k.mono hs⟩
  · exact .inr (.inl ⟨h, ex, by rw [he i (Nat.le_refl _)]; exact k.mono hs⟩)
  · exact .inr (.inr (.inl ⟨h, v, kd, k.mono hs, k2.mono hs⟩))
  · exact .inr (.inr (.inr (.inl ⟨h, i', e, x, by rw [he i' (by k_extra "OM")]; exact k.mono hs, k2.mono hs⟩)))
  · exact .inr (.inr (.inr (.inr (.inl ⟨i', e, m, t, x, m0, m1, h, by rw [he i' (by k_extra "OM")]; exact k.mono hs, k2.mono hs⟩))))
  · exact .inr (.inr (.inr (.inr (.inr ⟨h, k.mono hs⟩))))
theorem bind_due {w : World} {L : Led} {en : Nat → Addr} {j : Nat} {e b : Addr} {vb : Value} {kind dk fig : Int} {u : Value} (hb : BndOk w L e vb kind dk fig b) (hd : DueIs kind u) (h0 : 0 ≤ kind) (h6 : kind < 6) (hv : vb = .none → kind ≤ 2) (he : en j = e)
    (hvb : (j = 0 ∧ vb = .none) ∨ ∃ i', j = i' + 1 ∧ vb = .ref (en i')) : BindDue w L en j b u := by
  have low : kind < 4 → u = .bool (decide (kind < 2)) := fun h => by
    rcases hd with ⟨_, h2⟩ | ⟨h1, _⟩
    · exact h2
    · omega
  rcases hb with ⟨h1, h2, h3⟩ | ⟨h1, h2, ex, h3⟩ | ⟨h1, v, h2, h3⟩ | ⟨h1, x, h2, h3⟩ | ⟨h1, x, h2, h3⟩
  · exact .inl ⟨by rw [low (by k_extra "OM"), decide_eq_true (by k_extra "OM")], h3⟩
  · exact .inr (.inl ⟨by rw [low (by k_extra "OM"), decide_eq_true (by k_extra "OM")], ex, by rw [he]; exact h3⟩)
  · exact .inr (.inr (.inl ⟨by rw [low (by k_extra "OM"), decide_eq_false (by k_extra "OM")], v, _, h2, h3.kind⟩))
  · rcases hvb with ⟨_, hvb⟩ | ⟨i', hj, hvb⟩
    · have := hv hvb; omega
    · exact .inr (.inr (.inr (.inl ⟨by rw [low (by k_extra "OM"), decide_eq_false (by k_extra "OM")], i', hj, x, hvb ▸ h2, h3⟩)))
  · rcases hvb with ⟨_, hvb⟩ | ⟨i', hj, hvb⟩
    · have := hv hvb; omega
    · rcases hd with ⟨h, _⟩ | ⟨_, t, hu⟩
      · omega
      · exact .inr (.inr (.inr (.inr (.inl ⟨i', hj, kind - 4, t, x, by k_extra "OM", by k_extra "OM", by rw [hu, xyN_item (by k_extra "OM") (by k_extra "OM")], hvb ▸ h2, h3⟩))))
noncomputable def updN (en : Nat → Addr) (j : Nat) (e : Addr) : Nat → Addr := fun i => if i = j then e else en i
theorem updN_same {en : Nat → Addr} {j : Nat} {e : Addr} : updN en j e j = e := if_pos rfl
theorem updN_lt {en : Nat → Addr} {j i : Nat} {e : Addr} (h : i < j) : updN en j e i = en i := if_neg (by k_extra "OM")
theorem LevAt.mono {w : World} {I I' Fd Fd' Du Du' : Led} {en fr dd en' fr' dd' : Nat → Addr} {i : Nat} (h : LevAt w I Fd Du en fr dd i) (h1 : ∀ p ∈ I, p ∈ I') (h2 : ∀ p ∈ Fd, p ∈ Fd') (h3 : ∀ p ∈ Du, p ∈ Du') (g1 : ∀ k, k ≤ i → en' k = en k) (g2 : fr' i = fr i) (g3 : dd' i = dd i) : LevAt w I' Fd' Du' en' fr' dd' i := by
  obtain ⟨⟨t1, t2, t3, t4, t5, t6, t7, tn, w1, w3, w4, w6, w7, hr⟩, lo, fo, kvs, b0, b1, dts, n, ex, do_, rvs, u0, u1, a1, a2, a3, a4, a5, a6, a7, a8, a9, a10, a11, a12, a13⟩ := h
  refine ⟨⟨t1, t2, t3, t4, t5, t6, t7, tn, w1, w3, w4, w6, w7, ?_⟩, by rw [g2]; exact lo, fo, kvs, b0, b1, dts, n, ex, do_, rvs, u0, u1, by rw [g2]; exact h2 _ a1, a2, a3, a4, a5, a6, a7.mono h1, a8, by rw [g3]; exact h3 _ a9, a10, a11, a12.mono h1 g1, a13.mono h1 g1⟩
  rw [g1 i (Nat.le_refl _), g2]
  exact hr.mono h1
theorem lev_step {w : World} {I Fd Du NR : Led} {en fr dd : Nat → Addr} {j : Nat} {e f d : Addr} {fo do_ : Obj} (S : LevS w I Fd Du en fr dd j) (hl : LevAt w (NR ++ I) ((f, fo) :: Fd) ((d, do_) :: Du) (updN en j e) (updN fr j f) (updN dd j d) j)
    (hf : ∀ p ∈ (d, do_) :: (f, fo) :: NR, ∀ q ∈ Du ++ (Fd ++ I), @Ne Nat p.1 q.1) (hN : ∀ p ∈ NR, @Ne Nat p.1 f ∧ @Ne Nat p.1 d) (hdf : @Ne Nat d f) : LevS w (NR ++ I) ((f, fo) :: Fd) ((d, do_) :: Du) (updN en j e) (updN fr j f) (updN dd j d) (j + 1) := by
  obtain ⟨s1, s2, s3, s4⟩ := S
  have frm : ∀ i, i < j → ∃ o, (fr i, o) ∈ Fd := fun i hi => let ⟨_, _, fo, _, _, _, _, _, _, _, _, _, _, a1, _, _, _, _, _, _, _, _, _, _, _, _⟩ := s1 i hi; ⟨fo, a1⟩
  have ddm : ∀ i, i < j → ∃ o, (dd i, o) ∈ Du := fun i hi => let ⟨_, _, _, _, _, _, _, _, _, do_, _, _, _, _, _, _, _, _, _, _, _, a9, _, _, _, _⟩ := s1 i hi; ⟨do_, a9⟩
  refine ⟨fun i hi => ?_, fun i i' hi hi' hne => ?_, fun p hp q hq => ?_, fun p hp q hq => ?_⟩
  · by_cases q : i = j
    · subst q; exact hl
    · exact (s1 i (by k_extra "OM")).mono (fun _ h => memApp h) (fun _ h => memTail h) (fun _ h => memTail h) (fun k hk => updN_lt (by k_extra "OM")) (updN_lt (by k_extra "OM")) (updN_lt (by k_extra "OM"))
  · by_cases q : i = j
    · subst q
      rw [updN_same, updN_same, updN_lt (by k_extra "OM"), updN_lt (by k_extra "OM")]
      obtain ⟨o, ho⟩ := frm i' (by k_extra "OM")
      obtain ⟨o', ho'⟩ := ddm i' (by k_extra "OM")
      exact ⟨hf (f, fo) (by simp) _ (memApp (memLeft ho)), hf (d, do_) (by simp) _ (memLeft ho')⟩
    · by_cases q' : i' = j
      · subst q'
        rw [updN_same, updN_same, updN_lt (by k_extra "OM"), updN_lt (by k_extra "OM")]
        obtain ⟨o, ho⟩ := frm i (by k_extra "OM")
        obtain ⟨o', ho'⟩ := ddm i (by k_extra "OM")
        exact ⟨Ne.symm (hf (f, fo) (by simp) _ (memApp (memLeft ho))), Ne.symm (hf (d, do_) (by simp) _ (memLeft ho'))⟩
      · rw [updN_lt (by k_extra "OM"), updN_lt (by k_extra "OM"), updN_lt (by k_extra "OM"), updN_lt (by k_extra "OM")]
        exact s2 i i' (by k_extra "OM") (by k_extra "OM") hne
  · simp only [List.mem_cons, List.mem_append] at hp hq
    rcases hp with rfl | hp
    · rcases hq with (rfl | hq) | hq | hq
      · exact hdf
      · exact hf (d, do_) (by simp) q (by simp [hq])
      · exact Ne.symm (hN q hq).2
      · exact hf (d, do_) (by simp) q (by simp [hq])
    · rcases hq with (rfl | hq) | hq | hq
      · exact Ne.symm (hf (f, fo) (by simp) p (by simp [hp]))
      · exact s3 p hp q (by simp [hq])
      · exact Ne.symm (hf q (by simp [hq]) p (by simp [hp]))
      · exact s3 p hp q (by simp [hq])
  · simp only [List.mem_cons, List.mem_append] at hp hq
    rcases hp with rfl | hp
    · rcases hq with hq | hq
      · exact Ne.symm (hN q hq).1
      · exact hf (f, fo) (by simp) q (by simp [hq])
    · rcases hq with hq | hq
      · exact Ne.symm (hf q (by simp [hq]) p (by simp [hp]))
      · exact s4 p hp q hq
end SLEV
section SLP2A
theorem lp2a (w : World) (mean : ExcName → Option Value) (mg mb : Str → Option Value) {W R E : Addr} {a k : Int} {ta tk0 : Tok} {nW nR n1 : Nat} {es vr : List Value} {ns : List Int} {Rest : Led} {v0 v2 v3 v4 v5 v6 v7 v8 v9 v10 v11 v12 v13 v14 v15 v16 : Option Value}
    {scope : Scope} {cdv : Value} {bd : List Stmt} (hL : LawFn w bd scope cdv) {dp un : Nat} {gd : Option (List Code)} {A₀ : Around} {base g : Heap} {L cc : Addr} {oc : Obj} {ge : Array GenState} {dr : Drawn} {tk : Nat} {os : OsState} {h : Heap} {Q : Flow → Shared → Prop}
    (B : Below A₀ base [] g) (F : Fr g L h (frm ksLaw [v0, some (.ref E), v2, v3, v4, v5, v6, v7, v8, v9, v10, v11, v12, v13, v14, v15, v16])) (X : (Mine.hd.heap_39 w.params).In g) (N : News g L h ((W, listOf #[.int a ta, .ref R, .int k tk0] nW) :: (cc, oc) :: (E, listOf es.toArray n1) :: Rest)) (T : Top VW LO mean mg mb g) (hd : dp + 40 < recursionLimit) (hu : un + 400 < cLine) (hoc : oc.data = .cell (some (.ref W)))
    (hW : LCg.Off1 W ((cc, oc) :: (E, listOf es.toArray n1) :: Rest)) (hR : (R, listOf vr.toArray nR) ∈ Rest) (hRW : @Ne Nat R W) (hi : IntsAre vr ns) (hn1 : 0 < ns.length) (hn2 : ns.length ≤ 40) (ha : 0 ≤ a) (ha' : a < 10^70) (hk : 0 ≤ k) (hk' : k ≤ 800)
    (he1 : 1 ≤ es.length) (he2 : es.length ≤ 7) {rest : List Stmt}
    (kont : ∀ h tk (lvl m a k' : Int) (tl tn ta tk0 : Tok), Fr g L h (frm ksLaw [v0, some (.ref E), v2, v3, some (.int lvl tl), v5, v6, v7, v8, v9, v10, v11, v12, v13, v14, v15, some (.str (Txt.item (Str.ofString "xy") m) tn)]) → News g L h ((W, listOf #[.int a ta, .ref R, .int k' tk0] nW) :: (cc, oc) :: (E, listOf es.toArray n1) :: Rest) →
      0 ≤ lvl → lvl < (es.length : Int) → 0 ≤ m → m < 2 → 0 ≤ a → a < 10^70 → k ≤ k' → k' ≤ k + 2 → wpAny (model PR w) (ktrTop dp un gd (Str.ofString "law") scope L 481 cdv [(Str.ofString "well", cc)] []) (execs (rest) (envX (Str.ofString "law") scope L 481 cdv [(Str.ofString "well", cc)])) Q (fun _ _ => False) ⟨h, ge, dr, tk, os⟩) :
    wpAny (model PR w) (ktrTop dp un gd (Str.ofString "law") scope L 481 cdv [(Str.ofString "well", cc)] []) (execs (hdS (bodS (hdS bd.tail.tail.tail.tail.tail)) :: hdS (bodS (hdS bd.tail.tail.tail.tail.tail)).tail :: rest) (envX (Str.ofString "law") scope L 481 cdv [(Str.ofString "well", cc)])) Q (fun _ _ => False) ⟨h, ge, dr, tk, os⟩ := by
  obtain ⟨LT, GT⟩ := law_tab hL
  obtain ⟨oc', od', osl', name', qual', params', dV', kV', doc', pm', an', ct', ho'⟩ := hL
  rw [show (Mine.hd.heap_39 w.params).lookup 481 = some _ from rfl] at ho'
  cases ho'
  unfold ksLaw at F LT
  unfold gsLaw at GT
  dsimp only [hdS, bodS, List.tail_cons]
  k_extra "SK"
  exact kont _ _ _ _ _ _ _ _ _ _ (by k_asm) (by k_asm) (by assumption) (by assumption) (by assumption) (by assumption) (by assumption) (by assumption) (by k_extra "OM") (by k_extra "OM")
end SLP2A
section SLP2B
theorem perm_2b {a b c f d : Addr × Obj} {G : Led} : ∀ p ∈ f :: d :: ([a, b, c] ++ G), p ∈ a :: b :: c :: f :: d :: G := by repeat' (first | (with_reducible exact subRefl) | (with_reducible exact subNil) | (with_reducible exact subLeft) | (with_reducible refine' subBoth ?_ ?_) | (refine' subCons (by k_mem) ?_) | (with_reducible refine' subTail ?_) | (with_reducible refine' subApp ?_))
theorem lp2b (w : World) (mean : ExcName → Option Value) (mg mb : Str → Option Value) {W E Dd e f d : Addr} {fo do_ : Obj} {kvs rvs : List (Str × Value)} {lvl : Int} {nm : Str} {tl tn : Tok} {es ds : List Value} {n1 n2 : Nat} {t1 t2 t3 t4 t5 t6 t7 : Tok} {w1 w2 w3 w4 w6 w7 : Value} {G : Led} {v0 v3 v5 v6 v7 v8 v9 v10 v11 v12 v13 v14 v15 : Option Value}
    {scope : Scope} {cdv : Value} {bd : List Stmt} (hL : LawFn w bd scope cdv) {dp un : Nat} {gd : Option (List Code)} {A₀ : Around} {base g : Heap} {L cc : Addr} {oc : Obj} {ge : Array GenState} {dr : Drawn} {tk : Nat} {os : OsState} {h : Heap} {Q : Flow → Shared → Prop}
    (B : Below A₀ base [] g) (F : Fr g L h (frm ksLaw [v0, some (.ref E), some (.ref Dd), v3, some (.int lvl tl), v5, v6, v7, v8, v9, v10, v11, v12, v13, v14, v15, some (.str nm tn)])) (X : (Mine.hd.heap_39 w.params).In g) (N : News g L h ((f, fo) :: (d, do_) :: G)) (T : Top VW LO mean mg mb g) (hd : dp + 40 < recursionLimit) (hu : un + 400 < cLine) (hoc : oc.data = .cell (some (.ref W)))
    (hE : (E, listOf es.toArray n1) ∈ G) (hD : (Dd, listOf ds.toArray n2) ∈ G) (h0 : 0 ≤ lvl) (h1 : lvl < 1000) (he : es[lvl.toNat]? = some (.ref e)) (hd' : ds[lvl.toNat]? = some (.ref d)) (hr : Rec w G e 300 ksEnvironment [(t1, w1), (t2, w2), (t3, w3), (t4, w4), (t5, .ref f), (t6, w6), (t7, w7)])
    (lo : (f == sysModules) = false) (hfo : fo.IsDictOf (strKind PR w) kvs) (hdo : do_.IsDictOf (strKind PR w) rvs) (hfd : @Ne Nat f d) (hGf : ∀ p ∈ G, @Ne Nat p.1 f) (hGd : ∀ p ∈ G, @Ne Nat p.1 d) (hkl : kvs.length ≤ 1000) (hrl : rvs.length ≤ 1000) {rest : List Stmt}
    (kont : ∀ h tk (fo' do' : Obj) (NR : Led) (b : Addr), Fr g L h (frm ksLaw [v0, some (.ref E), some (.ref Dd), v3, some (.int lvl tl), v5, v6, v7, v8, v9, v10, v11, v12, v13, v14, v15, some (.str nm tn)]) → News g L h ((f, fo') :: (d, do') :: (NR ++ G)) →
      fo'.IsDictOf (strKind PR w) (stored kvs nm (.ref b)) → do'.IsDictOf (strKind PR w) (stored rvs nm (.bool false)) → KindRec w NR b (Str.ofString "integer") → (∀ p ∈ NR, @Ne Nat p.1 f ∧ @Ne Nat p.1 d ∧ ∀ q ∈ G, @Ne Nat p.1 q.1) → wpAny (model PR w) (ktrTop dp un gd (Str.ofString "law") scope L 481 cdv [(Str.ofString "well", cc)] []) (execs (rest) (envX (Str.ofString "law") scope L 481 cdv [(Str.ofString "well", cc)])) Q (fun _ _ => False) ⟨h, ge, dr, tk, os⟩) :
    wpAny (model PR w) (ktrTop dp un gd (Str.ofString "law") scope L 481 cdv [(Str.ofString "well", cc)] []) (execs (hdS (bodS (hdS bd.tail.tail.tail.tail.tail)).tail.tail :: hdS (bodS (hdS bd.tail.tail.tail.tail.tail)).tail.tail.tail :: rest) (envX (Str.ofString "law") scope L 481 cdv [(Str.ofString "well", cc)])) Q (fun _ _ => False) ⟨h, ge, dr, tk, os⟩ := by
  have hdo2 : True → do_.IsDictOf (strKind PR w) rvs := fun _ => hdo
  clear hdo
  have hof := off1_of hGf
  have hod := off1_of hGd
  obtain ⟨LT, GT⟩ := law_tab hL
  obtain ⟨oc', od', osl', name', qual', params', dV', kV', doc', pm', an', ct', ho'⟩ := hL
  rw [show (Mine.hd.heap_39 w.params).lookup 481 = some _ from rfl] at ho'
  cases ho'
  unfold ksLaw at F LT
  unfold gsLaw at GT
  dsimp only [hdS, bodS, List.tail_cons]
  k_extra "SK"
  have hdo := hdo2 trivial
  clear hdo2
  k_extra "SK"
  rename News _ _ _ _ => N2
  rename Fr _ _ _ _ => F2
  rename AllLt _ _ => l1
  refine' kont _ _ _ _ [_, _, _] _ F2 (newsSub N2 perm_2b) (by assumption) (by assumption) ?k3 ?k4
  case k3 => (refine' KindRec.of ?c1 ?c2 ?c3 ?c4 ?c5; (case c4 => k_mem); (case c5 => k_mem); (case c1 => k_extra "tb_rel"); (case c2 => k_extra "tb_rel"); (case c3 => k_extra "tb_rel"))
  case k4 =>
    simp only [List.forall_mem_cons]
    refine ⟨⟨Nat.ne_of_gt (ltN (by first | (with_reducible assumption) | (with_reducible exact ltr (by with_reducible assumption) (by with_reducible assumption)) | k_extra "OM")), Nat.ne_of_gt (ltN (by first | (with_reducible assumption) | (with_reducible exact ltr (by with_reducible assumption) (by with_reducible assumption)) | k_extra "OM")), fun q hq => Nat.ne_of_gt (Nat.lt_trans (Nat.lt_trans (ktn_ltOf l1 q hq) (by assumption)) (by assumption))⟩, ⟨Nat.ne_of_gt (ltN (by first | (with_reducible assumption) | (with_reducible exact ltr (by with_reducible assumption) (by with_reducible assumption)) | k_extra "OM")), Nat.ne_of_gt (ltN (by first | (with_reducible assumption) | (with_reducible exact ltr (by with_reducible assumption) (by with_reducible assumption)) | k_extra "OM")), fun q hq => Nat.ne_of_gt (Nat.lt_trans (ktn_ltOf l1 q hq) (by assumption))⟩, ⟨Nat.ne_of_gt (ltN (by first | (with_reducible assumption) | (with_reducible exact ltr (by with_reducible assumption) (by with_reducible assumption)) | k_extra "OM")), Nat.ne_of_gt (ltN (by first | (with_reducible assumption) | (with_reducible exact ltr (by with_reducible assumption) (by with_reducible assumption)) | k_extra "OM")), fun q hq => Nat.ne_of_gt (ktn_ltOf l1 q hq)⟩, fun _ h => nomatch h⟩
end SLP2B
section SLEV2
theorem stored_keys {k : Str} {v : Value} {kvs : List (Str × Value)} (h : k ∈ kvs.map (·.1)) : (stored kvs k v).map (·.1) = kvs.map (·.1) := by
  unfold stored
  rw [if_pos (by
    obtain ⟨p, hp, rfl⟩ := List.mem_map.mp h
    exact List.any_eq_true.mpr ⟨p, hp, by simp⟩)]
  rw [List.map_map]
  refine List.map_congr_left fun p _ => ?_
  simp only [Function.comp]
  split <;> simp_all
theorem stored_same {k : Str} {v u : Value} {kvs : List (Str × Value)} (h : valueAt kvs k = some u) : (stored kvs k v).length = kvs.length := by
  have hk : k ∈ kvs.map (·.1) := by
    by_cases hk : k ∈ kvs.map (·.1)
    · exact hk
    · rw [valueAt_absent hk] at h; cases h
  have := congrArg List.length (stored_keys (v := v) hk)
  simpa using this
theorem xyN_01 {m : Int} (h0 : 0 ≤ m) (h1 : m < 2) : xyN m = xyN 0 ∨ xyN m = xyN 1 := by
  rcases (by k_extra "OM" : m = 0 ∨ m = 1) with rfl | rfl
  · exact .inl rfl
  · exact .inr rfl
theorem nd_xy0 : ¬ xyN 0 = Str.ofString "..." := by decide +kernel
theorem nd_xy1 : ¬ xyN 1 = Str.ofString "..." := by decide +kernel
theorem n01_xy : ¬ xyN 1 = xyN 0 := by decide +kernel
theorem fil_mem {l : Led} {a b : Addr} {o : Obj} (h : (b, o) ∈ l) (hne : b ≠ a) : (b, o) ∈ l.filter fun p => !(p.1 == a) := List.mem_filter.mpr ⟨h, by simpa using hne⟩
theorem fil_sub {l : Led} {a : Addr} : ∀ p ∈ l.filter (fun p => !(p.1 == a)), p ∈ l := fun _ h => (List.mem_filter.mp h).1
theorem fil_ne {l : Led} {a : Addr} : ∀ p ∈ l.filter (fun p => !(p.1 == a)), p.1 ≠ a := fun p h => by simpa using (List.mem_filter.mp h).2
theorem lev_over {w : World} {I Fd Du NR : Led} {en fr dd : Nat → Addr} {j i : Nat} {fo' do' : Obj} {kvs rvs : List (Str × Value)} {b0 b1 dts b : Addr} {n : Nat} {ex : Nat → Int} {u0 u1 : Value} {m : Int} {nm : Str} (S : LevS w I Fd Du en fr dd j) (hi : i < j) (hm0 : 0 ≤ m) (hm1 : m < 2) (hnm : nm = xyN m)
    (a3 : kvs.map (·.1) = [Str.ofString "x", Str.ofString "y", Str.ofString "..."]) (a4 : valueAt kvs (xyN 0) = some (.ref b0)) (a5 : valueAt kvs (xyN 1) = some (.ref b1)) (a6 : valueAt kvs (Str.ofString "...") = some (.ref dts)) (a7 : DotsOk w I dts n ex) (a8 : n ≤ 2) (a11 : RowOk rvs u0 u1 (.bool ((n : Int) == 0)))
    (a12 : BindDue w I en i b0 u0) (a13 : BindDue w I en i b1 u1) (hfo : fo'.IsDictOf (strKind PR w) (stored kvs nm (.ref b))) (hdo : do'.IsDictOf (strKind PR w) (stored rvs nm (.bool false))) (hb : KindRec w NR b (Str.ofString "integer"))
    (hN : ∀ p ∈ NR, @Ne Nat p.1 (fr i) ∧ @Ne Nat p.1 (dd i) ∧ ∀ q ∈ Du ++ (Fd ++ I), @Ne Nat q.1 (fr i) → @Ne Nat q.1 (dd i) → @Ne Nat p.1 q.1) (hdf : @Ne Nat (dd i) (fr i)) :
    LevS w (NR ++ I) ((fr i, fo') :: Fd.filter fun p => !(p.1 == fr i)) ((dd i, do') :: Du.filter fun p => !(p.1 == dd i)) en fr dd j := by
  obtain ⟨s1, s2, s3, s4⟩ := S
  have dfI : ∀ q ∈ Fd ++ I, @Ne Nat (dd i) q.1 := fun q hq => by
    obtain ⟨_, _, _, _, _, _, _, _, _, do0, _, _, _, _, _, _, _, _, _, _, _, a9, _⟩ := s1 i hi
    exact s3 _ a9 q hq
  have ffI : ∀ q ∈ I, @Ne Nat (fr i) q.1 := fun q hq => by
    obtain ⟨_, _, fo0, _, _, _, _, _, _, _, _, _, _, a9, _⟩ := s1 i hi
    exact s4 _ a9 q hq
  have fdD : ∀ q ∈ Du, @Ne Nat q.1 (fr i) := fun q hq => by
    obtain ⟨_, _, fo0, _, _, _, _, _, _, _, _, _, _, a9, _⟩ := s1 i hi
    exact s3 q hq _ (memLeft a9)
  refine ⟨fun k hk => ?_, s2, fun p hp q hq => ?_, fun p hp q hq => ?_⟩
  · by_cases q : k = i
    · subst q
      obtain ⟨⟨t1, t2, t3, t4, t5, t6, t7, tn, w1, w3, w4, w6, w7, hr⟩, lo, _⟩ := s1 k hk
      have bl : BindDue w (NR ++ I) en k b (.bool false) := .inr (.inr (.inr (.inr (.inr ⟨rfl, hb.mono fun _ h => memLeft h⟩))))
      have km : nm ∈ kvs.map (·.1) := by
        rw [a3, hnm]
        rcases xyN_01 hm0 hm1 with h | h <;> rw [h] <;> decide +kernel
      have rl : (stored rvs nm (.bool false)).length ≤ 10 := by
        obtain ⟨r1, r2, r3, r4⟩ := a11
        rcases xyN_01 hm0 hm1 with h | h
        · rw [hnm, h, stored_same r1]; exact r4
        · rw [hnm, h, stored_same r2]; exact r4
      have kk := (stored_keys (v := Value.ref b) km).trans a3
      obtain ⟨r1, r2, r3, r4⟩ := a11
      rcases xyN_01 hm0 hm1 with h | h
      · rw [h] at hnm; subst hnm
        refine ⟨⟨t1, t2, t3, t4, t5, t6, t7, tn, w1, w3, w4, w6, w7, hr.mono fun _ h => memApp h⟩, lo, fo', _, b, b1, dts, n, ex, do', _, .bool false, u1, List.mem_cons_self, hfo, kk, ?_, ?_, ?_, a7.mono fun _ h => memApp h, a8, List.mem_cons_self, hdo, ⟨?_, ?_, ?_, rl⟩, bl, a13.mono (fun _ h => memApp h) fun _ _ => rfl⟩
        · rw [valueAt_stored, if_pos rfl]
        · rw [valueAt_stored, if_neg xyN_ne]; exact a5
        · rw [valueAt_stored, if_neg nd_xy0]; exact a6
        · rw [valueAt_stored, if_pos rfl]
        · rw [valueAt_stored, if_neg xyN_ne]; exact r2
        · rw [valueAt_stored, if_neg nd_xy0]; exact r3
      · rw [h] at hnm; subst hnm
        refine ⟨⟨t1, t2, t3, t4, t5, t6, t7, tn, w1, w3, w4, w6, w7, hr.mono fun _ h => memApp h⟩, lo, fo', _, b0, b, dts, n, ex, do', _, u0, .bool false, List.mem_cons_self, hfo, kk, ?_, ?_, ?_, a7.mono fun _ h => memApp h, a8, List.mem_cons_self, hdo, ⟨?_, ?_, ?_, rl⟩, a12.mono (fun _ h => memApp h) (fun _ _ => rfl), bl⟩
        · rw [valueAt_stored, if_neg n01_xy]; exact a4
        · rw [valueAt_stored, if_pos rfl]
        · rw [valueAt_stored, if_neg nd_xy1]; exact a6
        · rw [valueAt_stored, if_neg n01_xy]; exact r1
        · rw [valueAt_stored, if_pos rfl]
        · rw [valueAt_stored, if_neg nd_xy1]; exact r3
    · obtain ⟨f1, f2⟩ := s2 k i hk hi q
      obtain ⟨he, lo, fo, kvs', b0', b1', dts', n', ex', do_, rvs', u0', u1', x1, x2, x3, x4, x5, x6, x7, x8, x9, x10, x11, x12, x13⟩ := s1 k hk
      obtain ⟨t1, t2, t3, t4, t5, t6, t7, tn, w1, w3, w4, w6, w7, hr⟩ := he
      exact ⟨⟨t1, t2, t3, t4, t5, t6, t7, tn, w1, w3, w4, w6, w7, hr.mono fun _ h => memApp h⟩, lo, fo, kvs', b0', b1', dts', n', ex', do_, rvs', u0', u1', memTail (fil_mem x1 f1), x2, x3, x4, x5, x6, x7.mono fun _ h => memApp h, x8, memTail (fil_mem x9 f2), x10, x11, x12.mono (fun _ h => memApp h) (fun _ _ => rfl), x13.mono (fun _ h => memApp h) fun _ _ => rfl⟩
  · simp only [List.mem_cons, List.mem_append] at hp hq
    rcases hp with rfl | hp
    · rcases hq with (rfl | hq) | hq | hq
      · exact hdf
      · exact dfI q (memLeft (fil_sub _ hq))
      · exact Ne.symm (hN q hq).2.1
      · exact dfI q (memApp hq)
    · have hp' := fil_sub _ hp
      rcases hq with (rfl | hq) | hq | hq
      · exact fdD p hp'
      · exact s3 p hp' q (memLeft (fil_sub _ hq))
      · exact Ne.symm ((hN q hq).2.2 p (memLeft hp') (fdD p hp') (fil_ne _ hp))
      · exact s3 p hp' q (memApp hq)
  · simp only [List.mem_cons, List.mem_append] at hp hq
    rcases hp with rfl | hp
    · rcases hq with hq | hq
      · exact Ne.symm (hN q hq).1
      · exact ffI q hq
    · have hp' := fil_sub _ hp
      rcases hq with hq | hq
      · exact Ne.symm ((hN q hq).2.2 p (memApp (memLeft hp')) (fil_ne _ hp) (Ne.symm (dfI p (memLeft hp'))))
      · exact s4 p hp' q hq
end SLEV2
section SLOOP1
theorem rng_invB {w : World} {A : Around} {h₀ h : Heap} {L I a : Addr} {cn : Str} {cs : Scope} {ccd : Value} {cl : List (Str × Addr)} {ge : Array GenState} {dr : Drawn} {tk : Nat} {os : OsState} {news : Led} {ks : List Str} {vs : List (Option Value)} {x : Str} {px : Pos} {body : List Stmt} {Q : Flow → Shared → Prop} {b : Int} (J : Nat → List (Option Value) → Led → Prop) (h0 : 0 ≤ b) (hh : A.handled = none) (T : LocTab cs ks) (F : Fr h₀ L h (frm ks vs)) (N : News h₀ L h ((I, rngIt 0 (b - 0)) :: news)) (hI : ∀ p ∈ news, p.1 ≠ I) (j : Nat) (hx : ks[j]? = some x)
    (hJ : ∀ i vs news, J i vs news → vs.length = ks.length) (start : J 0 vs news)
    (step : ∀ i vs news h tk, i < b.toNat → J i vs news → Fr h₀ L h (frm ks (vs.set j (some (.int i tk)))) → News h₀ L h ((I, rngIt (i + 1 : Nat) ((b.toNat : Int) - (i + 1 : Nat))) :: news) → (∀ p ∈ news, p.1 ≠ I) →
      wpAny (model PR w) A (execs body (envX cn cs L a ccd cl)) (TurnEnd h₀ L ks I (fun o => o = rngIt (i + 1 : Nat) ((b.toNat : Int) - (i + 1 : Nat))) (fun fl vs news => (fl = .next ∨ fl = .cont) ∧ J (i + 1) vs news) ⟨h, ge, dr, tk, os⟩) (fun _ _ => False) ⟨h, ge, dr, tk + 2, os⟩)
    (fin : ∀ vs news h tk, J b.toNat vs news → Fr h₀ L h (frm ks vs) → News h₀ L h news → Q .next ⟨h, ge, dr, tk, os⟩) :
    ForRest PR w A (envX cn cs L a ccd cl) (.Name x px) body Q (.ref I) ⟨h, ge, dr, tk, os⟩ :=
  rng_inv b.toNat J (Int.toNat_of_nonneg h0).symm hh T F (by simpa using N) hI j hx hJ start step fin
noncomputable def refsOf (en : Nat → Addr) (i : Nat) : List Value := (List.range i).map fun k => .ref (en k)
theorem refs_step {en : Nat → Addr} {i : Nat} {e : Addr} : refsOf en i ++ [Value.ref e] = refsOf (updN en i e) (i + 1) := by
  unfold refsOf
  rw [List.range_succ, List.map_append, List.map_singleton, updN_same]
  congr 1
  exact List.map_congr_left fun k hk => by rw [updN_lt (List.mem_range.mp hk)]
theorem refs_len {en : Nat → Addr} {i : Nat} : (refsOf en i).length = i := by unfold refsOf; simp
inductive LJ (w : World) (W R cc E Dd : Addr) (oc : Obj) (nR : Nat) (vr : List Value) (nW : Nat) (k0 : Int) (v0 : Option Value) (i : Nat) (vs : List (Option Value)) (news : Led) : Prop
  | mk (a k : Int) (ta tk : Tok) (n1 n2 : Nat) (vb : Value) (en fr dd : Nat → Addr) (I Fd Du : Led) (v4 v5 v6 v7 v8 v9 v10 v11 v12 v13 v14 v15 v16 : Option Value) (c0 : vs = [v0, some (.ref E), some (.ref Dd), some vb, v4, v5, v6, v7, v8, v9, v10, v11, v12, v13, v14, v15, v16]) (c1 : news = (W, listOf #[.int a ta, .ref R, .int k tk] nW) :: (cc, oc) :: (E, listOf (refsOf en i).toArray n1) :: (Dd, listOf (refsOf dd i).toArray n2) :: (Du ++ (Fd ++ I))) (c2 : LevS w I Fd Du en fr dd i) (c3 : 0 ≤ a) (c4 : a < 10^70) (c5 : 0 ≤ k) (c6 : k ≤ k0 + 1 + 7 * i) (c7 : ((i = 0 ∧ vb = .none) ∨ ∃ i', i = i' + 1 ∧ vb = .ref (en i'))) (c8 : (∀ p ∈ Du ++ (Fd ++ I), ∀ b ∈ [W, cc, E, Dd], @Ne Nat p.1 b)) (c9 : (R, listOf vr.toArray nR) ∈ I) : LJ w W R cc E Dd oc nR vr nW k0 v0 i vs news
theorem perm_l1 {I1 W cc E Dd : Addr × Obj} {X : Led} : ∀ p ∈ W :: cc :: E :: Dd :: (I1 :: X), p ∈ I1 :: W :: cc :: E :: Dd :: X := by repeat' (first | (with_reducible exact subRefl) | (with_reducible exact subNil) | (with_reducible exact subLeft) | (with_reducible refine' subBoth ?_ ?_) | (refine' subCons (by k_mem) ?_) | (with_reducible refine' subTail ?_) | (with_reducible refine' subApp ?_))
theorem perm_l2 {I1 W cc E Dd d f : Addr × Obj} {Du Fd NR I : Led} : ∀ p ∈ W :: cc :: E :: Dd :: ((d :: Du) ++ ((f :: Fd) ++ (NR ++ I))), p ∈ W :: cc :: E :: Dd :: d :: f :: (NR ++ (I1 :: (Du ++ (Fd ++ I)))) := by repeat' (first | (with_reducible exact subRefl) | (with_reducible exact subNil) | (with_reducible exact subLeft) | (with_reducible refine' subBoth ?_ ?_) | (refine' subCons (by k_mem) ?_) | (with_reducible refine' subTail ?_) | (with_reducible refine' subApp ?_))
theorem law_loop1 (w : World) (mean : ExcName → Option Value) (mg mb : Str → Option Value) {W R E Dd : Addr} {a k : Int} {ta tk0 : Tok} {nW nR n1 n2 : Nat} {vr : List Value} {ns : List Int} {I : Led} {v0 v4 v5 v6 v7 v8 v9 v10 v11 v12 v13 v14 v15 v16 : Option Value}
    {scope : Scope} {cdv : Value} {bd : List Stmt} (hL : LawFn w bd scope cdv) {dp un : Nat} {gd : Option (List Code)} {A₀ : Around} {base g : Heap} {L cc : Addr} {oc : Obj} {ge : Array GenState} {dr : Drawn} {tk : Nat} {os : OsState} {h : Heap} {Q : Flow → Shared → Prop}
    (B : Below A₀ base [] g) (F : Fr g L h (frm ksLaw [v0, some (.ref E), some (.ref Dd), some .none, v4, v5, v6, v7, v8, v9, v10, v11, v12, v13, v14, v15, v16])) (X : (Mine.hd.heap_39 w.params).In g) (N : News g L h ((W, listOf #[.int a ta, .ref R, .int k tk0] nW) :: (cc, oc) :: (E, listOf ([] : List Value).toArray n1) :: (Dd, listOf ([] : List Value).toArray n2) :: I)) (T : Top VW LO mean mg mb g) (hd : dp + 40 < recursionLimit) (hu : un + 400 < cLine) (hoc : oc.data = .cell (some (.ref W)))
    (e1 : @Ne Nat cc W) (e2 : @Ne Nat E W) (e3 : @Ne Nat Dd W) (e4 : @Ne Nat cc E) (e5 : @Ne Nat cc Dd) (e6 : @Ne Nat E Dd) (oR : ∀ p ∈ I, ∀ b ∈ [W, cc, E, Dd], @Ne Nat p.1 b)
    (hR : (R, listOf vr.toArray nR) ∈ I) (hRW : @Ne Nat R W) (hi : IntsAre vr ns) (hn1 : 0 < ns.length) (hn2 : ns.length ≤ 40) (ha : 0 ≤ a) (ha' : a < 10^70) (hk : 0 ≤ k) (hk' : k ≤ 100) {rest : List Stmt}
    (kont : ∀ h tk (J : Nat) vs news, 1 ≤ J → J ≤ 7 → LJ w W R cc E Dd oc nR vr nW k v0 J vs news → Fr g L h (frm ksLaw vs) → News g L h news → wpAny (model PR w) (ktrTop dp un gd (Str.ofString "law") scope L 481 cdv [(Str.ofString "well", cc)] []) (execs (rest) (envX (Str.ofString "law") scope L 481 cdv [(Str.ofString "well", cc)])) Q (fun _ _ => False) ⟨h, ge, dr, tk, os⟩) :
    wpAny (model PR w) (ktrTop dp un gd (Str.ofString "law") scope L 481 cdv [(Str.ofString "well", cc)] []) (execs (hdS bd.tail.tail.tail.tail :: rest) (envX (Str.ofString "law") scope L 481 cdv [(Str.ofString "well", cc)])) Q (fun _ _ => False) ⟨h, ge, dr, tk, os⟩ := by
  have hL0 := hL
  have hW : LCg.Off1 W ((cc, oc) :: (E, listOf ([] : List Value).toArray n1) :: (Dd, listOf ([] : List Value).toArray n2) :: I) := ⟨e1, e2, e3, off1_of fun p hp => oR p hp W (by simp)⟩
  obtain ⟨LT, GT⟩ := law_tab hL
  obtain ⟨oc', od', osl', name', qual', params', dV', kV', doc', pm', an', ct', ho'⟩ := hL
  rw [show (Mine.hd.heap_39 w.params).lookup 481 = some _ from rfl] at ho'
  cases ho'
  unfold ksLaw at F LT
  unfold gsLaw at GT
  dsimp only [hdS, bodS, List.tail_cons]
  k_extra "S0"
  rename Addr => I1
  rename News _ _ _ _ => N3
  rename Fr _ _ _ _ => F3
  refine' rng_invB (LJ w W R cc E Dd oc nR vr nW k v0) ?h0 rfl LT F3 N3 ?hI 4 rfl ?hJ ?start ?step ?fin
  case h0 => k_extra "OM"
  case hI => (first | k_all | fail "k_all")
  case hJ => rintro i vs news ⟨_, _, _, _, _, _, _, _, _, _, _, _, _, _, _, _, _, _, _, _, _, _, _, _, _, _, rfl, _⟩; rfl
  case start => exact ⟨_, _, _, _, _, _, .none, fun _ => 0, fun _ => 0, fun _ => 0, I, [], [], _, _, _, _, _, _, _, _, _, _, _, _, _, rfl, rfl, ⟨(fun _ h => absurd h (Nat.not_lt_zero _)), (fun _ _ h => absurd h (Nat.not_lt_zero _)), (fun _ h => nomatch h), (fun _ h => nomatch h)⟩, by assumption, by assumption, by k_extra "OM", by k_extra "OM", .inl ⟨rfl, rfl⟩, oR, hR⟩
  case fin =>
    rintro vs news h tk J F N
    exact kont _ _ _ vs news (by k_extra "OM") (by k_extra "OM") J F N
  case step =>
    rintro i vs news h tk hi' ⟨a2, k2, ta2, tk2, m1, m2, vb, en, fr, dd, I', Fd, Du, v4', v5', v6', v7', v8', v9', v10', v11', v12', v13', v14', v15', v16', rfl, rfl, S, b1, b2, b3, b4, hvb, oR', hR'⟩ F N off
    simp only [List.set_cons_succ, List.set_cons_zero] at F
    have hi7 : i < 7 := by k_extra "OM"
    have N2 := newsSub N perm_l1
    have hIh : ∀ b ∈ [W, cc, E, Dd], @Ne Nat I1 b := by
      simp only [List.forall_mem_cons]
      exact ⟨Ne.symm (off _ List.mem_cons_self), Ne.symm (off _ (memTail List.mem_cons_self)), Ne.symm (off _ (memTail (memTail List.mem_cons_self))), Ne.symm (off _ (memTail (memTail (memTail List.mem_cons_self)))), fun _ h => nomatch h⟩
    refine law_turn w mean mg mb hL0 B F X N2 T hd hu hoc e1 e2 e3 e4 e5 e6 ?oR2 (memTail (memApp (memApp hR'))) hRW hi hn1 hn2 b1 b2 b3 (by k_extra "OM") ?hvb2 (by k_extra "OM") (by k_extra "OM") (by rw [refs_len]; omega) (by rw [refs_len]; omega) ?tk
    case oR2 =>
      intro p hp
      rcases List.mem_cons.mp hp with rfl | hp
      · exact hIh
      · exact oR' p hp
    case hvb2 =>
      rcases hvb with ⟨_, h⟩ | ⟨i', h, h2⟩
      · exact .inl h
      · refine .inr ⟨en i', h2, ?_⟩
        obtain ⟨⟨t1, t2, t3, t4, t5, t6, t7, tn, w1, w3, w4, w6, w7, hr⟩, _⟩ := S.1 i' (by k_extra "OM")
        rw [show (i : Int) - 1 = (i' : Int) by k_extra "OM"]
        exact ⟨_, _, _, _, _, _, _, _, _, _, _, _, _, _, hr.mono fun _ h => memTail (memApp (memApp h))⟩
    case tk =>
    intro h9 tk9 e f d b0 b1' dts fo do_ kvs rvs u0 u1 n ex k0 k1 d0 d1 NR a3 k3 ta3 tk3 t1 t2 t3 t4 t5 t6 t7 w1 w3 w4 w6 w7 x5 x6 x7 x8 x9 x10 x12 x13 F N he hfo lo hks hb0 hb1 hvd hdo hrow hD hn hB0 hd0 hB1 hd1 hkv hk00 hk10 hk01 hk11 hfre hoff hdf c1 c2 c3 c4
    have hvb' : (i = 0 ∧ vb = .none) ∨ ∃ i', i = i' + 1 ∧ vb = .ref (updN en i e i') := by
      rcases hvb with h | ⟨i', h, h2⟩
      · exact .inl h
      · exact .inr ⟨i', h, by rw [updN_lt (by k_extra "OM")]; exact h2⟩
    have bd0 := (bind_due hB0 hd0 hk00 hk01 (fun h => (hkv h).1) (updN_same (en := en) (j := i) (e := e)) hvb').mono (I' := NR ++ I') (fun _ h => memLeft h) (fun _ _ => rfl)
    have bd1 := (bind_due hB1 hd1 hk10 hk11 (fun h => (hkv h).2) (updN_same (en := en) (j := i) (e := e)) hvb').mono (I' := NR ++ I') (fun _ h => memLeft h) (fun _ _ => rfl)
    have hl : LevAt w (NR ++ I') ((f, fo) :: Fd) ((d, do_) :: Du) (updN en i e) (updN fr i f) (updN dd i d) i :=
      ⟨⟨t1, t2, t3, t4, t5, t6, t7, _, w1, w3, w4, w6, w7, by rw [updN_same, updN_same]; exact he.mono (fun _ h => memLeft h)⟩, by rw [updN_same]; exact lo, fo, kvs, b0, b1', dts, n, ex, do_, rvs, u0, u1, by rw [updN_same]; exact List.mem_cons_self, hfo, hks, hb0, hb1, hvd, hD.mono (fun _ h => memLeft h), hn, by rw [updN_same]; exact List.mem_cons_self, hdo, hrow, bd0, bd1⟩
    rw [refs_step, refs_step] at N
    have hst := lev_step S hl (fun p hp q hq => (hfre p hp).2 q (memTail hq)) hoff hdf
    refine TurnEnd.mk' ((W, listOf #[.int a3 ta3, .ref R, .int k3 tk3] nW) :: (cc, oc) :: (E, listOf (refsOf (updN en i e) (i + 1)).toArray (m1 + 1)) :: (Dd, listOf (refsOf (updN dd i d) (i + 1)).toArray (m2 + 1)) :: (((d, do_) :: Du) ++ (((f, fo) :: Fd) ++ (NR ++ I')))) F N (memTail (memTail (memTail (memTail (memTail (memTail (memApp List.mem_cons_self))))))) perm_l2 ?off2 rfl
      ⟨.inl rfl, a3, k3, ta3, tk3, m1 + 1, m2 + 1, .ref e, updN en i e, updN fr i f, updN dd i d, NR ++ I', (f, fo) :: Fd, (d, do_) :: Du, _, _, _, _, _, _, _, _, _, _, _, _, _, rfl, rfl, hst, c1, c2, c3, by push_cast; omega, .inr ⟨i, rfl, by rw [updN_same]⟩, ?oR3, memApp hR'⟩
    case off2 =>
      intro p hp
      simp only [List.mem_cons, List.mem_append] at hp
      rcases hp with rfl | rfl | rfl | rfl | (rfl | h) | (rfl | h) | h | h
      · exact Ne.symm (hIh W (by simp))
      · exact Ne.symm (hIh cc (by simp))
      · exact Ne.symm (hIh E (by simp))
      · exact Ne.symm (hIh Dd (by simp))
      · exact (hfre (d, do_) (by simp)).2 _ List.mem_cons_self
      · exact off p (by simp [h])
      · exact (hfre (f, fo) (by simp)).2 _ List.mem_cons_self
      · exact off p (by simp [h])
      · exact (hfre p (by simp [h])).2 _ List.mem_cons_self
      · exact off p (by simp [h])
    case oR3 =>
      intro p hp
      simp only [List.mem_cons, List.mem_append] at hp
      rcases hp with (rfl | h) | (rfl | h) | h | h
      · exact (hfre (d, do_) (by simp)).1
      · exact oR' p (by simp [h])
      · exact (hfre (f, fo) (by simp)).1
      · exact oR' p (by simp [h])
      · exact (hfre p (by simp [h])).1
      · exact oR' p (by simp [h])
end SLOOP1
section SLP2C
theorem refs_at {en : Nat → Addr} {j i : Nat} (h : i < j) : (refsOf en j)[i]? = some (.ref (en i)) := by
  unfold refsOf
  rw [List.getElem?_map, List.getElem?_range h]
  rfl
theorem perm_2c {W cc E Dd P d f : Addr × Obj} {Du Fd NR I : Led} : ∀ p ∈ W :: cc :: E :: Dd :: P :: ((d :: Du) ++ ((f :: Fd) ++ (NR ++ I))), p ∈ f :: d :: (NR ++ (W :: cc :: E :: Dd :: P :: (Du ++ (Fd ++ I)))) := by repeat' (first | (with_reducible exact subRefl) | (with_reducible exact subNil) | (with_reducible exact subLeft) | (with_reducible refine' subBoth ?_ ?_) | (refine' subCons (by k_mem) ?_) | (with_reducible refine' subTail ?_) | (with_reducible refine' subApp ?_))
theorem law_turn2 (w : World) (mean : ExcName → Option Value) (mg mb : Str → Option Value) {W R E Dd : Addr} {a k : Int} {ta tk0 : Tok} {nW nR n1 n2 j : Nat} {vr : List Value} {ns : List Int} {en fr dd : Nat → Addr} {P : Addr × Obj} {Du Fd I : Led} {v0 v3 v4 v5 v6 v7 v8 v9 v10 v11 v12 v13 v14 v15 v16 : Option Value}
    {scope : Scope} {cdv : Value} {bd : List Stmt} (hL : LawFn w bd scope cdv) {dp un : Nat} {gd : Option (List Code)} {A₀ : Around} {base g : Heap} {L cc : Addr} {oc : Obj} {ge : Array GenState} {dr : Drawn} {tk : Nat} {os : OsState} {h : Heap} {Q : Flow → Shared → Prop}
    (B : Below A₀ base [] g) (F : Fr g L h (frm ksLaw [v0, some (.ref E), some (.ref Dd), v3, v4, v5, v6, v7, v8, v9, v10, v11, v12, v13, v14, v15, v16])) (X : (Mine.hd.heap_39 w.params).In g) (N : News g L h ((W, listOf #[.int a ta, .ref R, .int k tk0] nW) :: (cc, oc) :: (E, listOf (refsOf en j).toArray n1) :: (Dd, listOf (refsOf dd j).toArray n2) :: P :: (Du ++ (Fd ++ I)))) (T : Top VW LO mean mg mb g) (hd : dp + 40 < recursionLimit) (hu : un + 400 < cLine) (hoc : oc.data = .cell (some (.ref W)))
    (e1 : @Ne Nat cc W) (e2 : @Ne Nat E W) (e3 : @Ne Nat Dd W) (e4 : @Ne Nat cc E) (e5 : @Ne Nat cc Dd) (e6 : @Ne Nat E Dd) (oR : ∀ p ∈ P :: (Du ++ (Fd ++ I)), ∀ b ∈ [W, cc, E, Dd], @Ne Nat p.1 b) (oP : ∀ p ∈ Du ++ (Fd ++ I), @Ne Nat p.1 P.1)
    (hR : (R, listOf vr.toArray nR) ∈ I) (hRW : @Ne Nat R W) (hi : IntsAre vr ns) (hn1 : 0 < ns.length) (hn2 : ns.length ≤ 40) (ha : 0 ≤ a) (ha' : a < 10^70) (hk : 0 ≤ k) (hk' : k ≤ 700) (hj1 : 1 ≤ j) (hj2 : j ≤ 7) (S : LevS w I Fd Du en fr dd j)
    (kont : ∀ h tk (a k' : Int) (ta tk0 : Tok) (i : Nat) (fo' do' : Obj) (Fd' Du' NR : Led) (v4 v16 : Option Value), Fr g L h (frm ksLaw [v0, some (.ref E), some (.ref Dd), v3, v4, v5, v6, v7, v8, v9, v10, v11, v12, v13, v14, v15, v16]) →
      News g L h ((W, listOf #[.int a ta, .ref R, .int k' tk0] nW) :: (cc, oc) :: (E, listOf (refsOf en j).toArray n1) :: (Dd, listOf (refsOf dd j).toArray n2) :: P :: (((dd i, do') :: Du') ++ (((fr i, fo') :: Fd') ++ (NR ++ I)))) →
      LevS w (NR ++ I) ((fr i, fo') :: Fd') ((dd i, do') :: Du') en fr dd j → (∀ p ∈ ((dd i, do') :: Du') ++ (((fr i, fo') :: Fd') ++ (NR ++ I)), (∀ b ∈ [W, cc, E, Dd], @Ne Nat p.1 b) ∧ @Ne Nat p.1 P.1) → 0 ≤ a → a < 10^70 → 0 ≤ k' → k' ≤ k + 2 → Q .next ⟨h, ge, dr, tk, os⟩) :
    wpAny (model PR w) (ktrTop dp un gd (Str.ofString "law") scope L 481 cdv [(Str.ofString "well", cc)] []) (execs (hdS (bodS (hdS bd.tail.tail.tail.tail.tail)) :: hdS (bodS (hdS bd.tail.tail.tail.tail.tail)).tail :: hdS (bodS (hdS bd.tail.tail.tail.tail.tail)).tail.tail :: hdS (bodS (hdS bd.tail.tail.tail.tail.tail)).tail.tail.tail :: []) (envX (Str.ofString "law") scope L 481 cdv [(Str.ofString "well", cc)])) Q (fun _ _ => False) ⟨h, ge, dr, tk, os⟩ := by
  refine lp2a w mean mg mb hL B F X N T hd hu hoc ⟨e1, e2, e3, off1_of fun p hp => oR p hp W (by simp)⟩ (memTail (memTail (memApp (memApp hR)))) hRW hi hn1 hn2 ha ha' hk (by k_extra "OM") (by rw [refs_len]; omega) (by rw [refs_len]; omega) ?_
  intro h1 tk1 lvl m a1 k1 tl tn ta1 tk2 F N l0 l1 m0 m1 a10 a11 k10 k11
  rw [refs_len] at l1
  have hij : lvl.toNat < j := by k_extra "OM"
  obtain ⟨⟨t1, t2, t3, t4, t5, t6, t7, tn', w1, w3, w4, w6, w7, hr⟩, lo, fo, kvs, b0, b1, dts, n, ex, do_, rvs, u0, u1, x1, x2, x3, x4, x5, x6, x7, x8, x9, x10, x11, x12, x13⟩ := S.1 lvl.toNat hij
  obtain ⟨s1, s2, s3, s4⟩ := id S
  have hdf : @Ne Nat (dd lvl.toNat) (fr lvl.toNat) := s3 _ x9 _ (memLeft x1)
  have mG : ∀ {p : Addr × Obj} {x1 x2 x3 x4 : Addr × Obj}, p ∈ (Du.filter fun p => !(p.1 == dd lvl.toNat)) ++ ((Fd.filter fun p => !(p.1 == fr lvl.toNat)) ++ I) → p ∈ x1 :: x2 :: x3 :: x4 :: P :: ((Du.filter fun p => !(p.1 == dd lvl.toNat)) ++ ((Fd.filter fun p => !(p.1 == fr lvl.toNat)) ++ I)) := fun h => memTail (memTail (memTail (memTail (memTail h))))
  refine lp2b w mean mg mb (rest := []) (G := (W, listOf #[.int a1 ta1, .ref R, .int k1 tk2] nW) :: (cc, oc) :: (E, listOf (refsOf en j).toArray n1) :: (Dd, listOf (refsOf dd j).toArray n2) :: P :: ((Du.filter fun p => !(p.1 == dd lvl.toNat)) ++ ((Fd.filter fun p => !(p.1 == fr lvl.toNat)) ++ I)))
    hL B F X (newsSub N ?sub) T hd hu hoc (memTail (memTail List.mem_cons_self)) (memTail (memTail (memTail List.mem_cons_self))) l0 (by k_extra "OM") (refs_at hij) (refs_at hij) (hr.mono fun _ h => mG (memApp (memApp h))) lo x2 x10 (Ne.symm hdf) ?gf ?gd ?kl (Nat.le_trans x11.2.2.2 (by decide)) ?_
  case sub =>
    intro p hp
    simp only [List.mem_cons, List.mem_append] at hp ⊢
    rcases hp with rfl | rfl | h | h | h | h | h | h | h | h
    · simp [x1]
    · simp [x9]
    · simp [h]
    · simp [h]
    · simp [h]
    · simp [h]
    · simp [h]
    · simp [fil_sub _ h]
    · simp [fil_sub _ h]
    · simp [h]
  case gf =>
    intro p hp
    simp only [List.mem_cons, List.mem_append] at hp
    have q := oR _ (memTail (memApp (memLeft x1)))
    rcases hp with rfl | rfl | rfl | rfl | rfl | h | h | h
    · exact Ne.symm (q W (by simp))
    · exact Ne.symm (q cc (by simp))
    · exact Ne.symm (q E (by simp))
    · exact Ne.symm (q Dd (by simp))
    · exact Ne.symm (oP _ (memApp (memLeft x1)))
    · exact s3 p (fil_sub _ h) _ (memLeft x1)
    · exact fil_ne _ h
    · exact Ne.symm (s4 _ x1 p h)
  case gd =>
    intro p hp
    simp only [List.mem_cons, List.mem_append] at hp
    have q := oR _ (memTail (memLeft x9))
    rcases hp with rfl | rfl | rfl | rfl | rfl | h | h | h
    · exact Ne.symm (q W (by simp))
    · exact Ne.symm (q cc (by simp))
    · exact Ne.symm (q E (by simp))
    · exact Ne.symm (q Dd (by simp))
    · exact Ne.symm (oP _ (memLeft x9))
    · exact fil_ne _ h
    · exact Ne.symm (s3 _ x9 p (memLeft (fil_sub _ h)))
    · exact Ne.symm (s3 _ x9 p (memApp h))
  case kl =>
    have := congrArg List.length x3
    simp at this
    omega
  intro h2 tk3 fo' do' NR b F N hfo' hdo' hkb fre
  refine wpAny_execs_nil ?_
  have inG : ∀ q ∈ Du ++ (Fd ++ I), @Ne Nat q.1 (fr lvl.toNat) → @Ne Nat q.1 (dd lvl.toNat) → q ∈ (Du.filter fun p => !(p.1 == dd lvl.toNat)) ++ ((Fd.filter fun p => !(p.1 == fr lvl.toNat)) ++ I) := fun q hq h1 h2 => by
    simp only [List.mem_append] at hq ⊢
    rcases hq with h | h | h
    · exact .inl (fil_mem h h2)
    · exact .inr (.inl (fil_mem h h1))
    · exact .inr (.inr h)
  refine kont h2 tk3 a1 k1 ta1 tk2 lvl.toNat fo' do' _ _ NR _ _ F (newsSub N perm_2c) (lev_over S hij m0 m1 (xyN_item m0 m1) x3 x4 x5 x6 x7 x8 x11 x12 x13 hfo' hdo' hkb (fun p hp => ⟨(fre p hp).1, (fre p hp).2.1, fun q hq g1 g2 => (fre p hp).2.2 q (mG (inG q hq g1 g2))⟩) hdf) ?off a10 a11 (by k_extra "OM") (by k_extra "OM")
  intro p hp
  simp only [List.mem_cons, List.mem_append] at hp
  have hd0 : ∀ p ∈ Du ++ (Fd ++ I), (∀ b ∈ [W, cc, E, Dd], @Ne Nat p.1 b) ∧ @Ne Nat p.1 P.1 := fun p hp => ⟨oR p (memTail hp), oP p hp⟩
  rcases hp with (rfl | h) | (rfl | h) | h | h
  · exact hd0 (dd lvl.toNat, do_) (memLeft x9)
  · exact hd0 p (memLeft (fil_sub _ h))
  · exact hd0 (fr lvl.toNat, fo) (memApp (memLeft x1))
  · exact hd0 p (memApp (memLeft (fil_sub _ h)))
  · have z := (fre p h).2.2
    refine ⟨?_, z P (memTail (memTail (memTail (memTail List.mem_cons_self))))⟩
    simp only [List.forall_mem_cons]
    exact ⟨z _ List.mem_cons_self, z _ (memTail List.mem_cons_self), z _ (memTail (memTail List.mem_cons_self)), z _ (memTail (memTail (memTail List.mem_cons_self))), fun _ h => nomatch h⟩
  · exact hd0 p (memApp (memApp h))
inductive LS (w : World) (W R cc E Dd : Addr) (oc : Obj) (nR : Nat) (vr : List Value) (nW : Nat) (km : Int) (v0 : Option Value) (j : Nat) (en fr dd : Nat → Addr) (vs : List (Option Value)) (news : Led) : Prop
  | mk (a k : Int) (ta tk : Tok) (n1 n2 : Nat) (I Fd Du : Led) (v3 v4 v5 v6 v7 v8 v9 v10 v11 v12 v13 v14 v15 v16 : Option Value) (c0 : vs = [v0, some (.ref E), some (.ref Dd), v3, v4, v5, v6, v7, v8, v9, v10, v11, v12, v13, v14, v15, v16]) (c1 : news = (W, listOf #[.int a ta, .ref R, .int k tk] nW) :: (cc, oc) :: (E, listOf (refsOf en j).toArray n1) :: (Dd, listOf (refsOf dd j).toArray n2) :: (Du ++ (Fd ++ I))) (c2 : LevS w I Fd Du en fr dd j) (c3 : 0 ≤ a) (c4 : a < 10^70) (c5 : 0 ≤ k) (c6 : k ≤ km) (c7 : (∀ p ∈ Du ++ (Fd ++ I), ∀ b ∈ [W, cc, E, Dd], @Ne Nat p.1 b)) (c8 : (R, listOf vr.toArray nR) ∈ I) : LS w W R cc E Dd oc nR vr nW km v0 j en fr dd vs news
theorem perm_2e {P W cc E Dd : Addr × Obj} {X : Led} : ∀ p ∈ W :: cc :: E :: Dd :: P :: X, p ∈ P :: W :: cc :: E :: Dd :: X := by repeat' (first | (with_reducible exact subRefl) | (with_reducible exact subNil) | (with_reducible exact subLeft) | (with_reducible refine' subBoth ?_ ?_) | (refine' subCons (by k_mem) ?_) | (with_reducible refine' subTail ?_) | (with_reducible refine' subApp ?_))
theorem perm_2f {P W cc E Dd : Addr × Obj} {X : Led} : ∀ p ∈ W :: cc :: E :: Dd :: X, p ∈ W :: cc :: E :: Dd :: P :: X := by repeat' (first | (with_reducible exact subRefl) | (with_reducible exact subNil) | (with_reducible exact subLeft) | (with_reducible refine' subBoth ?_ ?_) | (refine' subCons (by k_mem) ?_) | (with_reducible refine' subTail ?_) | (with_reducible refine' subApp ?_))
theorem law_loop2 (w : World) (mean : ExcName → Option Value) (mg mb : Str → Option Value) {W R E Dd : Addr} {a k : Int} {ta tk0 : Tok} {nW nR n1 n2 j : Nat} {vr : List Value} {ns : List Int} {en fr dd : Nat → Addr} {Du Fd I : Led} {v0 v3 v4 v5 v6 v7 v8 v9 v10 v11 v12 v13 v14 v15 v16 : Option Value}
    {scope : Scope} {cdv : Value} {bd : List Stmt} (hL : LawFn w bd scope cdv) {dp un : Nat} {gd : Option (List Code)} {A₀ : Around} {base g : Heap} {L cc : Addr} {oc : Obj} {ge : Array GenState} {dr : Drawn} {tk : Nat} {os : OsState} {h : Heap} {Q : Flow → Shared → Prop}
    (B : Below A₀ base [] g) (F : Fr g L h (frm ksLaw [v0, some (.ref E), some (.ref Dd), v3, v4, v5, v6, v7, v8, v9, v10, v11, v12, v13, v14, v15, v16])) (X : (Mine.hd.heap_39 w.params).In g) (N : News g L h ((W, listOf #[.int a ta, .ref R, .int k tk0] nW) :: (cc, oc) :: (E, listOf (refsOf en j).toArray n1) :: (Dd, listOf (refsOf dd j).toArray n2) :: (Du ++ (Fd ++ I)))) (T : Top VW LO mean mg mb g) (hd : dp + 40 < recursionLimit) (hu : un + 400 < cLine) (hoc : oc.data = .cell (some (.ref W)))
    (e1 : @Ne Nat cc W) (e2 : @Ne Nat E W) (e3 : @Ne Nat Dd W) (e4 : @Ne Nat cc E) (e5 : @Ne Nat cc Dd) (e6 : @Ne Nat E Dd) (oR : ∀ p ∈ Du ++ (Fd ++ I), ∀ b ∈ [W, cc, E, Dd], @Ne Nat p.1 b)
    (hR : (R, listOf vr.toArray nR) ∈ I) (hRW : @Ne Nat R W) (hi : IntsAre vr ns) (hn1 : 0 < ns.length) (hn2 : ns.length ≤ 40) (ha : 0 ≤ a) (ha' : a < 10^70) (hk : 0 ≤ k) (hk' : k ≤ 500) (hj1 : 1 ≤ j) (hj2 : j ≤ 7) (S : LevS w I Fd Du en fr dd j) {rest : List Stmt}
    (kont : ∀ h tk (km : Int) vs news, LS w W R cc E Dd oc nR vr nW km v0 j en fr dd vs news → Fr g L h (frm ksLaw vs) → News g L h news → wpAny (model PR w) (ktrTop dp un gd (Str.ofString "law") scope L 481 cdv [(Str.ofString "well", cc)] []) (execs (rest) (envX (Str.ofString "law") scope L 481 cdv [(Str.ofString "well", cc)])) Q (fun _ _ => False) ⟨h, ge, dr, tk, os⟩) :
    wpAny (model PR w) (ktrTop dp un gd (Str.ofString "law") scope L 481 cdv [(Str.ofString "well", cc)] []) (execs (hdS bd.tail.tail.tail.tail.tail :: rest) (envX (Str.ofString "law") scope L 481 cdv [(Str.ofString "well", cc)])) Q (fun _ _ => False) ⟨h, ge, dr, tk, os⟩ := by
  have hL0 := hL
  obtain ⟨Rs, hRs⟩ : ∃ Rs, Rs = Du ++ (Fd ++ I) := ⟨_, rfl⟩
  rw [← hRs] at N oR
  have hR0 : (R, listOf vr.toArray nR) ∈ Rs := by rw [hRs]; exact memApp (memApp hR)
  have hW : LCg.Off1 W ((cc, oc) :: (E, listOf (refsOf en j).toArray n1) :: (Dd, listOf (refsOf dd j).toArray n2) :: Rs) := ⟨e1, e2, e3, off1_of fun p hp => oR p hp W (by simp)⟩
  have S0 : True → LevS w I Fd Du en fr dd j := fun _ => S
  clear S
  obtain ⟨LT, GT⟩ := law_tab hL
  obtain ⟨oc', od', osl', name', qual', params', dV', kV', doc', pm', an', ct', ho'⟩ := hL
  rw [show (Mine.hd.heap_39 w.params).lookup 481 = some _ from rfl] at ho'
  cases ho'
  unfold ksLaw at F LT
  unfold gsLaw at GT
  dsimp only [hdS, bodS, List.tail_cons]
  k_extra "S0"
  rename Addr => I1
  rename News _ _ _ _ => N3
  rename Fr _ _ _ _ => F3
  refine' rng_invB (fun i vs news => LS w W R cc E Dd oc nR vr nW (k + 1 + 2 * i) v0 j en fr dd vs news) ?h0 rfl LT F3 N3 ?hI 15 rfl ?hJ ?start ?step ?fin
  case h0 => k_extra "OM"
  case hI => (first | k_all | fail "k_all")
  case hJ => rintro i vs news ⟨_, _, _, _, _, _, _, _, _, _, _, _, _, _, _, _, _, _, _, _, _, _, _, rfl, _⟩; rfl
  case start => exact ⟨_, _, _, _, _, _, I, Fd, Du, _, _, _, _, _, _, _, _, _, _, _, _, _, _, rfl, by rw [hRs], S0 trivial, by assumption, by assumption, by k_extra "OM", by k_extra "OM", by rw [hRs] at oR; exact oR, hR⟩
  case fin =>
    rintro vs news h tk J F N
    exact kont _ _ _ vs news J F N
  case step =>
    rintro i vs news h tk hi' ⟨a2, k2, ta2, tk2, m1, m2, I, Fd, Du, v3', v4', v5', v6', v7', v8', v9', v10', v11', v12', v13', v14', v15', v16', rfl, rfl, S, b1, b2, b3, b4, oR', hR'⟩ F N off
    simp only [List.set_cons_succ, List.set_cons_zero] at F
    have N2 := newsSub N perm_2e
    have hIh : ∀ b ∈ [W, cc, E, Dd], @Ne Nat I1 b := by
      simp only [List.forall_mem_cons]
      exact ⟨Ne.symm (off _ List.mem_cons_self), Ne.symm (off _ (memTail List.mem_cons_self)), Ne.symm (off _ (memTail (memTail List.mem_cons_self))), Ne.symm (off _ (memTail (memTail (memTail List.mem_cons_self)))), fun _ h => nomatch h⟩
    refine law_turn2 w mean mg mb hL0 B F X N2 T hd hu hoc e1 e2 e3 e4 e5 e6 ?oR2 (fun p hp => off p (memTail (memTail (memTail (memTail hp))))) hR' hRW hi hn1 hn2 b1 b2 b3 (by k_extra "OM") hj1 hj2 S ?tk
    case oR2 =>
      intro p hp
      rcases List.mem_cons.mp hp with rfl | hp
      · exact hIh
      · exact oR' p hp
    case tk =>
    intro h9 tk9 a3 k3 ta3 tk3 i3 fo' do' Fd' Du' NR v4'' v16'' F N S' off' c1 c2 c3 c4
    refine TurnEnd.mk' ((W, listOf #[.int a3 ta3, .ref R, .int k3 tk3] nW) :: (cc, oc) :: (E, listOf (refsOf en j).toArray m1) :: (Dd, listOf (refsOf dd j).toArray m2) :: (((dd i3, do') :: Du') ++ (((fr i3, fo') :: Fd') ++ (NR ++ I)))) F N (memTail (memTail (memTail (memTail List.mem_cons_self)))) perm_2f ?off2 rfl
      ⟨.inl rfl, a3, k3, ta3, tk3, m1, m2, NR ++ I, (fr i3, fo') :: Fd', (dd i3, do') :: Du', _, _, _, _, _, _, _, _, _, _, _, _, _, _, rfl, rfl, S', c1, c2, c3, by push_cast; omega, fun p hp => (off' p hp).1, memApp hR'⟩
    case off2 =>
      intro p hp
      rcases List.mem_cons.mp hp with rfl | hp
      · exact Ne.symm (hIh W (by simp))
      rcases List.mem_cons.mp hp with rfl | hp
      · exact Ne.symm (hIh cc (by simp))
      rcases List.mem_cons.mp hp with rfl | hp
      · exact Ne.symm (hIh E (by simp))
      rcases List.mem_cons.mp hp with rfl | hp
      · exact Ne.symm (hIh Dd (by simp))
      exact (off' p hp).2
end SLP2C
section SLEV3
theorem KindRec.monoX {w : World} {own own' : Led} {x : Addr} {kd : Str} (h : KindRec w own x kd) (hs : ∀ p ∈ own, p ∈ own') : KindRec w own' x kd := h.mono hs
theorem PRec.mono {w : World} {own own' : Led} {b : Addr} {ex ev : Value} (h : PRec w own b ex ev) (hs : ∀ p ∈ own, p ∈ own') : PRec w own' b ex ev :=
  let ⟨t1, t2, t3, t4, t5, t6, u, v4, v5, v6, r⟩ := h; ⟨t1, t2, t3, t4, t5, t6, u, v4, v5, v6, r.mono hs⟩
theorem EnvAt.mono {w : World} {own own' : Led} {e : Addr} {kvs : List (Str × Value)} (h : EnvAt w own e kvs) (hs : ∀ p ∈ own, p ∈ own') : EnvAt w own' e kvs :=
  let ⟨s1, s2, s3, s4, s5, s6, s7, w1, w2, w3, w4, f, w6, w7, fo, r, m, d, l⟩ := h; ⟨s1, s2, s3, s4, s5, s6, s7, w1, w2, w3, w4, f, w6, w7, fo, r.mono hs, hs _ m, d, l⟩
theorem EnvNum.mono3 {w : World} {own own' : Led} {e : Addr} {n : Int} (h : EnvNum w own e n) (hs : ∀ p ∈ own, p ∈ own') : EnvNum w own' e n :=
  let ⟨s1, s2, s3, s4, s5, s6, s7, sn, w1, w3, w4, w5, w6, w7, r⟩ := h; ⟨s1, s2, s3, s4, s5, s6, s7, sn, w1, w3, w4, w5, w6, w7, r.mono hs⟩
theorem Miss.mono {w : World} {own own' : Led} {e b : Addr} {r : Bool} (h : Miss w own e b r) (hs : ∀ p ∈ own, p ∈ own') : Miss w own' e b r := by
  induction h with
  | mis h => exact .mis (h.mono hs)
  | dots h1 h2 h3 => exact .dots (h1.mono hs) (hs _ h2) h3
  | other h h1 h2 h3 => exact .other (h.mono hs) h1 h2 h3
  | dflt h1 h2 h3 => exact .dflt (h1.mono hs) (h2.mono3 hs) (h3.mono3 hs)
  | done h1 h2 => exact .done (h1.mono hs) (h2.mono hs)
  | call h1 h2 h3 h4 h5 h6 => exact .call (h1.mono hs) (h2.mono3 hs) (h3.mono3 hs) h4 (h5.mono hs) h6
  | sym h1 h2 h3 h4 h5 h6 h7 _ ih => exact .sym (h1.mono hs) (h2.mono3 hs) (h3.mono3 hs) h4 (h5.mono hs) (h6.mono hs) h7 ih
theorem PromRec.prec {w : World} {own : Led} {b : Addr} {ex ev : Value} (h : PromRec w own b ex ev) : PRec w own b ex ev :=
  let ⟨t1, t2, t3, t4, t5, t6, u, u2, r⟩ := h; ⟨t1, t2, t3, t4, t5, t6, u, _, _, _, r⟩
theorem DoneRec.prec {w : World} {own : Led} {b v : Addr} (h : DoneRec w own b v) : PRec w own b (.ref v) .none :=
  let ⟨t1, t2, t3, t4, t5, t6, u, u2, r⟩ := h; ⟨t1, t2, t3, t4, t5, t6, u, _, _, _, r⟩
inductive EnvOk (w : World) (X : Led) (e : Addr) (r : Nat → Bool) : Prop
  | mk (kvs) (c0 : EnvAt w X e kvs) (c1 : (∀ m, m < 3 → ∃ b, valueAt kvs (nmOf m) = some (.ref b) ∧ Miss w X e b (r m)) ∧ valueAt kvs (Str.ofString "w") = none) : EnvOk w X e r
noncomputable def Due (r : Nat → Nat → Bool) (i m : Nat) (u : Value) : Prop :=
  u = .bool (r i m) ∨ ∃ i' m' t, i = i' + 1 ∧ m' < 2 ∧ u = .str (nmOf m') t ∧ r i' m' = r i m
inductive RowRaw (w : World) (Du : Led) (d : Addr) (r : Nat → Nat → Bool) (i : Nat) : Prop
  | mk (o) (rvs) (c0 : (d, o) ∈ Du) (c1 : o.IsDictOf (strKind PR w) rvs) (c2 : rvs.length ≤ 10) (c3 : (∀ m, m < 2 → ∃ u, valueAt rvs (nmOf m) = some u ∧ Due r i m u) ∧ valueAt rvs (nmOf 2) = some (.bool (r i 2))) : RowRaw w Du d r i
inductive RowRes (w : World) (Du : Led) (d : Addr) (r : Nat → Bool) : Prop
  | mk (o) (rvs) (c0 : (d, o) ∈ Du) (c1 : o.IsDictOf (strKind PR w) rvs) (c2 : ∀ m, m < 3 → valueAt rvs (nmOf m) = some (.bool (r m))) : RowRes w Du d r
theorem nm3 {m : Nat} (h : m < 3) : m = 0 ∨ m = 1 ∨ m = 2 := by k_extra "OM"
theorem num_ne {a b : Nat} (h : a ≠ b) : (((a : Int)) == (b : Int)) = false := by
  simp only [beq_eq_false_iff_ne, ne_eq]; omega
theorem due_res {w : World} {I X : Led} {en : Nat → Addr} {i : Nat} {b : Addr} {u : Value} {r : Nat → Nat → Bool} (h : BindDue w I en i b u) (hs : ∀ p ∈ I, p ∈ X) (hn : ∀ k, k ≤ i → EnvNum w X (en k) (k : Int)) (he : ∀ k, k < i → EnvOk w X (en k) (r k)) :
    ∃ c : Bool, Miss w X (en i) b c ∧ (u = .bool c ∨ ∃ i' m' t, i = i' + 1 ∧ m' < 2 ∧ u = .str (nmOf m') t ∧ r i' m' = c) := by
  rcases h with ⟨h, k⟩ | ⟨h, ex, k⟩ | ⟨h, v, kd, k, k2⟩ | ⟨h, i', e, x, k, k2⟩ | ⟨i', e, m, t, x, m0, m1, h, k, k2⟩ | ⟨h, k⟩
  · exact ⟨true, .mis (k.mono hs), .inl h⟩
  · exact ⟨true, .dflt (k.prec.mono hs) (hn i (Nat.le_refl _)) (hn i (Nat.le_refl _)), .inl h⟩
  · exact ⟨false, .done (k.prec.mono hs) (k2.mono hs), .inl h⟩
  · refine ⟨false, .call (k.prec.mono hs) (hn i (Nat.le_refl _)) (hn i' (by k_extra "OM")) (num_ne (by k_extra "OM")) (k2.mono hs) (by decide +kernel), .inl h⟩
  · obtain ⟨kvs, a1, a2, _⟩ := he i' (by k_extra "OM")
    have hm : m.toNat < 2 := by k_extra "OM"
    obtain ⟨b', h1, h2⟩ := a2 m.toNat (by k_extra "OM")
    have e2 : nmOf m.toNat = xyN m := by rw [nmOf_xy hm, Int.toNat_of_nonneg m0]
    refine ⟨r i' m.toNat, .sym (k.prec.mono hs) (hn i (Nat.le_refl _)) (hn i' (by k_extra "OM")) (num_ne (by k_extra "OM")) (k2.mono hs) a1 (e2 ▸ h1) h2, .inr ⟨i', m.toNat, t, e, hm, by rw [h, e2], rfl⟩⟩
  · exact ⟨false, .other (k.mono hs) (by decide +kernel) (by decide +kernel) (by decide +kernel), .inl h⟩
noncomputable def upR (r : Nat → Nat → Bool) (i : Nat) (c : Nat → Bool) : Nat → Nat → Bool := fun k => if k = i then c else r k
theorem upR_same {r : Nat → Nat → Bool} {i : Nat} {c : Nat → Bool} : upR r i c i = c := if_pos rfl
theorem upR_lt {r : Nat → Nat → Bool} {i k : Nat} {c : Nat → Bool} (h : k < i) : upR r i c k = r k := if_neg (by k_extra "OM")
theorem Due.up {r : Nat → Nat → Bool} {i k m : Nat} {c : Nat → Bool} {u : Value} (h : Due r k m u) (hk : k < i) : Due (upR r i c) k m u := by
  rcases h with h | ⟨i', m', t, e, h1, h2, h3⟩
  · exact .inl (by rw [upR_lt hk]; exact h)
  · exact .inr ⟨i', m', t, e, h1, h2, by rw [upR_lt hk, upR_lt (by k_extra "OM")]; exact h3⟩
noncomputable def abc (a b c : Bool) : Nat → Bool
  | 0 => a
  | 1 => b
  | _ => c
theorem lev_res {w : World} {I Fd Du : Led} {en fr dd : Nat → Addr} {j : Nat} (S : LevS w I Fd Du en fr dd j) : ∀ n, n ≤ j → ∃ r : Nat → Nat → Bool, ∀ i, i < n → EnvOk w (Fd ++ I) (en i) (r i) ∧ RowRaw w Du (dd i) r i := by
  intro n
  induction n with
  | zero => exact fun _ => ⟨fun _ _ => true, fun i h => absurd h (Nat.not_lt_zero _)⟩
  | succ n ih =>
    intro hn
    obtain ⟨r, hr⟩ := ih (by k_extra "OM")
    have num : ∀ k, k ≤ n → EnvNum w (Fd ++ I) (en k) (k : Int) := fun k hk => by
      obtain ⟨⟨t1, t2, t3, t4, t5, t6, t7, tn, w1, w3, w4, w6, w7, h⟩, _⟩ := S.1 k (by k_extra "OM")
      exact ⟨_, _, _, _, _, _, _, _, _, _, _, _, _, _, h.mono fun _ h => memApp h⟩
    obtain ⟨⟨t1, t2, t3, t4, t5, t6, t7, tn, w1, w3, w4, w6, w7, he⟩, lo, fo, kvs, b0, b1, dts, nx, ex, do_, rvs, u0, u1, x1, x2, x3, x4, x5, x6, x7, x8, x9, x10, x11, x12, x13⟩ := S.1 n (by k_extra "OM")
    obtain ⟨c0, m0, d0⟩ := due_res x12 (fun _ h => memApp h) num (fun k hk => (hr k hk).1)
    obtain ⟨c1, m1, d1⟩ := due_res x13 (fun _ h => memApp h) num (fun k hk => (hr k hk).1)
    have m2 : Miss w (Fd ++ I) (en n) dts ((nx : Int) == 0) := by
      obtain ⟨s1, s2, s3, u, l, vs, k, g1, g2, g3, _⟩ := x7
      rw [← g3]
      exact .dots (g1.mono fun _ h => memApp h) (memApp g2) (by k_extra "OM")
    refine ⟨upR r n (abc c0 c1 ((nx : Int) == 0)), fun i hi => ?_⟩
    by_cases q : i = n
    · subst q
      rw [upR_same]
      have dn : ∀ {m : Nat} {c : Bool} {u : Value}, abc c0 c1 ((nx : Int) == 0) m = c → (u = .bool c ∨ ∃ i' m' t, i = i' + 1 ∧ m' < 2 ∧ u = .str (nmOf m') t ∧ r i' m' = c) → Due (upR r i (abc c0 c1 ((nx : Int) == 0))) i m u := fun e h => by
        rcases h with h | ⟨i', m', t, e1, h1, h2, h3⟩
        · exact .inl (by rw [upR_same, e]; exact h)
        · exact .inr ⟨i', m', t, e1, h1, h2, by rw [upR_same, upR_lt (by k_extra "OM"), e]; exact h3⟩
      refine ⟨⟨kvs, ⟨_, _, _, _, _, _, _, _, _, _, _, _, _, _, fo, he.mono fun _ h => memApp h, memLeft x1, x2, lo⟩, fun m hm => ?_, ?_⟩, do_, rvs, x9, x10, x11.2.2.2, fun m hm => ?_, by rw [upR_same]; exact x11.2.2.1⟩
      · rcases nm3 hm with rfl | rfl | rfl
        · exact ⟨b0, x4, m0⟩
        · exact ⟨b1, x5, m1⟩
        · exact ⟨dts, x6, m2⟩
      · exact valueAt_absent (by rw [x3]; decide +kernel)
      · rcases (by k_extra "OM" : m = 0 ∨ m = 1) with rfl | rfl
        · exact ⟨u0, x11.1, dn rfl d0⟩
        · exact ⟨u1, x11.2.1, dn rfl d1⟩
    · have hi' : i < n := by k_extra "OM"
      obtain ⟨e1, o, rvs', y1, y2, y3, y4, y5⟩ := hr i hi'
      refine ⟨by rw [upR_lt hi']; exact e1, o, rvs', y1, y2, y3, fun m hm => ?_, by rw [upR_lt hi']; exact y5⟩
      obtain ⟨u, z1, z2⟩ := y4 m hm
      exact ⟨u, z1, z2.up hi'⟩
end SLEV3
section SLP3A
theorem lp3a (w : World) (mean : ExcName → Option Value) (mg mb : Str → Option Value) {W Dd d : Addr} {do_ : Obj} {rvs : List (Str × Value)} {lvl : Int} {nm : Str} {tl tn : Tok} {ds : List Value} {n2 : Nat} {u : Value} {c : Bool} {G : Led} {v0 v1 v3 v5 v6 v7 v8 v9 v10 v11 v12 v13 v14 v15 : Option Value}
    {scope : Scope} {cdv : Value} {bd : List Stmt} (hL : LawFn w bd scope cdv) {dp un : Nat} {gd : Option (List Code)} {A₀ : Around} {base g : Heap} {L cc : Addr} {oc : Obj} {ge : Array GenState} {dr : Drawn} {tk : Nat} {os : OsState} {h : Heap} {Q : Flow → Shared → Prop}
    (B : Below A₀ base [] g) (F : Fr g L h (frm ksLaw [v0, v1, some (.ref Dd), v3, some (.int lvl tl), v5, v6, v7, v8, v9, v10, v11, v12, v13, v14, v15, some (.str nm tn)])) (X : (Mine.hd.heap_39 w.params).In g) (N : News g L h ((d, do_) :: G)) (T : Top VW LO mean mg mb g) (hd : dp + 40 < recursionLimit) (hu : un + 400 < cLine) (hoc : oc.data = .cell (some (.ref W)))
    (hD : (Dd, listOf ds.toArray n2) ∈ G) (h0 : 0 ≤ lvl) (h1 : lvl < 1000) (hd' : ds[lvl.toNat]? = some (.ref d)) (hGd : ∀ p ∈ G, @Ne Nat p.1 d) (hrl : rvs.length ≤ 1000)
    (hu : u = .bool c ∨ ∃ m t d2 o2 rvs2, m < 2 ∧ u = .str (nmOf m) t ∧ 1 ≤ lvl ∧ ds[(lvl - 1).toNat]? = some (.ref d2) ∧ (d2, o2) ∈ G ∧ o2.IsDictOf (strKind PR w) rvs2 ∧ valueAt rvs2 (nmOf m) = some (.bool c))
    (hdo : do_.IsDictOf (strKind PR w) rvs) (hv : valueAt rvs nm = some u)
    (kont : ∀ h tk (do' : Obj) (rvs' : List (Str × Value)), Fr g L h (frm ksLaw [v0, v1, some (.ref Dd), v3, some (.int lvl tl), v5, v6, v7, v8, v9, v10, v11, v12, v13, v14, v15, some (.str nm tn)]) → News g L h ((d, do') :: G) → do'.IsDictOf (strKind PR w) rvs' →
      (∀ k, valueAt rvs' k = if nm = k then some (.bool c) else valueAt rvs k) → rvs'.length = rvs.length → Q .next ⟨h, ge, dr, tk, os⟩) :
    wpAny (model PR w) (ktrTop dp un gd (Str.ofString "law") scope L 481 cdv [(Str.ofString "well", cc)] []) (execs (hdS (bodS (hdS (bodS (hdS bd.tail.tail.tail.tail.tail.tail)))) :: []) (envX (Str.ofString "law") scope L 481 cdv [(Str.ofString "well", cc)])) Q (fun _ _ => False) ⟨h, ge, dr, tk, os⟩ := by
  have hod := off1_of hGd
  obtain ⟨LT, GT⟩ := law_tab hL
  obtain ⟨oc', od', osl', name', qual', params', dV', kV', doc', pm', an', ct', ho'⟩ := hL
  rw [show (Mine.hd.heap_39 w.params).lookup 481 = some _ from rfl] at ho'
  cases ho'
  unfold ksLaw at F LT
  unfold gsLaw at GT
  dsimp only [hdS, bodS, List.tail_cons]
  rcases hu with rfl | ⟨m, t, d2, o2, rvs2, hm, rfl, hl1, hd2, hm2, hdo2, hv2⟩
  · k_extra "SK"
    exact kont _ _ _ _ (by k_asm) (by k_asm) hdo (fun k => by split <;> simp_all) rfl
  · rcases (by k_extra "OM" : m = 0 ∨ m = 1) with rfl | rfl
    · rw [show nmOf 0 = Str.ofString "x" from rfl] at hv hv2
      replace hdo := id hdo
      k_extra "SK"
      exact kont _ _ _ _ (by k_asm) (by k_asm) (by assumption) (fun k => valueAt_stored) (stored_same hv)
    · rw [show nmOf 1 = Str.ofString "y" from rfl] at hv hv2
      replace hdo := id hdo
      k_extra "SK"
      exact kont _ _ _ _ (by k_asm) (by k_asm) (by assumption) (fun k => valueAt_stored) (stored_same hv)
end SLP3A
section SLP3B
theorem lp3b (w : World) (mean : ExcName → Option Value) (mg mb : Str → Option Value) {W E Dd d e b : Addr} {do_ : Obj} {rvs kvs : List (Str × Value)} {lvl : Int} {nm : Str} {tl tn : Tok} {es ds : List Value} {n1 n2 : Nat} {c : Bool} {own : Led} {v0 v3 v5 v6 v7 v8 v9 v10 v11 v12 v13 v14 v15 : Option Value}
    {scope : Scope} {cdv : Value} {bd : List Stmt} (hL : LawFn w bd scope cdv) {dp un : Nat} {gd : Option (List Code)} {A₀ : Around} {base g : Heap} {L cc : Addr} {oc : Obj} {ge : Array GenState} {dr : Drawn} {tk : Nat} {os : OsState} {h : Heap} {Q : Flow → Shared → Prop}
    (B : Below A₀ base [] g) (F : Fr g L h (frm ksLaw [v0, some (.ref E), some (.ref Dd), v3, some (.int lvl tl), v5, v6, v7, v8, v9, v10, v11, v12, v13, v14, v15, some (.str nm tn)])) (X : (Mine.hd.heap_39 w.params).In g) (N : News g L h (own)) (T : Top VW LO mean mg mb g) (hd : dp + 40 < recursionLimit) (hu : un + 400 < cLine) (hoc : oc.data = .cell (some (.ref W)))
    (hE : (E, listOf es.toArray n1) ∈ own) (hD : (Dd, listOf ds.toArray n2) ∈ own) (h0 : 0 ≤ lvl) (h1 : lvl < 1000) (he' : es[lvl.toNat]? = some (.ref e)) (hd' : ds[lvl.toNat]? = some (.ref d)) (hdm : (d, do_) ∈ own)
    (hdo : do_.IsDictOf (strKind PR w) rvs) (hv : valueAt rvs nm = some (.bool c)) (hea : EnvAt w own e kvs) (hb : valueAt kvs nm = some (.ref b)) (hm : Miss w own e b c)
    (kont : ∀ h tk, Fr g L h (frm ksLaw [v0, some (.ref E), some (.ref Dd), v3, some (.int lvl tl), v5, v6, v7, v8, v9, v10, v11, v12, v13, v14, v15, some (.str nm tn)]) → News g L h own → Q .next ⟨h, ge, dr, tk, os⟩) :
    wpAny (model PR w) (ktrTop dp un gd (Str.ofString "law") scope L 481 cdv [(Str.ofString "well", cc)] []) (execs (hdS (bodS (hdS (bodS (hdS bd.tail.tail.tail.tail.tail.tail)).tail)) :: []) (envX (Str.ofString "law") scope L 481 cdv [(Str.ofString "well", cc)])) Q (fun _ _ => False) ⟨h, ge, dr, tk, os⟩ := by
  obtain ⟨LT, GT⟩ := law_tab hL
  obtain ⟨oc', od', osl', name', qual', params', dV', kV', doc', pm', an', ct', ho'⟩ := hL
  rw [show (Mine.hd.heap_39 w.params).lookup 481 = some _ from rfl] at ho'
  cases ho'
  unfold ksLaw at F LT
  unfold gsLaw at GT
  dsimp only [hdS, bodS, List.tail_cons]
  k_extra "SK"
  all_goals first | exact kont _ _ (by k_asm) (by k_asm) | (exfalso; simp_all; done)
end SLP3B
section SLP3C
theorem lp3c (w : World) (mean : ExcName → Option Value) (mg mb : Str → Option Value) {W E e : Addr} {kvs : List (Str × Value)} {lvl : Int} {tl : Tok} {es : List Value} {n1 : Nat} {own : Led} {v0 v2 v3 v5 v6 v7 v8 v9 v10 v11 v12 v13 v14 v15 v16 : Option Value}
    {scope : Scope} {cdv : Value} {bd : List Stmt} (hL : LawFn w bd scope cdv) {dp un : Nat} {gd : Option (List Code)} {A₀ : Around} {base g : Heap} {L cc : Addr} {oc : Obj} {ge : Array GenState} {dr : Drawn} {tk : Nat} {os : OsState} {h : Heap} {Q : Flow → Shared → Prop}
    (B : Below A₀ base [] g) (F : Fr g L h (frm ksLaw [v0, some (.ref E), v2, v3, some (.int lvl tl), v5, v6, v7, v8, v9, v10, v11, v12, v13, v14, v15, v16])) (X : (Mine.hd.heap_39 w.params).In g) (N : News g L h (own)) (T : Top VW LO mean mg mb g) (hd : dp + 40 < recursionLimit) (hu : un + 400 < cLine) (hoc : oc.data = .cell (some (.ref W)))
    (hE : (E, listOf es.toArray n1) ∈ own) (h0 : 0 ≤ lvl) (h1 : lvl < 1000) (he' : es[lvl.toNat]? = some (.ref e)) (hea : EnvAt w own e kvs) (hb : valueAt kvs (Str.ofString "w") = none)
    (kont : ∀ h tk, Fr g L h (frm ksLaw [v0, some (.ref E), v2, v3, some (.int lvl tl), v5, v6, v7, v8, v9, v10, v11, v12, v13, v14, v15, v16]) → News g L h own → Q .next ⟨h, ge, dr, tk, os⟩) :
    wpAny (model PR w) (ktrTop dp un gd (Str.ofString "law") scope L 481 cdv [(Str.ofString "well", cc)] []) (execs (hdS (bodS (hdS bd.tail.tail.tail.tail.tail.tail)).tail.tail :: []) (envX (Str.ofString "law") scope L 481 cdv [(Str.ofString "well", cc)])) Q (fun _ _ => False) ⟨h, ge, dr, tk, os⟩ := by
  obtain ⟨LT, GT⟩ := law_tab hL
  obtain ⟨oc', od', osl', name', qual', params', dV', kV', doc', pm', an', ct', ho'⟩ := hL
  rw [show (Mine.hd.heap_39 w.params).lookup 481 = some _ from rfl] at ho'
  cases ho'
  unfold ksLaw at F LT
  unfold gsLaw at GT
  dsimp only [hdS, bodS, List.tail_cons]
  k_extra "SK"
  refine' t_is_missing_w w mean mg mb own e _ _ kvs hea hb _ _ _ _ _ _ _ _ _ _ _ _ _ _ _ _ B ?F X ?N T rfl ?hd ?hu ?_
  case F => k_asm
  case N => k_asm
  case hd => k_extra "OM"
  case hu => k_extra "OM"
  rintro r news' h' tk' F' N' ⟨t, rfl, rfl⟩
  k_sweep
  k_extra "SK"
  all_goals exact kont _ _ (by k_asm) (by k_asm)
end SLP3C
section SLP3
section
variable {w : World} {A : Around} {h₀ h : Heap} {L I l a : Addr} {cn : Str} {cs : Scope} {ccd : Value} {cl : List (Str × Addr)}
  {ge : Array GenState} {dr : Drawn} {tk : Nat} {os : OsState} {news : Led} {ks : List Str} {vs : List (Option Value)} {x : Str} {px : Pos} {body : List Stmt} {Q : Flow → Shared → Prop}
theorem lst_lit {ys : List Value} (J : Nat → List (Option Value) → Led → Prop) {o : Obj} {n : Nat} (hh : A.handled = none) (T : LocTab cs ks) (F : Fr h₀ L h (frm ks vs)) (N : News h₀ L h ((I, o) :: (l, listOf ys.toArray n) :: news)) (hI : ∀ p ∈ (l, listOf ys.toArray n) :: news, p.1 ≠ I) (ho : LIt o l 0) (j : Nat) (hx : ks[j]? = some x)
    (hJ : ∀ i vs news, J i vs news → vs.length = ks.length) (start : J 0 vs news)
    (step : ∀ i v vs news h tk o, ys[i]? = some v → J i vs news → Fr h₀ L h (frm ks (vs.set j (some v))) → News h₀ L h ((I, o) :: (l, listOf ys.toArray n) :: news) → LIt o l (i + 1) → (∀ p ∈ (l, listOf ys.toArray n) :: news, p.1 ≠ I) →
      wpAny (model PR w) A (execs body (envX cn cs L a ccd cl)) (TurnEnd h₀ L ks I (fun o => LIt o l (i + 1)) (fun fl vs news => (fl = .next ∨ fl = .cont) ∧ ∃ n0, news = (l, listOf ys.toArray n) :: n0 ∧ J (i + 1) vs n0) ⟨h, ge, dr, tk, os⟩) (fun _ _ => False) ⟨h, ge, dr, tk + 1, os⟩)
    (fin : ∀ vs news h tk, J ys.length vs news → Fr h₀ L h (frm ks vs) → News h₀ L h news → Q .next ⟨h, ge, dr, tk, os⟩) :
    Stop (ForRest PR w A (envX cn cs L a ccd cl) (.Name x px) body Q (.ref I) ⟨h, ge, dr, tk, os⟩) := by
  refine lst_inv (n := n) ys (fun i vs news => ∃ n0, news = (l, listOf ys.toArray n) :: n0 ∧ J i vs n0) hh T F N hI ho j hx ?_ ⟨_, rfl, start⟩ ?_ ?_
  · rintro i vs news ⟨n0, rfl, h⟩
    exact ⟨hJ _ _ _ h, List.mem_cons_self⟩
  · rintro i v vs news h tk o hv ⟨n0, rfl, hj⟩ F N ho off
    exact step i v vs n0 h tk o hv hj F N ho off
  · rintro vs news h tk ⟨n0, rfl, hj⟩ F N
    exact fin vs n0 h tk hj F (newsSub N fun _ h => memTail h)
end
theorem perm_3a {a b c : Addr × Obj} {G : Led} : ∀ p ∈ c :: a :: b :: G, p ∈ a :: b :: c :: G := by repeat' (first | (with_reducible exact subRefl) | (with_reducible exact subNil) | (with_reducible exact subLeft) | (with_reducible refine' subBoth ?_ ?_) | (refine' subCons (by k_mem) ?_) | (with_reducible refine' subTail ?_) | (with_reducible refine' subApp ?_))
theorem perm_3b {a b c : Addr × Obj} {G : Led} : ∀ p ∈ b :: c :: G, p ∈ c :: a :: b :: G := by repeat' (first | (with_reducible exact subRefl) | (with_reducible exact subNil) | (with_reducible exact subLeft) | (with_reducible refine' subBoth ?_ ?_) | (refine' subCons (by k_mem) ?_) | (with_reducible refine' subTail ?_) | (with_reducible refine' subApp ?_))
theorem lit_at {v : Value} {t1 t2 : Tok} : ∀ {i : Nat}, [Value.str (Str.ofString "x") t1, Value.str (Str.ofString "y") t2][i]? = some v → i < 2 ∧ ∃ t, v = .str (nmOf i) t
  | 0, h => ⟨by k_extra "OM", _, (Option.some.inj h).symm⟩
  | 1, h => ⟨by k_extra "OM", _, (Option.some.inj h).symm⟩
  | n + 2, h => by simp at h
theorem lit_at3 {v : Value} {t1 t2 t3 : Tok} : ∀ {i : Nat}, [Value.str (Str.ofString "x") t1, Value.str (Str.ofString "y") t2, Value.str (Str.ofString "...") t3][i]? = some v → i < 3 ∧ ∃ t, v = .str (nmOf i) t
  | 0, h => ⟨by k_extra "OM", _, (Option.some.inj h).symm⟩
  | 1, h => ⟨by k_extra "OM", _, (Option.some.inj h).symm⟩
  | 2, h => ⟨by k_extra "OM", _, (Option.some.inj h).symm⟩
  | n + 3, h => by simp at h
inductive S3AJ (w : World) (d Dd : Addr) (rvs : List (Str × Value)) (lvl : Int) (tl : Tok) (c : Nat → Bool) (G : Led) (v0 v1 v3 v5 v6 v7 v8 v9 v10 v11 v12 v13 v14 v15 : Option Value) (i : Nat) (vs : List (Option Value)) (news : Led) : Prop
  | mk (do' : Obj) (rvs' : List (Str × Value)) (v16 : Option Value) (c0 : vs = [v0, v1, some (.ref Dd), v3, some (.int lvl tl), v5, v6, v7, v8, v9, v10, v11, v12, v13, v14, v15, v16]) (c1 : news = (d, do') :: G) (c2 : do'.IsDictOf (strKind PR w) rvs') (c3 : rvs'.length ≤ 10)
    (c4 : ∀ m, m < 3 → m < i ∨ m = 2 → valueAt rvs' (nmOf m) = some (.bool (c m))) (c5 : ∀ m, m < 2 → i ≤ m → valueAt rvs' (nmOf m) = valueAt rvs (nmOf m)) : S3AJ w d Dd rvs lvl tl c G v0 v1 v3 v5 v6 v7 v8 v9 v10 v11 v12 v13 v14 v15 i vs news
theorem seg3A (w : World) (mean : ExcName → Option Value) (mg mb : Str → Option Value) {W Dd d : Addr} {do_ : Obj} {rvs : List (Str × Value)} {lvl : Int} {tl : Tok} {ds : List Value} {n2 : Nat} {c : Nat → Bool} {G : Led} {v0 v1 v3 v5 v6 v7 v8 v9 v10 v11 v12 v13 v14 v15 v16 : Option Value}
    {scope : Scope} {cdv : Value} {bd : List Stmt} (hL : LawFn w bd scope cdv) {dp un : Nat} {gd : Option (List Code)} {A₀ : Around} {base g : Heap} {L cc : Addr} {oc : Obj} {ge : Array GenState} {dr : Drawn} {tk : Nat} {os : OsState} {h : Heap} {Q : Flow → Shared → Prop}
    (B : Below A₀ base [] g) (F : Fr g L h (frm ksLaw [v0, v1, some (.ref Dd), v3, some (.int lvl tl), v5, v6, v7, v8, v9, v10, v11, v12, v13, v14, v15, v16])) (X : (Mine.hd.heap_39 w.params).In g) (N : News g L h ((d, do_) :: G)) (T : Top VW LO mean mg mb g) (hd : dp + 40 < recursionLimit) (hu : un + 400 < cLine) (hoc : oc.data = .cell (some (.ref W)))
    (hD : (Dd, listOf ds.toArray n2) ∈ G) (h0 : 0 ≤ lvl) (h1 : lvl < 1000) (hd' : ds[lvl.toNat]? = some (.ref d)) (hGd : ∀ p ∈ G, @Ne Nat p.1 d) (hrl : rvs.length ≤ 10)
    (hus : ∀ m, m < 2 → ∃ u, valueAt rvs (nmOf m) = some u ∧ (u = .bool (c m) ∨ ∃ m' t d2 o2 rvs2, m' < 2 ∧ u = .str (nmOf m') t ∧ 1 ≤ lvl ∧ ds[(lvl - 1).toNat]? = some (.ref d2) ∧ (d2, o2) ∈ G ∧ o2.IsDictOf (strKind PR w) rvs2 ∧ valueAt rvs2 (nmOf m') = some (.bool (c m))))
    (h2 : valueAt rvs (nmOf 2) = some (.bool (c 2))) (hdo : do_.IsDictOf (strKind PR w) rvs) {rest : List Stmt}
    (kont : ∀ h tk (do' : Obj) (rvs' : List (Str × Value)) (v16 : Option Value), Fr g L h (frm ksLaw [v0, v1, some (.ref Dd), v3, some (.int lvl tl), v5, v6, v7, v8, v9, v10, v11, v12, v13, v14, v15, v16]) → News g L h ((d, do') :: G) → do'.IsDictOf (strKind PR w) rvs' →
      (∀ m, m < 3 → valueAt rvs' (nmOf m) = some (.bool (c m))) → wpAny (model PR w) (ktrTop dp un gd (Str.ofString "law") scope L 481 cdv [(Str.ofString "well", cc)] []) (execs (rest) (envX (Str.ofString "law") scope L 481 cdv [(Str.ofString "well", cc)])) Q (fun _ _ => False) ⟨h, ge, dr, tk, os⟩) :
    wpAny (model PR w) (ktrTop dp un gd (Str.ofString "law") scope L 481 cdv [(Str.ofString "well", cc)] []) (execs (hdS (bodS (hdS bd.tail.tail.tail.tail.tail.tail)) :: rest) (envX (Str.ofString "law") scope L 481 cdv [(Str.ofString "well", cc)])) Q (fun _ _ => False) ⟨h, ge, dr, tk, os⟩ := by
  have hL0 := hL
  have hod := off1_of hGd
  obtain ⟨LT, GT⟩ := law_tab hL
  obtain ⟨oc', od', osl', name', qual', params', dV', kV', doc', pm', an', ct', ho'⟩ := hL
  rw [show (Mine.hd.heap_39 w.params).lookup 481 = some _ from rfl] at ho'
  cases ho'
  unfold ksLaw at F LT
  unfold gsLaw at GT
  dsimp only [hdS, bodS, List.tail_cons]
  k_extra "S0"
  rename News _ _ _ _ => N3
  rename Fr _ _ _ _ => F3
  rename LIt _ _ _ => O3
  refine lst_lit (S3AJ w d Dd rvs lvl tl c G v0 v1 v3 v5 v6 v7 v8 v9 v10 v11 v12 v13 v14 v15) rfl LT F3 N3 ?hI O3 16 rfl ?hJ ?start ?step ?fin
  case hI => (first | k_all | fail "k_all")
  case hJ => rintro i vs news ⟨_, _, _, rfl, _⟩; rfl
  case start => exact ⟨_, rvs, _, rfl, rfl, hdo, hrl, fun m _ h => by
    rcases h with h | rfl
    · omega
    · exact h2, fun _ _ _ => rfl⟩
  case fin =>
    rintro vs news h tk ⟨do', rvs', v16', rfl, rfl, q1, q2, q3, q4⟩ F N
    exact kont _ _ do' rvs' v16' F N q1 fun m hm => q3 m hm (by simp only [List.length_cons, List.length_nil]; omega)
  case step =>
    rintro i v vs news h tk o hv ⟨do', rvs', v16', rfl, rfl, q1, q2, q3, q4⟩ F N ho off
    simp only [List.set_cons_succ, List.set_cons_zero] at F
    obtain ⟨hi2, t, rfl⟩ := lit_at hv
    obtain ⟨u, hu1, hu2⟩ := hus i hi2
    refine lp3a w mean mg mb (c := c i) hL0 B F X (newsSub N perm_3a) T hd hu hoc (memTail (memTail hD)) h0 h1 hd' ?gd (Nat.le_trans q2 (by decide)) ?hu q1 ((q4 i hi2 (Nat.le_refl _)).trans hu1) ?_
    case gd =>
      intro p hp
      rcases List.mem_cons.mp hp with rfl | hp
      · exact Ne.symm (off (d, do') (memTail List.mem_cons_self))
      rcases List.mem_cons.mp hp with rfl | hp
      · dsimp only; exact Nat.ne_of_gt (ltN (by first | (with_reducible assumption) | (with_reducible exact ltr (by with_reducible assumption) (by with_reducible assumption)) | k_extra "OM"))
      exact hGd p hp
    case hu =>
      rcases hu2 with h | ⟨m', t', d2, o2, rvs2, a1, a2, a3, a4, a5, a6, a7⟩
      · exact .inl h
      · exact .inr ⟨m', t', d2, o2, rvs2, a1, a2, a3, a4, memTail (memTail a5), a6, a7⟩
    intro h9 tk9 do2 rvs2 F N hdo2 hv2 hl2
    refine TurnEnd.mk' _ F N (memTail List.mem_cons_self) perm_3b ?off ho ⟨.inl rfl, _, rfl, do2, rvs2, _, rfl, rfl, hdo2, by k_extra "OM", fun m hm hmi => ?_, fun m hm hmi => ?_⟩
    case off =>
      intro p hp
      rcases List.mem_cons.mp hp with rfl | hp
      · exact off _ List.mem_cons_self
      rcases List.mem_cons.mp hp with rfl | hp
      · exact off (d, do') (memTail List.mem_cons_self)
      exact off p (memTail (memTail hp))
    · rw [hv2]
      split
      · rename_i e
        rw [nmOf_inj (by k_extra "OM") hm e]
      · rename_i e
        exact q3 m hm (by
          rcases hmi with h | h
          · by_cases z : m = i
            · exact absurd (by rw [z]) e
            · exact .inl (by k_extra "OM")
          · exact .inr h)
    · rw [hv2, if_neg (fun e => by have := nmOf_inj (by k_extra "OM") (by k_extra "OM") e; omega)]
      exact q4 m hm (by k_extra "OM")
theorem seg3B (w : World) (mean : ExcName → Option Value) (mg mb : Str → Option Value) {W E Dd d e : Addr} {do_ : Obj} {rvs kvs : List (Str × Value)} {lvl : Int} {tl : Tok} {es ds : List Value} {n1 n2 : Nat} {c : Nat → Bool} {own : Led} {v0 v3 v5 v6 v7 v8 v9 v10 v11 v12 v13 v14 v15 v16 : Option Value}
    {scope : Scope} {cdv : Value} {bd : List Stmt} (hL : LawFn w bd scope cdv) {dp un : Nat} {gd : Option (List Code)} {A₀ : Around} {base g : Heap} {L cc : Addr} {oc : Obj} {ge : Array GenState} {dr : Drawn} {tk : Nat} {os : OsState} {h : Heap} {Q : Flow → Shared → Prop}
    (B : Below A₀ base [] g) (F : Fr g L h (frm ksLaw [v0, some (.ref E), some (.ref Dd), v3, some (.int lvl tl), v5, v6, v7, v8, v9, v10, v11, v12, v13, v14, v15, v16])) (X : (Mine.hd.heap_39 w.params).In g) (N : News g L h (own)) (T : Top VW LO mean mg mb g) (hd : dp + 40 < recursionLimit) (hu : un + 400 < cLine) (hoc : oc.data = .cell (some (.ref W)))
    (hE : (E, listOf es.toArray n1) ∈ own) (hD : (Dd, listOf ds.toArray n2) ∈ own) (h0 : 0 ≤ lvl) (h1 : lvl < 1000) (he' : es[lvl.toNat]? = some (.ref e)) (hd' : ds[lvl.toNat]? = some (.ref d)) (hdm : (d, do_) ∈ own)
    (hdo : do_.IsDictOf (strKind PR w) rvs) (hv : ∀ m, m < 3 → valueAt rvs (nmOf m) = some (.bool (c m))) (hea : EnvAt w own e kvs) (hb : ∀ m, m < 3 → ∃ b, valueAt kvs (nmOf m) = some (.ref b) ∧ Miss w own e b (c m)) {rest : List Stmt}
    (kont : ∀ h tk (v16 : Option Value), Fr g L h (frm ksLaw [v0, some (.ref E), some (.ref Dd), v3, some (.int lvl tl), v5, v6, v7, v8, v9, v10, v11, v12, v13, v14, v15, v16]) → News g L h own → wpAny (model PR w) (ktrTop dp un gd (Str.ofString "law") scope L 481 cdv [(Str.ofString "well", cc)] []) (execs (rest) (envX (Str.ofString "law") scope L 481 cdv [(Str.ofString "well", cc)])) Q (fun _ _ => False) ⟨h, ge, dr, tk, os⟩) :
    wpAny (model PR w) (ktrTop dp un gd (Str.ofString "law") scope L 481 cdv [(Str.ofString "well", cc)] []) (execs (hdS (bodS (hdS bd.tail.tail.tail.tail.tail.tail)).tail :: rest) (envX (Str.ofString "law") scope L 481 cdv [(Str.ofString "well", cc)])) Q (fun _ _ => False) ⟨h, ge, dr, tk, os⟩ := by
  have hL0 := hL
  obtain ⟨LT, GT⟩ := law_tab hL
  obtain ⟨oc', od', osl', name', qual', params', dV', kV', doc', pm', an', ct', ho'⟩ := hL
  rw [show (Mine.hd.heap_39 w.params).lookup 481 = some _ from rfl] at ho'
  cases ho'
  unfold ksLaw at F LT
  unfold gsLaw at GT
  dsimp only [hdS, bodS, List.tail_cons]
  k_extra "S0"
  rename News _ _ _ _ => N3
  rename Fr _ _ _ _ => F3
  rename LIt _ _ _ => O3
  refine lst_lit (fun i vs news => ∃ v16, vs = [v0, some (.ref E), some (.ref Dd), v3, some (.int lvl tl), v5, v6, v7, v8, v9, v10, v11, v12, v13, v14, v15, v16] ∧ news = own) rfl LT F3 N3 ?hI O3 16 rfl ?hJ ?start ?step ?fin
  case hI => (first | k_all | fail "k_all")
  case hJ => rintro i vs news ⟨_, rfl, _⟩; rfl
  case start => exact ⟨_, rfl, rfl⟩
  case fin =>
    rintro vs news h tk ⟨v16', rfl, rfl⟩ F N
    exact kont _ _ v16' F N
  case step =>
    rintro i v vs news h tk o hv3 ⟨v16', rfl, rfl⟩ F N ho off
    simp only [List.set_cons_succ, List.set_cons_zero] at F
    obtain ⟨hi3, t, rfl⟩ := lit_at3 hv3
    obtain ⟨b, hb1, hb2⟩ := hb i hi3
    refine lp3b w mean mg mb hL0 B F X N T hd hu hoc (memTail (memTail hE)) (memTail (memTail hD)) h0 h1 he' hd' (memTail (memTail hdm)) hdo (hv i hi3) (hea.mono fun _ h => memTail (memTail h)) hb1 (hb2.mono fun _ h => memTail (memTail h)) ?_
    intro h9 tk9 F N
    exact TurnEnd.mk' _ F N List.mem_cons_self (fun _ h => memTail h) off ho ⟨.inl rfl, _, rfl, _, rfl, rfl⟩
end SLP3
section SLP3D
theorem perm_3c {P d : Addr × Obj} {Du Y : Led} : ∀ p ∈ P :: ((d :: Du) ++ Y), p ∈ d :: P :: (Du ++ Y) := by repeat' (first | (with_reducible exact subRefl) | (with_reducible exact subNil) | (with_reducible exact subLeft) | (with_reducible refine' subBoth ?_ ?_) | (refine' subCons (by k_mem) ?_) | (with_reducible refine' subTail ?_) | (with_reducible refine' subApp ?_))
theorem EnvOk.mono {w : World} {X X' : Led} {e : Addr} {r : Nat → Bool} (h : EnvOk w X e r) (hs : ∀ p ∈ X, p ∈ X') : EnvOk w X' e r :=
  let ⟨kvs, h1, h2, h3⟩ := h; ⟨kvs, h1.mono hs, fun m hm => let ⟨b, g1, g2⟩ := h2 m hm; ⟨b, g1, g2.mono hs⟩, h3⟩
theorem law_turn3 (w : World) (mean : ExcName → Option Value) (mg mb : Str → Option Value) {W E Dd : Addr} {n1 n2 j i : Nat} {es ds : List Value} {tl : Tok} {en dd : Nat → Addr} {r : Nat → Nat → Bool} {P : Addr × Obj} {Du Y : Led} {v0 v3 v5 v6 v7 v8 v9 v10 v11 v12 v13 v14 v15 v16 : Option Value}
    {scope : Scope} {cdv : Value} {bd : List Stmt} (hL : LawFn w bd scope cdv) {dp un : Nat} {gd : Option (List Code)} {A₀ : Around} {base g : Heap} {L cc : Addr} {oc : Obj} {ge : Array GenState} {dr : Drawn} {tk : Nat} {os : OsState} {h : Heap} {Q : Flow → Shared → Prop}
    (B : Below A₀ base [] g) (F : Fr g L h (frm ksLaw [v0, some (.ref E), some (.ref Dd), v3, some (.int (i : Int) tl), v5, v6, v7, v8, v9, v10, v11, v12, v13, v14, v15, v16])) (X : (Mine.hd.heap_39 w.params).In g) (N : News g L h (P :: (Du ++ Y))) (T : Top VW LO mean mg mb g) (hd : dp + 40 < recursionLimit) (hu : un + 400 < cLine) (hoc : oc.data = .cell (some (.ref W)))
    (hE : (E, listOf es.toArray n1) ∈ Y) (hD : (Dd, listOf ds.toArray n2) ∈ Y) (hij : i < j) (hj : j ≤ 7) (hes : ∀ k, k < j → es[k]? = some (.ref (en k))) (hds : ∀ k, k < j → ds[k]? = some (.ref (dd k))) (hP : ∀ p ∈ Du ++ Y, @Ne Nat p.1 P.1) (hA : Apart Du Y)
    (hdd : ∀ k k', k < j → k' < j → k ≠ k' → @Ne Nat (dd k) (dd k')) (hlo : ∀ k, k < i → RowRes w Du (dd k) (r k)) (hhi : RowRaw w Du (dd i) r i) (hen : EnvOk w Y (en i) (r i))
    (kont : ∀ h tk (do' : Obj) (rvs' : List (Str × Value)) (v16 : Option Value), Fr g L h (frm ksLaw [v0, some (.ref E), some (.ref Dd), v3, some (.int (i : Int) tl), v5, v6, v7, v8, v9, v10, v11, v12, v13, v14, v15, v16]) →
      News g L h (P :: (((dd i, do') :: Du.filter fun p => !(p.1 == dd i)) ++ Y)) → do'.IsDictOf (strKind PR w) rvs' → (∀ m, m < 3 → valueAt rvs' (nmOf m) = some (.bool (r i m))) → Q .next ⟨h, ge, dr, tk, os⟩) :
    wpAny (model PR w) (ktrTop dp un gd (Str.ofString "law") scope L 481 cdv [(Str.ofString "well", cc)] []) (execs (hdS (bodS (hdS bd.tail.tail.tail.tail.tail.tail)) :: hdS (bodS (hdS bd.tail.tail.tail.tail.tail.tail)).tail :: hdS (bodS (hdS bd.tail.tail.tail.tail.tail.tail)).tail.tail :: []) (envX (Str.ofString "law") scope L 481 cdv [(Str.ofString "well", cc)])) Q (fun _ _ => False) ⟨h, ge, dr, tk, os⟩ := by
  obtain ⟨o, rvs, hm, hdo, hl, hrw, hu2⟩ := hhi
  have mY : ∀ {p : Addr × Obj}, p ∈ Y → p ∈ P :: ((Du.filter fun p => !(p.1 == dd i)) ++ Y) := fun h => memTail (memApp h)
  have ti : ((i : Int)).toNat = i := by k_extra "OM"
  refine seg3A w mean mg mb (c := r i) (do_ := o) (G := P :: ((Du.filter fun p => !(p.1 == dd i)) ++ Y)) hL B F X (newsSub N ?sub) T hd hu hoc (mY hD) (by k_extra "OM") (by k_extra "OM") (by rw [ti]; exact hds i hij) ?gd hl (fun m hm2 => ?_) hu2 hdo ?_
  case sub =>
    intro p hp
    simp only [List.mem_cons, List.mem_append] at hp ⊢
    rcases hp with rfl | h | h | h
    · simp [hm]
    · simp [h]
    · simp [fil_sub _ h]
    · simp [h]
  case gd =>
    intro p hp
    simp only [List.mem_cons, List.mem_append] at hp
    rcases hp with rfl | h | h
    · exact Ne.symm (hP _ (memLeft hm))
    · exact fil_ne _ h
    · exact Ne.symm (hA _ hm p h)
  · obtain ⟨u, z1, z2⟩ := hrw m hm2
    refine ⟨u, z1, ?_⟩
    rcases z2 with h | ⟨i', m', t, e, a1, a2, a3⟩
    · exact .inl h
    · obtain ⟨o2, rvs2, y1, y2, y3⟩ := hlo i' (by k_extra "OM")
      refine .inr ⟨m', t, dd i', o2, rvs2, a1, a2, by k_extra "OM", by rw [show ((i : Int) - 1).toNat = i' by k_extra "OM"]; exact hds i' (by k_extra "OM"), memTail (memLeft (fil_mem y1 (hdd i' i (by k_extra "OM") hij (by k_extra "OM")))), y2, ?_⟩
      rw [y3 m' (by k_extra "OM"), a3]
  intro h1 tk1 do' rvs' v16' F N hdo' hv'
  have en2 := hen.mono (X' := (dd i, do') :: P :: ((Du.filter fun p => !(p.1 == dd i)) ++ Y)) fun _ h => memTail (mY h)
  obtain ⟨kvs, g1, g2, g3⟩ := en2
  refine seg3B w mean mg mb hL B F X N T hd hu hoc (memTail (mY hE)) (memTail (mY hD)) (by k_extra "OM") (by k_extra "OM") (by rw [ti]; exact hes i hij) (by rw [ti]; exact hds i hij) List.mem_cons_self hdo' hv' g1 g2 ?_
  intro h2 tk2 v16'' F N
  refine lp3c w mean mg mb hL B F X N T hd hu hoc (memTail (mY hE)) (by k_extra "OM") (by k_extra "OM") (by rw [ti]; exact hes i hij) g1 g3 ?_
  intro h3 tk3 F N
  exact kont h3 tk3 do' rvs' _ F (newsSub N perm_3c) hdo' hv'
inductive L3J (w : World) (E Dd : Addr) (j : Nat) (dd : Nat → Addr) (r : Nat → Nat → Bool) (Y : Led) (v0 : Option Value) (i : Nat) (vs : List (Option Value)) (news : Led) : Prop
  | mk (Du : Led) (v3 v4 v5 v6 v7 v8 v9 v10 v11 v12 v13 v14 v15 v16 : Option Value) (c0 : vs = [v0, some (.ref E), some (.ref Dd), v3, v4, v5, v6, v7, v8, v9, v10, v11, v12, v13, v14, v15, v16]) (c1 : news = Du ++ Y) (c2 : Apart Du Y)
    (c3 : ∀ k, k < i → RowRes w Du (dd k) (r k)) (c4 : ∀ k, i ≤ k → k < j → RowRaw w Du (dd k) r k) : L3J w E Dd j dd r Y v0 i vs news
theorem law_loop3 (w : World) (mean : ExcName → Option Value) (mg mb : Str → Option Value) {W E Dd : Addr} {n1 n2 j : Nat} {es ds : List Value} {en dd : Nat → Addr} {r : Nat → Nat → Bool} {Du Y : Led} {v0 v3 v4 v5 v6 v7 v8 v9 v10 v11 v12 v13 v14 v15 v16 : Option Value}
    {scope : Scope} {cdv : Value} {bd : List Stmt} (hL : LawFn w bd scope cdv) {dp un : Nat} {gd : Option (List Code)} {A₀ : Around} {base g : Heap} {L cc : Addr} {oc : Obj} {ge : Array GenState} {dr : Drawn} {tk : Nat} {os : OsState} {h : Heap} {Q : Flow → Shared → Prop}
    (B : Below A₀ base [] g) (F : Fr g L h (frm ksLaw [v0, some (.ref E), some (.ref Dd), v3, v4, v5, v6, v7, v8, v9, v10, v11, v12, v13, v14, v15, v16])) (X : (Mine.hd.heap_39 w.params).In g) (N : News g L h (Du ++ Y)) (T : Top VW LO mean mg mb g) (hd : dp + 40 < recursionLimit) (hu : un + 400 < cLine) (hoc : oc.data = .cell (some (.ref W)))
    (hE : (E, listOf es.toArray n1) ∈ Y) (hD : (Dd, listOf ds.toArray n2) ∈ Y) (hel : es.length = j) (hj1 : 1 ≤ j) (hj : j ≤ 7) (hes : ∀ k, k < j → es[k]? = some (.ref (en k))) (hds : ∀ k, k < j → ds[k]? = some (.ref (dd k))) (hA : Apart Du Y)
    (hdd : ∀ k k', k < j → k' < j → k ≠ k' → @Ne Nat (dd k) (dd k')) (hrow : ∀ k, k < j → RowRaw w Du (dd k) r k) (hen : ∀ k, k < j → EnvOk w Y (en k) (r k)) {rest : List Stmt}
    (kont : ∀ h tk vs news, Fr g L h (frm ksLaw vs) → News g L h news → wpAny (model PR w) (ktrTop dp un gd (Str.ofString "law") scope L 481 cdv [(Str.ofString "well", cc)] []) (execs (rest) (envX (Str.ofString "law") scope L 481 cdv [(Str.ofString "well", cc)])) Q (fun _ _ => False) ⟨h, ge, dr, tk, os⟩) :
    wpAny (model PR w) (ktrTop dp un gd (Str.ofString "law") scope L 481 cdv [(Str.ofString "well", cc)] []) (execs (hdS bd.tail.tail.tail.tail.tail.tail :: rest) (envX (Str.ofString "law") scope L 481 cdv [(Str.ofString "well", cc)])) Q (fun _ _ => False) ⟨h, ge, dr, tk, os⟩ := by
  have hL0 := hL
  obtain ⟨Z, hZ⟩ : ∃ Z, Z = Du ++ Y := ⟨_, rfl⟩
  rw [← hZ] at N
  have hE0 : (E, listOf es.toArray n1) ∈ Z := by rw [hZ]; exact memApp hE
  have S0 : True → Apart Du Y ∧ ∀ k, k < j → RowRaw w Du (dd k) r k := fun _ => ⟨hA, hrow⟩
  clear hA hrow
  obtain ⟨LT, GT⟩ := law_tab hL
  obtain ⟨oc', od', osl', name', qual', params', dV', kV', doc', pm', an', ct', ho'⟩ := hL
  rw [show (Mine.hd.heap_39 w.params).lookup 481 = some _ from rfl] at ho'
  cases ho'
  unfold ksLaw at F LT
  unfold gsLaw at GT
  dsimp only [hdS, bodS, List.tail_cons]
  k_extra "S0"
  rename Addr => I1
  rename News _ _ _ _ => N3
  rename Fr _ _ _ _ => F3
  refine' rng_invB (L3J w E Dd j dd r Y v0) ?h0 rfl LT F3 N3 ?hI 4 rfl ?hJ ?start ?step ?fin
  case h0 => k_extra "OM"
  case hI => (first | k_all | fail "k_all")
  case hJ => rintro i vs news ⟨_, _, _, _, _, _, _, _, _, _, _, _, _, _, _, rfl, _⟩; rfl
  case start => exact ⟨Du, _, _, _, _, _, _, _, _, _, _, _, _, _, _, rfl, hZ, (S0 trivial).1, fun k h => absurd h (Nat.not_lt_zero _), fun k _ h => (S0 trivial).2 k h⟩
  case fin =>
    rintro vs news h tk _ F N
    exact kont _ _ vs news F N
  case step =>
    rintro i vs news h tk hi' ⟨Du', v3', v4', v5', v6', v7', v8', v9', v10', v11', v12', v13', v14', v15', v16', rfl, rfl, hA, hlo, hhi⟩ F N off
    simp only [List.set_cons_succ, List.set_cons_zero] at F
    have hij : i < j := by k_extra "OM"
    obtain ⟨o0, _, hm0, _⟩ := hhi i (Nat.le_refl _) hij
    refine law_turn3 w mean mg mb hL0 B F X N T hd hu hoc hE hD hij hj hes hds off hA hdd hlo (hhi i (Nat.le_refl _) hij) (hen i hij) ?_
    intro h9 tk9 do' rvs' v16'' F N hdo' hv'
    refine TurnEnd.mk' (((dd i, do') :: Du'.filter fun p => !(p.1 == dd i)) ++ Y) F N List.mem_cons_self (fun _ h => memTail h) ?off rfl ⟨.inl rfl, _, _, _, _, _, _, _, _, _, _, _, _, _, _, _, rfl, rfl, fun p hp q hq => ?_, fun k hk => ?_, fun k hk hkj => ?_⟩
    case off =>
      intro p hp
      simp only [List.mem_cons, List.mem_append] at hp
      rcases hp with (rfl | h) | h
      · exact off (dd i, o0) (memLeft hm0)
      · exact off p (memLeft (fil_sub _ h))
      · exact off p (memApp h)
    · rcases List.mem_cons.mp hp with rfl | hp
      · exact hA (dd i, o0) hm0 q hq
      · exact hA p (fil_sub _ hp) q hq
    · by_cases q : k = i
      · subst q
        exact ⟨do', rvs', List.mem_cons_self, hdo', hv'⟩
      · obtain ⟨o, rvs, y1, y2, y3⟩ := hlo k (by k_extra "OM")
        exact ⟨o, rvs, memTail (fil_mem y1 (hdd k i (by k_extra "OM") hij q)), y2, y3⟩
    · obtain ⟨o, rvs, y1, y2, y3, y4⟩ := hhi k (by k_extra "OM") hkj
      exact ⟨o, rvs, memTail (fil_mem y1 (hdd k i hkj hij (by k_extra "OM"))), y2, y3, y4⟩
end SLP3D
section SHD1
theorem law_head (w : World) (mean : ExcName → Option Value) (mg mb : Str → Option Value) {scope : Scope} {cdv : Value} {bd : List Stmt} (hL : LawFn w bd scope cdv) {dp un : Nat} {gd : Option (List Code)} {A₀ : Around} {base g : Heap} {L cc : Addr} {oc : Obj} {ge : Array GenState} {dr : Drawn} {tk : Nat} {os : OsState} {h : Heap} {Q : Flow → Shared → Prop} {sc : Addr} {vs : List Value} {ns : List Int}
    (B : Below A₀ base [] g) (F : Fr g L h (frm ksLaw [some (.ref sc), none, none, none, none, none, none, none, none, none, none, none, none, none, none, none, none])) (X : (Mine.hd.heap_39 w.params).In g) {Rest : Led} (N : News g L h ((cc, oc) :: Rest)) (T : Top VW LO mean mg mb g) (hd : dp + 40 < recursionLimit) (hu : un + 400 < cLine) (hoc : oc.data = .cell none)
    (hsc : g.IsList sc vs.toArray) (hi : IntsAre vs ns) (hn : ns.length ≤ 63) (hcR : LCg.Off1 cc Rest) {rest : List Stmt}
    (kont : ∀ h tk (W R E Dd : Addr) (oc' : Obj) (ws : List Value) (t1 t2 : Tok), Fr g L h (frm ksLaw [some (.ref sc), some (.ref E), some (.ref Dd), some .none, none, none, none, none, none, none, none, none, none, none, none, none, none]) →
      News g L h ((W, listOf #[.int 0 t1, .ref R, .int 0 t2] 0) :: (cc, oc') :: (E, listOf ([] : List Value).toArray 0) :: (Dd, listOf ([] : List Value).toArray 0) :: [(R, listOf ws.toArray 0)]) → oc'.data = .cell (some (.ref W)) → IntsAre ws ((ns ++ [0]).take 40) → @LT.lt Nat _ cc R → @LT.lt Nat _ R W → @LT.lt Nat _ W E → @LT.lt Nat _ E Dd → wpAny (model PR w) (ktrTop dp un gd (Str.ofString "law") scope L 481 cdv [(Str.ofString "well", cc)] []) (execs (rest) (envX (Str.ofString "law") scope L 481 cdv [(Str.ofString "well", cc)])) Q (fun _ _ => False) ⟨h, ge, dr, tk, os⟩) :
    wpAny (model PR w) (ktrTop dp un gd (Str.ofString "law") scope L 481 cdv [(Str.ofString "well", cc)] []) (execs (hdS bd :: hdS bd.tail :: hdS bd.tail.tail :: hdS bd.tail.tail.tail :: rest) (envX (Str.ofString "law") scope L 481 cdv [(Str.ofString "well", cc)])) Q (fun _ _ => False) ⟨h, ge, dr, tk, os⟩ := by
  obtain ⟨LT, GT⟩ := law_tab hL
  obtain ⟨oc', od', osl', name', qual', params', dV', kV', doc', pm', an', ct', ho'⟩ := hL
  rw [show (Mine.hd.heap_39 w.params).lookup 481 = some _ from rfl] at ho'
  cases ho'
  unfold ksLaw at F LT
  unfold gsLaw at GT
  dsimp only [hdS, bodS, List.tail_cons]
  k_extra "SK"
  rename IntsAre _ _ => HI
  rename News _ _ _ _ => NN
  rename Fr _ _ _ _ => FF
  refine' kmk_slice_ints (s := ⟨_, _, _, _, _⟩) FF NN ?vl ?vp ?vq HI ?vm ?vc ?_ ?vs ?vt ?vz
  case vl => exact News.isList NN List.mem_cons_self
  case vp => exact IsPart.none
  case vq => exact IsPart.int _ _
  case vm => exact kmk_upto HI (by decide)
  case vc => exact List.length_take ..
  case vs => with_unfolding_all rfl
  case vt => kmk_pure
  case vz => exact kmk_sz HI (by simp only [sizeLine_eq, List.length_append, List.length_cons, List.length_nil]; omega)
  intro D' ws' h' F' N' l1 hI' hC' hL'
  try simp only [Int.reduceNeg, Int.neg_neg, Int.reduceToNat] at hI' hC' hL'
  try k_lt l1
  try k_sweep
  k_extra "SK"
  rename News _ _ _ _ => NN2
  rename Fr _ _ _ _ => FF2
  rename _ = Data.cell _ => hcd2
  refine' kont _ _ _ _ _ _ _ _ _ _ FF2 (newsSub NN2 ?sb) hcd2 hI' ?o1 ?o2 ?o3 ?o4
  case sb => repeat' (first | (with_reducible exact subRefl) | (with_reducible exact subNil) | (with_reducible refine' subCons (by repeat (first | (with_reducible exact List.mem_cons_self) | (with_reducible refine' memTail ?_))) ?_) | (with_reducible refine' subTail ?_))
  all_goals exact ltN (by k_extra "OM")
end SHD1
section SHD2
theorem perm_h {W cc E Dd : Addr × Obj} {Du X : Led} : ∀ p ∈ Du ++ (E :: Dd :: X), p ∈ W :: cc :: E :: Dd :: (Du ++ X) := by repeat' (first | (with_reducible exact subRefl) | (with_reducible exact subNil) | (with_reducible exact subLeft) | (with_reducible refine' subBoth ?_ ?_) | (refine' subCons (by k_mem) ?_) | (with_reducible refine' subTail ?_) | (with_reducible refine' subApp ?_))
theorem law_ret (w : World) (mean : ExcName → Option Value) (mg mb : Str → Option Value) {W : Addr} {news : Led} {vs : List (Option Value)} {scope : Scope} {cdv : Value} {bd : List Stmt} (hL : LawFn w bd scope cdv) {dp un : Nat} {gd : Option (List Code)} {g : Heap} {L cc : Addr} {ge : Array GenState} {dr : Drawn} {tk : Nat} {os : OsState} {h : Heap} {Q : Flow → Shared → Prop}
    (F : Fr g L h (frm ksLaw vs)) (X : (Mine.hd.heap_39 w.params).In g) (N : News g L h news) (kont : ∀ tk, Q (.ret (.bool true)) ⟨h, ge, dr, tk, os⟩) :
    wpAny (model PR w) (ktrTop dp un gd (Str.ofString "law") scope L 481 cdv [(Str.ofString "well", cc)] []) (execs (hdS bd.tail.tail.tail.tail.tail.tail.tail :: []) (envX (Str.ofString "law") scope L 481 cdv [(Str.ofString "well", cc)])) Q (fun _ _ => False) ⟨h, ge, dr, tk, os⟩ := by
  obtain ⟨LT, GT⟩ := law_tab hL
  obtain ⟨oc', od', osl', name', qual', params', dV', kV', doc', pm', an', ct', ho'⟩ := hL
  rw [show (Mine.hd.heap_39 w.params).lookup 481 = some _ from rfl] at ho'
  cases ho'
  unfold ksLaw at F LT
  unfold gsLaw at GT
  dsimp only [hdS, bodS, List.tail_cons]
  k_extra "S0"
  exact kont _
theorem law_all (w : World) (mean : ExcName → Option Value) (mg mb : Str → Option Value) {scope : Scope} {cdv : Value} {bd : List Stmt} (hL : LawFn w bd scope cdv) {dp un : Nat} {gd : Option (List Code)} {A₀ : Around} {base g : Heap} {L cc : Addr} {oc : Obj} {ge : Array GenState} {dr : Drawn} {tk : Nat} {os : OsState} {h : Heap} {Q : Flow → Shared → Prop} {sc : Addr} {vs : List Value} {ns : List Int}
    (B : Below A₀ base [] g) (F : Fr g L h (frm ksLaw [some (.ref sc), none, none, none, none, none, none, none, none, none, none, none, none, none, none, none, none])) (X : (Mine.hd.heap_39 w.params).In g) (N : News g L h [(cc, oc)]) (T : Top VW LO mean mg mb g) (hd : dp + 40 < recursionLimit) (hu : un + 400 < cLine) (hoc : oc.data = .cell none)
    (hsc : g.IsList sc vs.toArray) (hi : IntsAre vs ns) (hn : ns.length ≤ 63)
    (kont : ∀ h tk vs, Fr g L h (frm ksLaw vs) → Q (.ret (.bool true)) ⟨h, ge, dr, tk, os⟩) :
    wpAny (model PR w) (ktrTop dp un gd (Str.ofString "law") scope L 481 cdv [(Str.ofString "well", cc)] []) (execs (hdS bd :: hdS bd.tail :: hdS bd.tail.tail :: hdS bd.tail.tail.tail :: hdS bd.tail.tail.tail.tail :: hdS bd.tail.tail.tail.tail.tail :: hdS bd.tail.tail.tail.tail.tail.tail :: hdS bd.tail.tail.tail.tail.tail.tail.tail :: []) (envX (Str.ofString "law") scope L 481 cdv [(Str.ofString "well", cc)])) Q (fun _ _ => False) ⟨h, ge, dr, tk, os⟩ := by
  refine law_head w mean mg mb (Rest := []) hL B F X N T hd hu hoc hsc hi hn trivial ?_
  intro h1 tk1 W R E Dd oc' ws t1 t2 F N hoc' hiw l1 l2 l3 l4
  have hw1 : 0 < ((ns ++ [0]).take 40).length := by rw [List.length_take, List.length_append]; simp; omega
  have hw2 : ((ns ++ [0]).take 40).length ≤ 40 := by rw [List.length_take]; omega
  have e1 : @Ne Nat cc W := by k_extra "OM"
  have e2 : @Ne Nat E W := by k_extra "OM"
  have e3 : @Ne Nat Dd W := by k_extra "OM"
  have e4 : @Ne Nat cc E := by k_extra "OM"
  have e5 : @Ne Nat cc Dd := by k_extra "OM"
  have e6 : @Ne Nat E Dd := by k_extra "OM"
  have hRW : @Ne Nat R W := by k_extra "OM"
  refine law_loop1 w mean mg mb hL B F X N T hd hu hoc' e1 e2 e3 e4 e5 e6 ?oR List.mem_cons_self hRW hiw hw1 hw2 (by k_extra "OM") (by decide) (by k_extra "OM") (by k_extra "OM") ?_
  case oR =>
    intro p hp b hb
    rcases List.mem_cons.mp hp with rfl | hp
    · simp only [List.mem_cons, List.not_mem_nil, or_false] at hb
      rcases hb with rfl | rfl | rfl | rfl
      · exact hRW
      · exact Nat.ne_of_gt l1
      · exact Nat.ne_of_lt (by k_extra "OM")
      · exact Nat.ne_of_lt (by k_extra "OM")
    · cases hp
  rintro h2 tk2 J vs2 news2 j1 j2 ⟨a, k, ta, tk, n1, n2, vb, en, fr, dd, I, Fd, Du, v4, v5, v6, v7, v8, v9, v10, v11, v12, v13, v14, v15, v16, rfl, rfl, S, b1, b2, b3, b4, _, oR', hR'⟩ F N
  refine law_loop2 w mean mg mb hL B F X N T hd hu hoc' e1 e2 e3 e4 e5 e6 oR' hR' hRW hiw hw1 hw2 b1 b2 b3 (by k_extra "OM") j1 j2 S ?_
  rintro h3 tk3 km vs3 news3 ⟨a', k', ta', tk', n1', n2', I', Fd', Du', v3', v4', v5', v6', v7', v8', v9', v10', v11', v12', v13', v14', v15', v16', rfl, rfl, S', c1, c2, c3, c4, oR2, hR2⟩ F N
  obtain ⟨r, hr⟩ := lev_res S' J (Nat.le_refl _)
  refine law_loop3 w mean mg mb (W := W) (r := r) hL B F X (newsSub N perm_h) T hd hu hoc' List.mem_cons_self (memTail List.mem_cons_self) refs_len j1 j2 (fun k hk => refs_at hk) (fun k hk => refs_at hk) ?hA (fun k k' hk hk' hne => (S'.2.1 k k' hk hk' hne).2) (fun k hk => (hr k hk).2) (fun k hk => (hr k hk).1.mono fun _ h => memTail (memTail h)) ?_
  case hA =>
    intro p hp q hq
    rcases List.mem_cons.mp hq with rfl | hq
    · exact oR2 p (memLeft hp) E (by simp)
    rcases List.mem_cons.mp hq with rfl | hq
    · exact oR2 p (memLeft hp) Dd (by simp)
    exact S'.2.2.1 p hp q hq
  intro h4 tk4 vs4 news4 F N
  exact law_ret w mean mg mb (W := W) hL F X N fun tk => kont _ _ _ F
end SHD2
section SENT
theorem bind_law {kindOf : Str → Option NameKind} {sc : Addr} (hk : kindOf (Str.ofString "script") = some .local) : bindL kindOf [(Str.ofString "script", .ref sc)] (fun _ => none) = frm ksLaw [some (.ref sc), none, none, none, none, none, none, none, none, none, none, none, none, none, none, none, none] := by
  rw [bindL_filter]
  rw [show ([(Str.ofString "script", Value.ref sc)].filter fun b => decide (kindOf b.1 = some .local)) = [(Str.ofString "script", Value.ref sc)] by simp [hk]]
  refine Eq.trans ?_ (frm_binds [Str.ofString "script"] [.ref sc] ksLaw.tail (by decide +kernel) rfl)
  funext y
  simp
theorem Fr.law {g h : Heap} {L sc : Addr} {kindOf : Str → Option NameKind} {binds : List (Str × Value)} {g2 : Heap} {its : Array Value} (_ : g2.IsList sc its) (F : Fr g L h (bindL kindOf binds fun _ => none)) (hb : binds = [(Str.ofString "script", .ref sc)]) (hk : kindOf (Str.ofString "script") = some .local) :
    Fr g L h (frm ksLaw [some (.ref sc), none, none, none, none, none, none, none, none, none, none, none, none, none, none, none, none]) := by
  rw [← bind_law hk, ← hb]; exact F
theorem law_go (w : World) (mean : ExcName → Option Value) (mg mb : Str → Option Value) {scope : Scope} {cdv : Value} {bd : List Stmt} (hL : LawFn w bd scope cdv) {A₀ : Around} {base g : Heap} {L : Addr} {oc : Obj} {ge : Array GenState} {dr : Drawn} {tk : Nat} {os : OsState} {h : Heap} {Q : Flow → Shared → Prop} {E : Value → Shared → Prop} {sc : Addr} {vs : List Value} {ns : List Int} {A : Around} {env : Env} {body : List Stmt}
    (B : Below A₀ base [] g) (F : Fr g L h (frm ksLaw [some (.ref sc), none, none, none, none, none, none, none, none, none, none, none, none, none, none, none, none])) (X : (Mine.hd.heap_39 w.params).In g) (N : News g L h [(L + 1, oc)]) (T : Top VW LO mean mg mb g) (hoc : oc.data = .cell none)
    (hsc : g.IsList sc vs.toArray) (hi : IntsAre vs ns) (hn : ns.length ≤ 63)
    (hE : env = envX (Str.ofString "law") scope L 481 cdv [(Str.ofString "well", L + 1)]) (hA : A = callerA.deeper env)
    (hb : body = hdS bd :: hdS bd.tail :: hdS bd.tail.tail :: hdS bd.tail.tail.tail :: hdS bd.tail.tail.tail.tail :: hdS bd.tail.tail.tail.tail.tail :: hdS bd.tail.tail.tail.tail.tail.tail :: hdS bd.tail.tail.tail.tail.tail.tail.tail :: [])
    (kont : ∀ h tk vs, Fr g L h (frm ksLaw vs) → Q (.ret (.bool true)) ⟨h, ge, dr, tk, os⟩) :
    wpAny (model PR w) A (execs body env) Q E ⟨h, ge, dr, tk, os⟩ := by
  subst hE hA hb
  refine wpAny_mono (law_all w mean mg mb (dp := 1 + claimMargin + 1) (un := 7) (gd := some []) hL B F X N T (by decide +kernel) (by decide +kernel) hoc hsc hi hn kont) (fun _ _ h => h) fun _ _ h => h.elim
open PySem.W in
theorem ent : PySem.Challenge.rw_nz0481_01.Holds := Mine.hd (by
  w_strict (
    k_fill
    intro w s₀ s₁ mg mb G Y fa o pm cd doc dV kV ho hd hcd hD hmg hg args vals as hpre hlay hrd hwl hlo
    have KX := kIn_of Y
    have hmg2 := hmg
    have hd2 := hd
    k_behind G ho hd hcd hD hmg hpre hlay hrd hwl hlo cd
    all_goals (
      rename Top _ _ _ _ _ _ => T
      rename Fr _ _ _ _ => F
      rename News _ _ _ _ => N
      rename IntsAre _ _ => HI
      rename Heap.IsList _ _ _ => HL
      rename _ = Data.cell _ => HC
      rename ¬ _ < _ => HN
      have hfa := Value.ref.inj (Option.some.inj (hmg2.symm.trans (mg_of (v := .ref 481) KX (Top.g T) (by kernel_rfl))))
      subst hfa
      have hk := (KX 481 _ rfl).symm.trans ho
      have hk2 := Option.some.inj hk
      subst hk2
      have hc := Value.ref.inj (congrArg FuncData.code (Data.func.inj hd2))
      have F2 := Fr.law HL F (by kernel_rfl) (by kernel_rfl)
      have HC2 := HC.trans (congrArg Data.cell (show _ = none by kernel_rfl))
      subst hc
      refine law_go w _ mg mb (scope := _) (cdv := .ref 480) ⟨_, _, _, _, _, _, _, _, _, _, _, _, rfl⟩ (below_caller _) F2 KX N T HC2 HL HI ?hn ?hE ?hA ?hb ?ko
      case hn => k_extra "OM"
      case hE => kernel_rfl
      case hA => kernel_rfl
      case hb => kernel_rfl
      case ko =>
        intro h9 tk9 vs9 F9
        dsimp only
        k_end
        wrow_close)))
end SENT
end Mine
theorem PySem.Challenge.cw_nz0481_01_holds : PySem.Challenge.rw_nz0481_01.Holds :=
  Mine.ent
