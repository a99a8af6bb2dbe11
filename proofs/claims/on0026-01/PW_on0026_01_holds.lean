import PyProof.Rows.All
import Wide.All
import OpenK.AllK
import Wide.FinOn
import KE.KPairTest
import Lean
import PySem.Challenge.RW_on0026_01
-- The names under which open_top would lay twins of the written heap are taken ahead: with the twins the compiled file passes its lid (32 MiB). They stand for nothing in the proof.
theorem PySem.W.Fast.tw10007627690174824804 : True := trivial
theorem PySem.W.Fast.tw10010936943081839664 : True := trivial
theorem PySem.W.Fast.tw10015664371746657536 : True := trivial
theorem PySem.W.Fast.tw10064045618751647445 : True := trivial
theorem PySem.W.Fast.tw10073347824450446311 : True := trivial
theorem PySem.W.Fast.tw10227693086864044499 : True := trivial
theorem PySem.W.Fast.tw10314498396905981064 : True := trivial
theorem PySem.W.Fast.tw10317580896714288900 : True := trivial
theorem PySem.W.Fast.tw10323183001455561277 : True := trivial
theorem PySem.W.Fast.tw10424941004445345732 : True := trivial
theorem PySem.W.Fast.tw10470071008263537045 : True := trivial
theorem PySem.W.Fast.tw10528696920762540405 : True := trivial
theorem PySem.W.Fast.tw1055568401681811165 : True := trivial
theorem PySem.W.Fast.tw10706342367453228570 : True := trivial
theorem PySem.W.Fast.tw10833955939284561965 : True := trivial
theorem PySem.W.Fast.tw10887116778572429059 : True := trivial
theorem PySem.W.Fast.tw10919533547850550483 : True := trivial
theorem PySem.W.Fast.tw1092655722715705105 : True := trivial
theorem PySem.W.Fast.tw10938465397075749097 : True := trivial
theorem PySem.W.Fast.tw10942035263794033107 : True := trivial
theorem PySem.W.Fast.tw10996506086634736982 : True := trivial
theorem PySem.W.Fast.tw11013792430000457035 : True := trivial
theorem PySem.W.Fast.tw11108263761283441063 : True := trivial
theorem PySem.W.Fast.tw11130039905162102590 : True := trivial
theorem PySem.W.Fast.tw11161088081135249708 : True := trivial
theorem PySem.W.Fast.tw11186114360453789277 : True := trivial
theorem PySem.W.Fast.tw11270796479367742343 : True := trivial
theorem PySem.W.Fast.tw11277716924127702174 : True := trivial
theorem PySem.W.Fast.tw11306939235166856333 : True := trivial
theorem PySem.W.Fast.tw11310463157757771331 : True := trivial
theorem PySem.W.Fast.tw11317593695737139937 : True := trivial
theorem PySem.W.Fast.tw11420187438672877268 : True := trivial
theorem PySem.W.Fast.tw11445135464325071761 : True := trivial
theorem PySem.W.Fast.tw11452132507678324671 : True := trivial
theorem PySem.W.Fast.tw1145845241644347369 : True := trivial
theorem PySem.W.Fast.tw11462045893675790159 : True := trivial
theorem PySem.W.Fast.tw11543547407058413889 : True := trivial
theorem PySem.W.Fast.tw1156252341971683116 : True := trivial
theorem PySem.W.Fast.tw11566699232636054958 : True := trivial
theorem PySem.W.Fast.tw11588390666370768167 : True := trivial
theorem PySem.W.Fast.tw11625766737575182897 : True := trivial
theorem PySem.W.Fast.tw11636919720809706868 : True := trivial
theorem PySem.W.Fast.tw11682084944484805031 : True := trivial
theorem PySem.W.Fast.tw11707371222683016368 : True := trivial
theorem PySem.W.Fast.tw11707433790658880453 : True := trivial
theorem PySem.W.Fast.tw117213463901210413 : True := trivial
theorem PySem.W.Fast.tw11788150170368784547 : True := trivial
theorem PySem.W.Fast.tw11796506867022685745 : True := trivial
theorem PySem.W.Fast.tw11838138170533393997 : True := trivial
theorem PySem.W.Fast.tw1184552218554016812 : True := trivial
theorem PySem.W.Fast.tw11853533878840232495 : True := trivial
theorem PySem.W.Fast.tw11863081143760314161 : True := trivial
theorem PySem.W.Fast.tw11892598404827812706 : True := trivial
theorem PySem.W.Fast.tw11939915149646268982 : True := trivial
theorem PySem.W.Fast.tw11957962974430299695 : True := trivial
theorem PySem.W.Fast.tw11964429278604863157 : True := trivial
theorem PySem.W.Fast.tw11994158751524154303 : True := trivial
theorem PySem.W.Fast.tw12022618010286034681 : True := trivial
theorem PySem.W.Fast.tw12177639751122801600 : True := trivial
theorem PySem.W.Fast.tw1218959903707654005 : True := trivial
theorem PySem.W.Fast.tw12224578244612797663 : True := trivial
theorem PySem.W.Fast.tw12233582284571471492 : True := trivial
theorem PySem.W.Fast.tw12329403913580668285 : True := trivial
theorem PySem.W.Fast.tw12371321757623732685 : True := trivial
theorem PySem.W.Fast.tw12392613427281201732 : True := trivial
theorem PySem.W.Fast.tw12450158673883907302 : True := trivial
theorem PySem.W.Fast.tw12488000419048109807 : True := trivial
theorem PySem.W.Fast.tw1258717718454355964 : True := trivial
theorem PySem.W.Fast.tw12635297910168745909 : True := trivial
theorem PySem.W.Fast.tw12635813782599140982 : True := trivial
theorem PySem.W.Fast.tw12659028871203227004 : True := trivial
theorem PySem.W.Fast.tw12734952128020822468 : True := trivial
theorem PySem.W.Fast.tw12813236842856870187 : True := trivial
theorem PySem.W.Fast.tw12832477231654346042 : True := trivial
theorem PySem.W.Fast.tw12835720964997663042 : True := trivial
theorem PySem.W.Fast.tw12850107946570832962 : True := trivial
theorem PySem.W.Fast.tw12898947447245864913 : True := trivial
theorem PySem.W.Fast.tw1291980286583624508 : True := trivial
theorem PySem.W.Fast.tw12945451867199242903 : True := trivial
theorem PySem.W.Fast.tw12981051755390344553 : True := trivial
theorem PySem.W.Fast.tw13002492023102617099 : True := trivial
theorem PySem.W.Fast.tw13016732220969518872 : True := trivial
theorem PySem.W.Fast.tw13036272033356848781 : True := trivial
theorem PySem.W.Fast.tw13141144453892091621 : True := trivial
theorem PySem.W.Fast.tw13145125596335152023 : True := trivial
theorem PySem.W.Fast.tw13180171748994924942 : True := trivial
theorem PySem.W.Fast.tw13200701876752130231 : True := trivial
theorem PySem.W.Fast.tw1320183511955256522 : True := trivial
theorem PySem.W.Fast.tw13215998728584607739 : True := trivial
theorem PySem.W.Fast.tw13236226663087606529 : True := trivial
theorem PySem.W.Fast.tw13254397897704925713 : True := trivial
theorem PySem.W.Fast.tw13314330512976039754 : True := trivial
theorem PySem.W.Fast.tw13317431791736044220 : True := trivial
theorem PySem.W.Fast.tw1333364371103165705 : True := trivial
theorem PySem.W.Fast.tw13335737130258781183 : True := trivial
theorem PySem.W.Fast.tw13358618909089187005 : True := trivial
theorem PySem.W.Fast.tw13512673800721320934 : True := trivial
theorem PySem.W.Fast.tw13526986893379352335 : True := trivial
theorem PySem.W.Fast.tw1355338860687761863 : True := trivial
theorem PySem.W.Fast.tw13607416678640721797 : True := trivial
theorem PySem.W.Fast.tw13615603153576403970 : True := trivial
theorem PySem.W.Fast.tw13640514254501968386 : True := trivial
theorem PySem.W.Fast.tw13642483538084851733 : True := trivial
theorem PySem.W.Fast.tw136631920214876835 : True := trivial
theorem PySem.W.Fast.tw13678640442995254988 : True := trivial
theorem PySem.W.Fast.tw1370275717833778536 : True := trivial
theorem PySem.W.Fast.tw13759679279233594173 : True := trivial
theorem PySem.W.Fast.tw1377046205977697930 : True := trivial
theorem PySem.W.Fast.tw13776390136698705113 : True := trivial
theorem PySem.W.Fast.tw13789449189825218787 : True := trivial
theorem PySem.W.Fast.tw13809362725867891129 : True := trivial
theorem PySem.W.Fast.tw13900631225919944168 : True := trivial
theorem PySem.W.Fast.tw13912434898499826684 : True := trivial
theorem PySem.W.Fast.tw13915792640404377917 : True := trivial
theorem PySem.W.Fast.tw13981391230805400906 : True := trivial
theorem PySem.W.Fast.tw13987355940573415152 : True := trivial
theorem PySem.W.Fast.tw14023627001141898710 : True := trivial
theorem PySem.W.Fast.tw1402947280878808549 : True := trivial
theorem PySem.W.Fast.tw14073706353221006472 : True := trivial
theorem PySem.W.Fast.tw14108194823987119177 : True := trivial
theorem PySem.W.Fast.tw1414301608579184545 : True := trivial
theorem PySem.W.Fast.tw14168537005229113720 : True := trivial
theorem PySem.W.Fast.tw1419416864934026935 : True := trivial
theorem PySem.W.Fast.tw14210447440969649564 : True := trivial
theorem PySem.W.Fast.tw14223099787259518943 : True := trivial
theorem PySem.W.Fast.tw14311459727803291754 : True := trivial
theorem PySem.W.Fast.tw14320153404804151612 : True := trivial
theorem PySem.W.Fast.tw14326252917377295143 : True := trivial
theorem PySem.W.Fast.tw14333388528381170442 : True := trivial
theorem PySem.W.Fast.tw14386061602966655976 : True := trivial
theorem PySem.W.Fast.tw14416754947116332323 : True := trivial
theorem PySem.W.Fast.tw14433975572909055671 : True := trivial
theorem PySem.W.Fast.tw14473539162793888280 : True := trivial
theorem PySem.W.Fast.tw14530364306720264245 : True := trivial
theorem PySem.W.Fast.tw14537914154153760125 : True := trivial
theorem PySem.W.Fast.tw14553827428707814869 : True := trivial
theorem PySem.W.Fast.tw14714103240675001986 : True := trivial
theorem PySem.W.Fast.tw14778209649434054790 : True := trivial
theorem PySem.W.Fast.tw14884601019740666482 : True := trivial
theorem PySem.W.Fast.tw14896874001708588922 : True := trivial
theorem PySem.W.Fast.tw14979626087600564940 : True := trivial
theorem PySem.W.Fast.tw15007238320947547705 : True := trivial
theorem PySem.W.Fast.tw1503297043503765363 : True := trivial
theorem PySem.W.Fast.tw15034313371233782410 : True := trivial
theorem PySem.W.Fast.tw15066959818950650227 : True := trivial
theorem PySem.W.Fast.tw15079194523842364033 : True := trivial
theorem PySem.W.Fast.tw15112985482279097393 : True := trivial
theorem PySem.W.Fast.tw15168306246750427876 : True := trivial
theorem PySem.W.Fast.tw151948405760981731 : True := trivial
theorem PySem.W.Fast.tw15195428891847259777 : True := trivial
theorem PySem.W.Fast.tw15263041282635125899 : True := trivial
theorem PySem.W.Fast.tw15278061642289888581 : True := trivial
theorem PySem.W.Fast.tw15323854079317868165 : True := trivial
theorem PySem.W.Fast.tw15376083050721069600 : True := trivial
theorem PySem.W.Fast.tw15423634916342008072 : True := trivial
theorem PySem.W.Fast.tw15450981722951097364 : True := trivial
theorem PySem.W.Fast.tw15475462885187679331 : True := trivial
theorem PySem.W.Fast.tw15480198773659482676 : True := trivial
theorem PySem.W.Fast.tw15490439104401381959 : True := trivial
theorem PySem.W.Fast.tw15742981410569661332 : True := trivial
theorem PySem.W.Fast.tw1574873078441994576 : True := trivial
theorem PySem.W.Fast.tw15823609455315575823 : True := trivial
theorem PySem.W.Fast.tw15894407043143930727 : True := trivial
theorem PySem.W.Fast.tw15900120412870309639 : True := trivial
theorem PySem.W.Fast.tw15919542637913265678 : True := trivial
theorem PySem.W.Fast.tw15980859228951719591 : True := trivial
theorem PySem.W.Fast.tw16018607276475445134 : True := trivial
theorem PySem.W.Fast.tw16049961110935095269 : True := trivial
theorem PySem.W.Fast.tw16145008321745377990 : True := trivial
theorem PySem.W.Fast.tw16176465441171805009 : True := trivial
theorem PySem.W.Fast.tw1617757218408452269 : True := trivial
theorem PySem.W.Fast.tw16180582048198870337 : True := trivial
theorem PySem.W.Fast.tw16241802466949684156 : True := trivial
theorem PySem.W.Fast.tw16296994325663420285 : True := trivial
theorem PySem.W.Fast.tw16349216596472256690 : True := trivial
theorem PySem.W.Fast.tw16349804527192203551 : True := trivial
theorem PySem.W.Fast.tw1638017585896720355 : True := trivial
theorem PySem.W.Fast.tw16413264400604254196 : True := trivial
theorem PySem.W.Fast.tw16432479971616331241 : True := trivial
theorem PySem.W.Fast.tw16437185098154296904 : True := trivial
theorem PySem.W.Fast.tw16439824349840649037 : True := trivial
theorem PySem.W.Fast.tw16494616584097029746 : True := trivial
theorem PySem.W.Fast.tw16531745337717519161 : True := trivial
theorem PySem.W.Fast.tw16548257151911338427 : True := trivial
theorem PySem.W.Fast.tw16593013826814733010 : True := trivial
theorem PySem.W.Fast.tw16643379632663270332 : True := trivial
theorem PySem.W.Fast.tw16643706677886111943 : True := trivial
theorem PySem.W.Fast.tw16644606511662114574 : True := trivial
theorem PySem.W.Fast.tw16655555454665732581 : True := trivial
theorem PySem.W.Fast.tw16697116713213952808 : True := trivial
theorem PySem.W.Fast.tw16741492637210864865 : True := trivial
theorem PySem.W.Fast.tw16752143609539240740 : True := trivial
theorem PySem.W.Fast.tw16792545251062261874 : True := trivial
theorem PySem.W.Fast.tw16817318245366136608 : True := trivial
theorem PySem.W.Fast.tw16846860572762119324 : True := trivial
theorem PySem.W.Fast.tw16869277618539721502 : True := trivial
theorem PySem.W.Fast.tw16874561944515371726 : True := trivial
theorem PySem.W.Fast.tw16916688483869632129 : True := trivial
theorem PySem.W.Fast.tw16947794391021106201 : True := trivial
theorem PySem.W.Fast.tw16979880578912567463 : True := trivial
theorem PySem.W.Fast.tw17000155066101142889 : True := trivial
theorem PySem.W.Fast.tw17000458434675057986 : True := trivial
theorem PySem.W.Fast.tw17001327861769816259 : True := trivial
theorem PySem.W.Fast.tw17018628822417861297 : True := trivial
theorem PySem.W.Fast.tw1702518465993881591 : True := trivial
theorem PySem.W.Fast.tw17057272898397164401 : True := trivial
theorem PySem.W.Fast.tw1706496860858754268 : True := trivial
theorem PySem.W.Fast.tw17069979004554194336 : True := trivial
theorem PySem.W.Fast.tw17100903815162463580 : True := trivial
theorem PySem.W.Fast.tw17101871299007795629 : True := trivial
theorem PySem.W.Fast.tw17111948838632640456 : True := trivial
theorem PySem.W.Fast.tw17164873540382356111 : True := trivial
theorem PySem.W.Fast.tw17244072584429378644 : True := trivial
theorem PySem.W.Fast.tw17274371674624000324 : True := trivial
theorem PySem.W.Fast.tw17279654841073493023 : True := trivial
theorem PySem.W.Fast.tw17300597898927385350 : True := trivial
theorem PySem.W.Fast.tw17352973434858128600 : True := trivial
theorem PySem.W.Fast.tw17394056326795013819 : True := trivial
theorem PySem.W.Fast.tw17405107967546479533 : True := trivial
theorem PySem.W.Fast.tw17434858337260393937 : True := trivial
theorem PySem.W.Fast.tw17476080006546285661 : True := trivial
theorem PySem.W.Fast.tw17497748084772794779 : True := trivial
theorem PySem.W.Fast.tw17517737089405305841 : True := trivial
theorem PySem.W.Fast.tw17532440430192770315 : True := trivial
theorem PySem.W.Fast.tw17532718790514356516 : True := trivial
theorem PySem.W.Fast.tw17537794083376710389 : True := trivial
theorem PySem.W.Fast.tw17552769576498331613 : True := trivial
theorem PySem.W.Fast.tw1763209079605825380 : True := trivial
theorem PySem.W.Fast.tw17672482021469178181 : True := trivial
theorem PySem.W.Fast.tw1772237422875290029 : True := trivial
theorem PySem.W.Fast.tw17730428716208468724 : True := trivial
theorem PySem.W.Fast.tw17730448691065144110 : True := trivial
theorem PySem.W.Fast.tw17804436615005485693 : True := trivial
theorem PySem.W.Fast.tw17828083071136270317 : True := trivial
theorem PySem.W.Fast.tw17846936440860909165 : True := trivial
theorem PySem.W.Fast.tw17863021456227041891 : True := trivial
theorem PySem.W.Fast.tw17888162413812561239 : True := trivial
theorem PySem.W.Fast.tw17954471519018878134 : True := trivial
theorem PySem.W.Fast.tw17964007177503468958 : True := trivial
theorem PySem.W.Fast.tw17975652961387846372 : True := trivial
theorem PySem.W.Fast.tw17988542015724977305 : True := trivial
theorem PySem.W.Fast.tw18056578402003937789 : True := trivial
theorem PySem.W.Fast.tw18101931140130867144 : True := trivial
theorem PySem.W.Fast.tw18211773271919218964 : True := trivial
theorem PySem.W.Fast.tw18220123701641295943 : True := trivial
theorem PySem.W.Fast.tw18260038339965228139 : True := trivial
theorem PySem.W.Fast.tw1829445100760108279 : True := trivial
theorem PySem.W.Fast.tw18340240734955500558 : True := trivial
theorem PySem.W.Fast.tw18345786424863182364 : True := trivial
theorem PySem.W.Fast.tw18350638575300117064 : True := trivial
theorem PySem.W.Fast.tw183835017167291270 : True := trivial
theorem PySem.W.Fast.tw18416463498863911781 : True := trivial
theorem PySem.W.Fast.tw1886563365779066154 : True := trivial
theorem PySem.W.Fast.tw189603312586018693 : True := trivial
theorem PySem.W.Fast.tw1962928258387122110 : True := trivial
theorem PySem.W.Fast.tw2039238271031011813 : True := trivial
theorem PySem.W.Fast.tw2193789692954389824 : True := trivial
theorem PySem.W.Fast.tw219737044198020058 : True := trivial
theorem PySem.W.Fast.tw2283851925072248500 : True := trivial
theorem PySem.W.Fast.tw2315820567201803617 : True := trivial
theorem PySem.W.Fast.tw2334299552400917057 : True := trivial
theorem PySem.W.Fast.tw2354101950205528012 : True := trivial
theorem PySem.W.Fast.tw2364824441312284604 : True := trivial
theorem PySem.W.Fast.tw2378363196638174374 : True := trivial
theorem PySem.W.Fast.tw2381599553089736043 : True := trivial
theorem PySem.W.Fast.tw2408619945344806742 : True := trivial
theorem PySem.W.Fast.tw2422670821966735624 : True := trivial
theorem PySem.W.Fast.tw2447775223705975068 : True := trivial
theorem PySem.W.Fast.tw2460228577881660442 : True := trivial
theorem PySem.W.Fast.tw2478078296215019888 : True := trivial
theorem PySem.W.Fast.tw2599325451414397859 : True := trivial
theorem PySem.W.Fast.tw2611137233208623240 : True := trivial
theorem PySem.W.Fast.tw2627984346626558326 : True := trivial
theorem PySem.W.Fast.tw2664551874359636763 : True := trivial
theorem PySem.W.Fast.tw2670528217467546775 : True := trivial
theorem PySem.W.Fast.tw2711585505577850959 : True := trivial
theorem PySem.W.Fast.tw2719445374943340272 : True := trivial
theorem PySem.W.Fast.tw282004115355043989 : True := trivial
theorem PySem.W.Fast.tw2862820112641550484 : True := trivial
theorem PySem.W.Fast.tw2905824091091238844 : True := trivial
theorem PySem.W.Fast.tw2922074901204462755 : True := trivial
theorem PySem.W.Fast.tw2948108419219029167 : True := trivial
theorem PySem.W.Fast.tw2951486255847992690 : True := trivial
theorem PySem.W.Fast.tw2968979199505139716 : True := trivial
theorem PySem.W.Fast.tw3039592710220408265 : True := trivial
theorem PySem.W.Fast.tw3093977132361051618 : True := trivial
theorem PySem.W.Fast.tw3094477031063562474 : True := trivial
theorem PySem.W.Fast.tw3118938333895590913 : True := trivial
theorem PySem.W.Fast.tw3131671291697673992 : True := trivial
theorem PySem.W.Fast.tw3209381107111851631 : True := trivial
theorem PySem.W.Fast.tw3264259588550801142 : True := trivial
theorem PySem.W.Fast.tw3282434896037501709 : True := trivial
theorem PySem.W.Fast.tw3315324234476444515 : True := trivial
theorem PySem.W.Fast.tw3362959441861295915 : True := trivial
theorem PySem.W.Fast.tw3386650904741475044 : True := trivial
theorem PySem.W.Fast.tw3424931102881643321 : True := trivial
theorem PySem.W.Fast.tw3442601649717412197 : True := trivial
theorem PySem.W.Fast.tw3470799630455053000 : True := trivial
theorem PySem.W.Fast.tw347637069881736656 : True := trivial
theorem PySem.W.Fast.tw3560238982266916124 : True := trivial
theorem PySem.W.Fast.tw3577408171920636059 : True := trivial
theorem PySem.W.Fast.tw3619232141914619222 : True := trivial
theorem PySem.W.Fast.tw3636048126100218174 : True := trivial
theorem PySem.W.Fast.tw3764465048917985505 : True := trivial
theorem PySem.W.Fast.tw3766158894648301139 : True := trivial
theorem PySem.W.Fast.tw3820604794100220378 : True := trivial
theorem PySem.W.Fast.tw3856783459128436802 : True := trivial
theorem PySem.W.Fast.tw3891137856419664920 : True := trivial
theorem PySem.W.Fast.tw3972328310683599613 : True := trivial
theorem PySem.W.Fast.tw4011157648589011858 : True := trivial
theorem PySem.W.Fast.tw4039474712603431140 : True := trivial
theorem PySem.W.Fast.tw4071324889030633612 : True := trivial
theorem PySem.W.Fast.tw4075660801711882420 : True := trivial
theorem PySem.W.Fast.tw4090926877573551719 : True := trivial
theorem PySem.W.Fast.tw4275521005467322725 : True := trivial
theorem PySem.W.Fast.tw4302124980754421698 : True := trivial
theorem PySem.W.Fast.tw4319705520415482375 : True := trivial
theorem PySem.W.Fast.tw43969757491396457 : True := trivial
theorem PySem.W.Fast.tw4407734736301137906 : True := trivial
theorem PySem.W.Fast.tw441327347791068078 : True := trivial
theorem PySem.W.Fast.tw4527066259768149269 : True := trivial
theorem PySem.W.Fast.tw4552823106982906706 : True := trivial
theorem PySem.W.Fast.tw4558998842232669794 : True := trivial
theorem PySem.W.Fast.tw460243522976405022 : True := trivial
theorem PySem.W.Fast.tw4636218855388986860 : True := trivial
theorem PySem.W.Fast.tw4640097943517422316 : True := trivial
theorem PySem.W.Fast.tw4658958612460137192 : True := trivial
theorem PySem.W.Fast.tw4681523508651956083 : True := trivial
theorem PySem.W.Fast.tw470574548607681690 : True := trivial
theorem PySem.W.Fast.tw4748654258956052638 : True := trivial
theorem PySem.W.Fast.tw4797165386629745026 : True := trivial
theorem PySem.W.Fast.tw4904739604578439355 : True := trivial
theorem PySem.W.Fast.tw4933834842325187142 : True := trivial
theorem PySem.W.Fast.tw4980102563643897964 : True := trivial
theorem PySem.W.Fast.tw5032809538720368765 : True := trivial
theorem PySem.W.Fast.tw505943868828395459 : True := trivial
theorem PySem.W.Fast.tw5076957145309523181 : True := trivial
theorem PySem.W.Fast.tw5135500740108067664 : True := trivial
theorem PySem.W.Fast.tw5189142188285759775 : True := trivial
theorem PySem.W.Fast.tw5200128776193632040 : True := trivial
theorem PySem.W.Fast.tw5248340912204065574 : True := trivial
theorem PySem.W.Fast.tw5268983451555188008 : True := trivial
theorem PySem.W.Fast.tw5345256250457102556 : True := trivial
theorem PySem.W.Fast.tw5349121933718820234 : True := trivial
theorem PySem.W.Fast.tw5357591511691535388 : True := trivial
theorem PySem.W.Fast.tw5396446701170858492 : True := trivial
theorem PySem.W.Fast.tw5457305198717421694 : True := trivial
theorem PySem.W.Fast.tw5518745428033880147 : True := trivial
theorem PySem.W.Fast.tw5529568453561195837 : True := trivial
theorem PySem.W.Fast.tw558745408833754511 : True := trivial
theorem PySem.W.Fast.tw5697894365363955025 : True := trivial
theorem PySem.W.Fast.tw5701610774189311196 : True := trivial
theorem PySem.W.Fast.tw5706481520468235054 : True := trivial
theorem PySem.W.Fast.tw5721027456603625697 : True := trivial
theorem PySem.W.Fast.tw5732905514179830355 : True := trivial
theorem PySem.W.Fast.tw5770868932273138760 : True := trivial
theorem PySem.W.Fast.tw5823794197072137003 : True := trivial
theorem PySem.W.Fast.tw5882768191206486792 : True := trivial
theorem PySem.W.Fast.tw5925582254088234700 : True := trivial
theorem PySem.W.Fast.tw6004533443673955352 : True := trivial
theorem PySem.W.Fast.tw6019396324639902685 : True := trivial
theorem PySem.W.Fast.tw6059929106960060952 : True := trivial
theorem PySem.W.Fast.tw608726401823008365 : True := trivial
theorem PySem.W.Fast.tw6090905460779295987 : True := trivial
theorem PySem.W.Fast.tw6122645084068987007 : True := trivial
theorem PySem.W.Fast.tw6125931036764729998 : True := trivial
theorem PySem.W.Fast.tw6135381517318000843 : True := trivial
theorem PySem.W.Fast.tw6245536207120538393 : True := trivial
theorem PySem.W.Fast.tw6363645014702824404 : True := trivial
theorem PySem.W.Fast.tw6380047634161181297 : True := trivial
theorem PySem.W.Fast.tw6426273055680023932 : True := trivial
theorem PySem.W.Fast.tw6434138532213402376 : True := trivial
theorem PySem.W.Fast.tw6434265647005701932 : True := trivial
theorem PySem.W.Fast.tw6448080314894763839 : True := trivial
theorem PySem.W.Fast.tw6550987210724342151 : True := trivial
theorem PySem.W.Fast.tw6589095468515690095 : True := trivial
theorem PySem.W.Fast.tw662354867322794072 : True := trivial
theorem PySem.W.Fast.tw6654550962395885724 : True := trivial
theorem PySem.W.Fast.tw6662432510661729299 : True := trivial
theorem PySem.W.Fast.tw667198328695590252 : True := trivial
theorem PySem.W.Fast.tw6679490504615227074 : True := trivial
theorem PySem.W.Fast.tw6683783046931543321 : True := trivial
theorem PySem.W.Fast.tw6711915476519705758 : True := trivial
theorem PySem.W.Fast.tw6714822604882049554 : True := trivial
theorem PySem.W.Fast.tw6722154040420286063 : True := trivial
theorem PySem.W.Fast.tw6792406925840432001 : True := trivial
theorem PySem.W.Fast.tw6817277305950994716 : True := trivial
theorem PySem.W.Fast.tw682011567655089306 : True := trivial
theorem PySem.W.Fast.tw6929956602132211858 : True := trivial
theorem PySem.W.Fast.tw6967401301877209104 : True := trivial
theorem PySem.W.Fast.tw7009043117176579089 : True := trivial
theorem PySem.W.Fast.tw7035115661146626270 : True := trivial
theorem PySem.W.Fast.tw704327219915372674 : True := trivial
theorem PySem.W.Fast.tw7094674258960923220 : True := trivial
theorem PySem.W.Fast.tw7098571738820278039 : True := trivial
theorem PySem.W.Fast.tw7198390536060210744 : True := trivial
theorem PySem.W.Fast.tw721709456127091705 : True := trivial
theorem PySem.W.Fast.tw7232422423428716515 : True := trivial
theorem PySem.W.Fast.tw724751600484774222 : True := trivial
theorem PySem.W.Fast.tw7250012664060256230 : True := trivial
theorem PySem.W.Fast.tw7269565832213808900 : True := trivial
theorem PySem.W.Fast.tw7275051467321613617 : True := trivial
theorem PySem.W.Fast.tw7276740287692124622 : True := trivial
theorem PySem.W.Fast.tw7286323032743288035 : True := trivial
theorem PySem.W.Fast.tw7299303143086499733 : True := trivial
theorem PySem.W.Fast.tw7299951869573292228 : True := trivial
theorem PySem.W.Fast.tw7323676302269181137 : True := trivial
theorem PySem.W.Fast.tw7365555872484859036 : True := trivial
theorem PySem.W.Fast.tw7392212959928792091 : True := trivial
theorem PySem.W.Fast.tw7397068168572129948 : True := trivial
theorem PySem.W.Fast.tw7401281599722004195 : True := trivial
theorem PySem.W.Fast.tw7496433998918960881 : True := trivial
theorem PySem.W.Fast.tw7504490480230193789 : True := trivial
theorem PySem.W.Fast.tw757081541053455785 : True := trivial
theorem PySem.W.Fast.tw7581352650102555174 : True := trivial
theorem PySem.W.Fast.tw7581816359482902497 : True := trivial
theorem PySem.W.Fast.tw7585139358526817783 : True := trivial
theorem PySem.W.Fast.tw7650934615059315214 : True := trivial
theorem PySem.W.Fast.tw7745614565497352828 : True := trivial
theorem PySem.W.Fast.tw7783732958741208154 : True := trivial
theorem PySem.W.Fast.tw7802139600951554647 : True := trivial
theorem PySem.W.Fast.tw7892128664451923741 : True := trivial
theorem PySem.W.Fast.tw8017206721242287953 : True := trivial
theorem PySem.W.Fast.tw8032284361305108907 : True := trivial
theorem PySem.W.Fast.tw8047484207015712433 : True := trivial
theorem PySem.W.Fast.tw8075568018651887793 : True := trivial
theorem PySem.W.Fast.tw8098380416015320538 : True := trivial
theorem PySem.W.Fast.tw8119918657739134586 : True := trivial
theorem PySem.W.Fast.tw8206430501311747189 : True := trivial
theorem PySem.W.Fast.tw8224813933742928703 : True := trivial
theorem PySem.W.Fast.tw8253183596043897158 : True := trivial
theorem PySem.W.Fast.tw8359286648393180516 : True := trivial
theorem PySem.W.Fast.tw8376441433122354887 : True := trivial
theorem PySem.W.Fast.tw8400853705098224536 : True := trivial
theorem PySem.W.Fast.tw8424611434330503625 : True := trivial
theorem PySem.W.Fast.tw8450942572126056277 : True := trivial
theorem PySem.W.Fast.tw8459811325457737761 : True := trivial
theorem PySem.W.Fast.tw8537084889766193716 : True := trivial
theorem PySem.W.Fast.tw8579058602437062094 : True := trivial
theorem PySem.W.Fast.tw8595292554425487202 : True := trivial
theorem PySem.W.Fast.tw8603108125212654177 : True := trivial
theorem PySem.W.Fast.tw8658103293671471659 : True := trivial
theorem PySem.W.Fast.tw8693227569615203950 : True := trivial
theorem PySem.W.Fast.tw8695380994152314050 : True := trivial
theorem PySem.W.Fast.tw8708707556590381134 : True := trivial
theorem PySem.W.Fast.tw8719427161674164953 : True := trivial
theorem PySem.W.Fast.tw8727135674562949291 : True := trivial
theorem PySem.W.Fast.tw8753696776887207221 : True := trivial
theorem PySem.W.Fast.tw878741703135273975 : True := trivial
theorem PySem.W.Fast.tw8796240567053077481 : True := trivial
theorem PySem.W.Fast.tw8860024209350480642 : True := trivial
theorem PySem.W.Fast.tw8952835172736613213 : True := trivial
theorem PySem.W.Fast.tw900395245841561262 : True := trivial
theorem PySem.W.Fast.tw9011979029575296479 : True := trivial
theorem PySem.W.Fast.tw912392155897948271 : True := trivial
theorem PySem.W.Fast.tw9137105182441381901 : True := trivial
theorem PySem.W.Fast.tw9151444980202551346 : True := trivial
theorem PySem.W.Fast.tw9285146279643344392 : True := trivial
theorem PySem.W.Fast.tw9300948228871686676 : True := trivial
theorem PySem.W.Fast.tw9305782018832362445 : True := trivial
theorem PySem.W.Fast.tw9315938663221665524 : True := trivial
theorem PySem.W.Fast.tw932993149863042379 : True := trivial
theorem PySem.W.Fast.tw9376109419431680627 : True := trivial
theorem PySem.W.Fast.tw9396933662098498411 : True := trivial
theorem PySem.W.Fast.tw9407582987413476825 : True := trivial
theorem PySem.W.Fast.tw9458956999447867950 : True := trivial
theorem PySem.W.Fast.tw9467589175468403638 : True := trivial
theorem PySem.W.Fast.tw9501820088010722379 : True := trivial
theorem PySem.W.Fast.tw951843321253372498 : True := trivial
theorem PySem.W.Fast.tw9564595351457756722 : True := trivial
theorem PySem.W.Fast.tw9594665118957945026 : True := trivial
theorem PySem.W.Fast.tw9626621113073979434 : True := trivial
theorem PySem.W.Fast.tw9674257727999782656 : True := trivial
theorem PySem.W.Fast.tw9676229304581654039 : True := trivial
theorem PySem.W.Fast.tw9691624938235723451 : True := trivial
theorem PySem.W.Fast.tw9742983093280867979 : True := trivial
theorem PySem.W.Fast.tw9759809726879904816 : True := trivial
theorem PySem.W.Fast.tw9800571698397750058 : True := trivial
theorem PySem.W.Fast.tw9908251947323293946 : True := trivial
theorem PySem.W.Fast.tw9931943479562821362 : True := trivial
theorem PySem.W.Fast.tw9948023125614773506 : True := trivial
theorem PySem.W.Fast.tw9951705424602377420 : True := trivial
theorem PySem.W.Fast.tw9979284746773624096 : True := trivial
open PySem PySem.W PyProof.Rows PySem.Calls
set_option Elab.async false
set_option maxRecDepth 100000
set_option maxHeartbeats 40000000
set_option linter.unusedVariables false
namespace Mine
open_top hd for PySem.Challenge.rw_on0026_01
theorem fillIt : PySem.Challenge.rw_on0026_01 = PySem.Challenge.rw_on0026_01 → hd.heap_39 = hd.heap_39 := by
  w_top off
  k_fill
  intro _; rfl
local macro_rules | `(tactic| k_room) => `(tactic| ((try simp only [depth_under_make, depth_under_kw, depth_in1, depth_deeper, depth_caller, ktrTop]); omega))
local macro_rules | `(tactic| k_units) => `(tactic| ((try simp only [units_in1, units_deeper, Around.mark_units, units_caller, ktrTop]); omega))
local macro_rules | `(tactic| k_enter) => `(tactic| first | (refine' code_def ?k1 ?k2 ?k3 ?k4 ?k5 ?kA ?kF ?kK ?k6 ?k7 ?k8 ?k9 ?kB ?_ ?c2 ?c3 ?c4 ?c5; (case kA => exact rfl); (case kF => exact rfl); (case kK => first | exact rfl | assumption); (case k1 => k_asm); (case k2 => k_asm); (case k3 => k_asm); (case k4 => k_asm); (case k5 => k_asm); (case k6 => k_is); (case k7 => k_is); (case k8 => k_room); (case k9 => first | exact BindsTo.of_eq rfl | exact binds_K (by k_in) rfl (by k_is) rfl rfl rfl); (case c5 => decide); (case kB => exact locs rfl); (case c2 => exact rfl); (case c3 => exact rfl); (case c4 => exact rfl); k_whole; intro g' L' h' FG' F' N' B' X' T'; (try dsimp only); (try k_fold)) | (refine' code_defC ?k1 ?k2 ?k3 ?k4 ?k5 ?kA ?kF ?kK ?k6 ?k7 ?k8 ?k9 ?kB ?kD ?_ ?c2 ?c3 ?c4; (case kA => exact rfl); (case kF => exact rfl); (case kK => first | exact rfl | assumption); (case k1 => k_asm); (case k2 => k_asm); (case k3 => k_asm); (case k4 => k_asm); (case k5 => k_asm); (case k6 => k_is); (case k7 => k_is); (case k8 => k_room); (case k9 => first | exact BindsTo.of_eq rfl | exact binds_K (by k_in) rfl (by k_is) rfl rfl rfl); (case kB => exact rfl); (case kD => decide +kernel); (case c2 => exact rfl); (case c3 => exact rfl); (case c4 => exact rfl); k_whole; intro g' L' h' tk' cells' FG' F' N' Y' B' X' T' l1; (try k_lt l1); k_cells Y'; (try simp only [List.cons_append, List.nil_append] at N'); (try dsimp only); (try k_fold)))
local macro_rules | `(tactic| k_all) => `(tactic| assumption)
local macro_rules | `(tactic| ke_room) => `(tactic| ((try simp only [units_in1, units_deeper, Around.mark_units, units_caller, ktrTop]); omega))
local macro_rules | `(tactic| k_allIn) => `(tactic| first | exact List.forall_mem_nil _ | (refine List.forall_mem_cons.mpr ⟨by k_mem, ?_⟩; k_allIn) | (intro _ _; k_mem))
local macro_rules | `(tactic| is_list) => `(tactic| exact News.isList (by k_asm) (by k_mem))
local macro_rules | `(tactic| walk_at $s:str) => `(tactic| k_extra $s)
-- PA: slice_parts; ToldAt: what a slice's value shows of a window
theorem start_PA : True := by
  w_top off
  trivial
abbrev Led := List (Addr × Obj)
abbrev tupO (vs : List Value) : Obj := { cls := .type "tuple", data := .seq vs.toArray }
abbrev lstO (vs : List Value) (n : Nat) : Obj := { cls := .type "list", data := .seq vs.toArray n }
theorem sub_mem {A B : Led} {p : Addr × Obj} (h : ∀ p ∈ A, p ∈ B) (hp : p ∈ A) : p ∈ B := h p hp
local macro_rules | `(tactic| k_mem) => `(tactic| first | (refine' sub_mem ?kmA ?kmB; (case kmA => assumption); (case kmB => assumption)) | assumption)
structure Win where
  row : Option Int
  b : Int
  l : Int
  r : Int
def rowV : Option Int → Tok → Value
  | none, _ => .none
  | some i, z => .int i z
def ToldAt (led : Led) (v : Value) (W : Win) : Prop :=
  match W.row with
  | none => v = .none ∧ W.b = 0 ∧ W.l = 0 ∧ W.r = 0
  | some i => ∃ t z0 z1 z2 z3 z4, v = .ref t ∧ (t, tupO [.str "slice" z0, .int (i + 1) z1, .int W.b z2, .int W.l z3, .int W.r z4]) ∈ led
theorem ToldAt.mono {led led' : Led} {v : Value} {W : Win} (h : ToldAt led v W) (k : ∀ t vs, (t, tupO vs) ∈ led → (t, tupO vs) ∈ led') : ToldAt led' v W := by
  unfold ToldAt at *
  split at h
  · exact h
  · obtain ⟨t, z0, z1, z2, z3, z4, e, hm⟩ := h
    exact ⟨t, z0, z1, z2, z3, z4, e, k _ _ hm⟩

section
variable {prog : Program} {w : World} {A : Around} {E : Value → Shared → Prop} {s : Shared} {h₀ : Heap} {L : Addr} {m : Str → Option Value} {led : Led}
theorem slice_tail1 {value slice : PySem.Expr} {t : Addr} {x : Value} {r : List Value} {u : Tok} {Q : Value → Shared → Prop}
    (F : Fr h₀ L s.heap m) (N : News h₀ L s.heap led) (hm : (t, tupO (x :: r)) ∈ led)
    (h : ∀ D h', Fr h₀ L h' m → News h₀ L h' ((D, tupO r) :: led) → (∀ p ∈ led, p.1 < D) → Q (.ref D) { s with heap := h' })
    (hs : subscripted slice false (.ref t) (.ref s.heap.objs.size) = operate [.ref s.heap.objs.size, .ref t] (getItem (.ref t) (.ref s.heap.objs.size)))
    (hg : ∀ r, letTemporaryGo value (.ref t) r = pure ())
    (hsz : (x :: r).length ≤ sizeLine) :
    wpAny (model prog w) A (subscriptTail value slice (.ref t) (.ref s.heap.objs.size)) Q E { s with heap := s.heap.push { cls := .type "slice", data := .fields #[.int 1 u, .none, .none] } } :=
  slice_tuple_from (a := 1) (items := (x :: r).toArray) F N ⟨_, (N _ hm).1, rfl, 0, rfl⟩ (Nat.le_refl 1) (by simp)
    (fun h' F' N' => h _ h' F' N' fun p hp => Nat.lt_succ_of_lt (Heap.lt_size (N p hp).1)) hs hg (by rw [List.size_toArray]; exact hsz)
end
theorem line_2 : True := by
  k_with "subscriptTail Name Slice ref ref" => (k_here; (with_reducible show wpAny _ _ (subscriptTail _ (PySem.Expr.Slice _ none none _) (Value.ref _) (Value.ref _)) _ _ _); k_dflt (refine' slice_tail1 (by k_asm) (by k_asm) (by k_mem) ?_ (by with_unfolding_all rfl) (by kmk_pure) (by first | exact Nat.le_of_ble_eq_true rfl | size_fits); k_whole); intro D'q h'q F'q N'q l1'q; (try k_lt l1'q); (try k_sweep))
  trivial

theorem allLt_to {d : Addr} {l : Led} (h : AllLt d l) : ∀ p ∈ l, p.1 < d := by
  induction l with
  | nil => intro p hp; cases hp
  | cons x r ih =>
    unfold AllLt at h
    intro p hp
    rcases List.mem_cons.mp hp with e | hp
    · rw [e]; exact h.1
    · exact ih h.2 p hp
section
variable {prog : Program} {w : World} {dp un : Nat} {gd : Option (List Code)} {cn : Str} {cs : Scope} {a : Addr} {ccd : Value} {cl : List (Str × Addr)} {outer : List Env} {A₀ : Around} {base h₀ : Heap} {L : Addr} {m : Str → Option Value} {led : Led} {s : Shared} {Q E : Value → Shared → Prop} {p : Program} {loose : List Str} {mean : ExcName → Option Value} {mg mb : Str → Option Value}
theorem slice_parts_spec {v : Value} {W : Win} (B : Below A₀ base outer h₀) (F : Fr h₀ L s.heap m) (X : (hd.heap_39 w.params).In h₀) (N : News h₀ L s.heap led) (T : Top p loose mean mg mb h₀) (hk : cs.kind = .function)
   (hdp : dp + 1 < recursionLimit) (hu : un + 8 < cLine) (hv : ToldAt led v W)
   (ret : ∀ t h' tk' z1 z2 z3 z4, Fr h₀ L h' m → News h₀ L h' ((t, tupO [rowV (W.row.map (· + 1)) z1, .int W.b z2, .int W.l z3, .int W.r z4]) :: led) → (∀ p ∈ led, p.1 < t) → Q (.ref t) { s with heap := h', toks := tk' }) :
    wpAny (model prog w) (ktrTop dp un gd cn cs L a ccd cl outer) (call (.ref 107) [v]) Q E s := by
  obtain ⟨row, b, l, r⟩ := W
  cases row with
  | none =>
    obtain ⟨rfl, rfl, rfl, rfl⟩ := hv
    k_steps
    all_goals exact ret _ _ _ 0 _ _ _ (by k_asm) (by k_asm) (by assumption)
  | some i =>
    obtain ⟨t, z0, z1, z2, z3, z4, rfl, hm⟩ := hv
    k_steps
    all_goals exact ret _ _ _ _ _ _ _ (by k_asm) (by k_asm) (by assumption)
end

-- PB: slice_length, slice_room, cell_place, place_in
theorem start_PB : True := by
  w_top off
  trivial
theorem line_3 : True := by
  k_with "call ref" => (k_here; (with_reducible show wpAny _ _ (call (Value.ref 107) [_]) _ _ _); k_dflt (refine' slice_parts_spec (by k_asm) (by k_asm) (by k_asm) (by k_asm) (by k_asm) (by first | exact rfl | assumption) (by k_room) (by k_units) (by first | assumption | exact ToldAt.mono (by assumption) (fun _ _ hm => by k_mem)) ?_; k_whole); intro t'q h'q tk'q z1'q z2'q z3'q z4'q F'q N'q l1'q; (try dsimp only [rowV, Option.map] at N'q); (try k_lt l1'q); (try k_sweep); (try k_fold))
  trivial
section
variable {prog : Program} {w : World} {dp un : Nat} {gd : Option (List Code)} {cn : Str} {cs : Scope} {a : Addr} {ccd : Value} {cl : List (Str × Addr)} {outer : List Env} {A₀ : Around} {base h₀ : Heap} {L : Addr} {m : Str → Option Value} {led : Led} {s : Shared} {Q E : Value → Shared → Prop} {p : Program} {loose : List Str} {mean : ExcName → Option Value} {mg mb : Str → Option Value}
theorem slice_length_spec {v : Value} {W : Win} (B : Below A₀ base outer h₀) (F : Fr h₀ L s.heap m) (X : (hd.heap_39 w.params).In h₀) (N : News h₀ L s.heap led) (T : Top p loose mean mg mb h₀) (hk : cs.kind = .function)
   (hdp : dp + 2 < recursionLimit) (hu : un + 16 < cLine) (hv : ToldAt led v W)
   (ret : ∀ h' tk' z, Fr h₀ L h' m → News h₀ L h' led → Q (.int W.l z) { s with heap := h', toks := tk' }) :
    wpAny (model prog w) (ktrTop dp un gd cn cs L a ccd cl outer) (call (.ref 114) [v]) Q E s := by
  k_steps
  all_goals exact ret _ _ _ (by k_asm) (cb_drop (by k_asm) fun p hp => by k_mem)
theorem slice_room_spec {v : Value} {W : Win} (B : Below A₀ base outer h₀) (F : Fr h₀ L s.heap m) (X : (hd.heap_39 w.params).In h₀) (N : News h₀ L s.heap led) (T : Top p loose mean mg mb h₀) (hk : cs.kind = .function)
   (hdp : dp + 2 < recursionLimit) (hu : un + 16 < cLine) (hv : ToldAt led v W)
   (ret : ∀ h' tk' z, Fr h₀ L h' m → News h₀ L h' led → Q (.int W.r z) { s with heap := h', toks := tk' }) :
    wpAny (model prog w) (ktrTop dp un gd cn cs L a ccd cl outer) (call (.ref 121) [v]) Q E s := by
  k_steps
  all_goals exact ret _ _ _ (by k_asm) (cb_drop (by k_asm) fun p hp => by k_mem)
theorem cell_place_spec {i k : Int} {zi zk : Tok} (B : Below A₀ base outer h₀) (F : Fr h₀ L s.heap m) (X : (hd.heap_39 w.params).In h₀) (N : News h₀ L s.heap led) (T : Top p loose mean mg mb h₀) (hk : cs.kind = .function)
   (hdp : dp + 1 < recursionLimit) (hu : un + 8 < cLine)
   (ret : ∀ h' tk' t q, Fr h₀ L h' m → News h₀ L h' ((t, tupO [.int i zi, .ref q]) :: (q, tupO [.int k zk]) :: led) → (∀ p ∈ led, p.1 < q) → q < t → Q (.ref t) { s with heap := h', toks := tk' }) :
    wpAny (model prog w) (ktrTop dp un gd cn cs L a ccd cl outer) (call (.ref 128) [.int i zi, .int k zk]) Q E s := by
  k_steps
  all_goals (repeat (rename _ ∧ _ => hc; obtain ⟨_, _⟩ := hc))
  all_goals exact ret _ _ _ _ (by k_asm) (cb_drop (by k_asm) fun p hp => by first | exact List.mem_cons.mpr ((List.mem_cons.mp hp).imp id fun hp => List.mem_cons.mpr ((List.mem_cons.mp hp).imp id fun hp => by k_mem))) (allLt_to (by assumption)) (by assumption)
end
theorem line_4 : True := by
  k_with "call ref" => (k_here; (with_reducible show wpAny _ _ (call (Value.ref 128) [Value.int _ _, Value.int _ _]) _ _ _); k_dflt (refine' cell_place_spec (by k_asm) (by k_asm) (by k_asm) (by k_asm) (by k_asm) (by first | exact rfl | assumption) (by k_room) (by k_units) ?_; k_whole); intro h'q tk'q t'q q'q F'q N'q l1'q l2'q; (try k_lt l1'q); (try k_sweep); (try k_fold))
  trivial
section
variable {prog : Program} {w : World} {dp un : Nat} {gd : Option (List Code)} {cn : Str} {cs : Scope} {a : Addr} {ccd : Value} {cl : List (Str × Addr)} {outer : List Env} {A₀ : Around} {base h₀ : Heap} {L : Addr} {m : Str → Option Value} {led : Led} {s : Shared} {Q E : Value → Shared → Prop} {p : Program} {loose : List Str} {mean : ExcName → Option Value} {mg mb : Str → Option Value}
theorem place_in_spec {v : Value} {W : Win} {i k : Int} {zk : Tok} (B : Below A₀ base outer h₀) (F : Fr h₀ L s.heap m) (X : (hd.heap_39 w.params).In h₀) (N : News h₀ L s.heap led) (T : Top p loose mean mg mb h₀) (hk : cs.kind = .function)
   (hdp : dp + 3 < recursionLimit) (hu : un + 24 < cLine) (hv : ToldAt led v W) (hi : W.row = some i) (h0 : 0 ≤ k) (h1 : k < W.l)
   (ret : ∀ h' tk' t q zi zj, Fr h₀ L h' m → News h₀ L h' ((t, tupO [.int (i + 1) zi, .ref q]) :: (q, tupO [.int (W.b + k) zj]) :: led) → (∀ p ∈ led, p.1 < q) → q < t → Q (.ref t) { s with heap := h', toks := tk' }) :
    wpAny (model prog w) (ktrTop dp un gd cn cs L a ccd cl outer) (call (.ref 135) [v, .int k zk]) Q E s := by
  obtain ⟨row, b, l, r⟩ := W
  dsimp only at hi h1
  subst hi
  k_steps
  all_goals (repeat (rename _ ∧ _ => hc; obtain ⟨_, _⟩ := hc))
  all_goals exact ret _ _ _ _ _ _ (by k_asm) (cb_drop (by k_asm) fun p hp => by first | exact List.mem_cons.mpr ((List.mem_cons.mp hp).imp id fun hp => List.mem_cons.mpr ((List.mem_cons.mp hp).imp id fun hp => by k_mem))) (allLt_to (by assumption)) (by assumption)
end

-- PC: with_part, led_flat, Heap.peek, Heap.load
theorem start_PC : True := by
  w_top off
  trivial
structure Cell where
  x : Addr
  dx : Addr
  c : Addr
  ns : List Int
abbrev keptD (P : Params) (c : Addr) (z1 z2 z3 z4 z5 : Tok) : Obj := dictOf [⟨PyData.keyHash P (Str.ofString "kind"), .str (Str.ofString "kind") z1, .str (Str.ofString "row") z2⟩, ⟨PyData.keyHash P (Str.ofString "content"), .str (Str.ofString "content") z3, .ref c⟩, ⟨PyData.keyHash P (Str.ofString "where"), .str (Str.ofString "where") z4, .str (Str.ofString "heap") z5⟩] 3
abbrev heapD (P : Params) (KD : Addr) (g : Int) (z1 z2 z3 z4 z5 z6 z7 : Tok) : Obj := dictOf [⟨PyData.keyHash P (Str.ofString "kept"), .str (Str.ofString "kept") z1, .ref KD⟩, ⟨PyData.keyHash P (Str.ofString "given"), .str (Str.ofString "given") z2, .int g z3⟩, ⟨PyData.keyHash P (Str.ofString "here"), .str (Str.ofString "here") z4, .int 0 z5⟩, ⟨PyData.keyHash P (Str.ofString "watch"), .str (Str.ofString "watch") z6, .none⟩, ⟨PyData.keyHash P (Str.ofString "collector"), .str (Str.ofString "collector") z7, .none⟩] 5
section
variable {prog : Program} {w : World} {A : Around} {E : Value → Shared → Prop} {s : Shared} {h₀ : Heap} {L : Addr} {m : Str → Option Value} {led : Led}
theorem notin_kept {KD : Addr} {oK : Obj} {kvs : List (Int × Value)} {k : Int} {z : Tok} {v : Value} {Q : Value → Shared → Prop} (N : News h₀ L s.heap led) (hm : (KD, oK) ∈ led) (hd : oK.IsDictOf (intKind prog w) kvs) (hlo : (KD == sysModules) = false)
    (hv : valueAt kvs k = some v) (h : Q (.bool false) { s with toks := s.toks + 1 }) : wpAny (model prog w) A (compareOp .NotIn (.int k z) (.ref KD)) Q E s :=
  wpAny_notIn_of (k := k) (by simp [intKind, Value.isInt]) hlo (Heap.DictOf.mapOf (Heap.dictOf_iff.mpr ⟨_, (N _ hm).1, hd⟩)) (by rw [hv]; exact h)
theorem item_kept {value slice : PySem.Expr} {KD : Addr} {oK : Obj} {kvs : List (Int × Value)} {k : Int} {z : Tok} {v : Value} {Q : Value → Shared → Prop} (N : News h₀ L s.heap led) (hm : (KD, oK) ∈ led) (hd : oK.IsDictOf (intKind prog w) kvs)
    (hv : valueAt kvs k = some v) (h : Q v { s with toks := s.toks + 1 })
    (hs : subscripted slice false (.ref KD) (.int k z) = operate [.ref KD, .int k z] (getItem (.ref KD) (.int k z))) : wpAny (model prog w) A (subscriptTail value slice (.ref KD) (.int k z)) Q E s :=
  have M := Heap.DictOf.mapOf (Heap.dictOf_iff.mpr ⟨_, (N _ hm).1, hd⟩)
  tail_any M.typeIs slot_dict_getitem.lookup (wpAny_getItem_of (k := k) (by simp [intKind, Value.isInt]) M hv h) hs
theorem len_ints {l : Addr} {vs : List Value} {ns : List Int} {n : Nat} {Q : Value → Shared → Prop} (N : News h₀ L s.heap led) (hm : (l, lstO vs n) ∈ led) (hi : IntsAre vs ns) (hf : ns.length < 2 ^ 24)
    (h : ∀ z tk, Q (.int ns.length z) { s with toks := tk }) : wpAny (model prog w) A (call (.builtin "len") [.ref l]) Q E s := by
  have hl := hi.length
  have e : (vs.toArray.size : Int) = ns.length := by rw [List.size_toArray, hl]
  refine len_list (News.isList N hm) (by rw [e]; omega) ?_
  rw [e]
  exact h _ _
end
theorem line_5 : True := by
  k_with "compareOp NotIn int ref" => (k_here; k_dflt (refine' notin_kept (by k_asm) (by k_mem) (by assumption) (by assumption) (by assumption) ?_; k_whole))
  trivial
theorem line_6 : True := by
  k_with "subscriptTail" => (k_here; (with_reducible show wpAny _ _ (subscriptTail (PySem.Expr.Attribute _ _ _) _ (Value.ref _) (Value.int _ _)) _ _ _); k_dflt (refine' item_kept (by k_asm) (by k_mem) (by assumption) (by assumption) ?_ (by with_unfolding_all rfl); k_whole))
  trivial
theorem line_7 : True := by
  k_with "call builtin:len" => (k_here; (with_reducible show wpAny _ _ (call (Value.builtin "len") [Value.ref _]) _ _ _); k_dflt (refine' len_ints (by k_asm) (by k_mem) (by assumption) (by first | assumption | omega) ?_; k_whole); intro _ _; (try k_fold))
  trivial
section
variable {prog : Program} {w : World} {A : Around} {E : Value → Shared → Prop} {s : Shared} {env : Env} {h₀ : Heap} {target : PySem.Expr} {body : List Stmt} {Q : Flow → Shared → Prop} {m : Str → Option Value} {led : Led}
theorem pyIter_tup0 {q : Addr} (hh : A.handled = none) (F : Fr h₀ env.locals s.heap m) (N : News h₀ env.locals s.heap led) (hm : (q, tupO []) ∈ led)
    (h : ∀ h' tk, Fr h₀ env.locals h' m → News h₀ env.locals h' led → Q .next { s with heap := h', toks := tk }) :
    wpAny (model prog w) A (pyIter (.ref q)) (fun it s₂ => TurnsAt prog w A h₀ env target body Q E it s₂) E s :=
  iter_tupTurns (vs := []) (n := 0) hh F N hm rfl rfl fun I _ => ItemsRest.zero h
end
theorem line_8 : True := by
  k_with "exec For Name Name cons nil" => (k_here; (rename Fr _ _ _ _ => lF'q); (with_unfolding_all refine' For_turns lF'q ?_); k_whole; (k_dflt (refine' ld lF'q (by exact rfl) ?_)); (k_dflt (refine' pyIter_tup0 (by exact rfl) (by k_asm) (by k_asm) (by k_mem) ?_)); intro h'q tk'q F'q N'q; (try k_sweep); (try k_fold))
  trivial
section
variable {prog : Program} {w : World} {dp un : Nat} {gd : Option (List Code)} {cn : Str} {cs : Scope} {a : Addr} {ccd : Value} {cl : List (Str × Addr)} {outer : List Env} {A₀ : Around} {base h₀ : Heap} {L : Addr} {m : Str → Option Value} {led : Led} {s : Shared} {Q E : Value → Shared → Prop} {p : Program} {loose : List Str} {mean : ExcName → Option Value} {mg mb : Str → Option Value}
theorem with_part_spec {v u : Value} {q : Addr} (B : Below A₀ base outer h₀) (F : Fr h₀ L s.heap m) (X : (hd.heap_39 w.params).In h₀) (N : News h₀ L s.heap led) (T : Top p loose mean mg mb h₀) (hk : cs.kind = .function)
   (hdp : dp + 6 < recursionLimit) (hu : un + 100 < cLine) (hq : (q, tupO []) ∈ led)
   (ret : ∀ h' tk', Fr h₀ L h' m → News h₀ L h' led → Q u { s with heap := h', toks := tk' }) :
    wpAny (model prog w) (ktrTop dp un gd cn cs L a ccd cl outer) (call (.ref 217) [v, .ref q, u]) Q E s := by
  k_steps
  all_goals exact ret _ _ (by k_asm) (cb_drop (by k_asm) fun p hp => by k_mem)
theorem led_flat_spec {loc pth : Addr} {k : Int} {zk : Tok} (B : Below A₀ base outer h₀) (F : Fr h₀ L s.heap m) (X : (hd.heap_39 w.params).In h₀) (N : News h₀ L s.heap led) (T : Top p loose mean mg mb h₀) (hk : cs.kind = .function)
   (hdp : dp + 2 < recursionLimit) (hu : un + 60 < cLine) (hl : (loc, tupO [.int k zk, .ref pth]) ∈ led)
   (ret : ∀ h' tk', Fr h₀ L h' m → News h₀ L h' led → Q (.ref loc) { s with heap := h', toks := tk' }) :
    wpAny (model prog w) (ktrTop dp un gd cn cs L a ccd cl outer) (call (.ref 224) [.ref loc]) Q E s := by
  k_steps
  all_goals exact ret _ _ (by k_asm) (cb_drop (by k_asm) fun p hp => by k_mem)
end
theorem line_9 : True := by
  k_with "call ref" => (k_here; (with_reducible show wpAny _ _ (call (Value.ref 224) [_]) _ _ _); k_dflt (refine' led_flat_spec (by k_asm) (by k_asm) (by k_asm) (by k_asm) (by k_asm) (by first | exact rfl | assumption) (by k_room) (by k_units) (by k_mem) ?_; k_whole); intro h'q tk'q F'q N'q; (try k_sweep); (try k_fold))
  trivial
section
variable {prog : Program} {w : World} {dp un : Nat} {gd : Option (List Code)} {cn : Str} {cs : Scope} {a : Addr} {ccd : Value} {cl : List (Str × Addr)} {outer : List Env} {A₀ : Around} {base h₀ : Heap} {L : Addr} {m : Str → Option Value} {led : Led} {s : Shared} {Q E : Value → Shared → Prop} {p : Program} {loose : List Str} {mean : ExcName → Option Value} {mg mb : Str → Option Value}
theorem peek_spec {H HD KD x dx c loc pth : Addr} {oK : Obj} {kvs : List (Int × Value)} {vs : List Value} {ns : List Int} {n : Nat} {k j g : Int} {z1 z2 z3 z4 z5 z6 z7 y1 y2 y3 y4 y5 zk zj : Tok} (B : Below A₀ base outer h₀) (F : Fr h₀ L s.heap m) (X : (hd.heap_39 w.params).In h₀) (N : News h₀ L s.heap led) (T : Top p loose mean mg mb h₀) (hk : cs.kind = .function)
   (hdp : dp + 5 < recursionLimit) (hu : un + 90 < cLine) (hH : (H, instObj 376 HD) ∈ led) (hHD : (HD, heapD w.params KD g z1 z2 z3 z4 z5 z6 z7) ∈ led) (hKD : (KD, oK) ∈ led) (hK : oK.IsDictOf (intKind prog w) kvs) (hlo : (KD == sysModules) = false)
   (hv : valueAt kvs k = some (.ref x)) (hx : (x, instObj 241 dx) ∈ led) (hdx : (dx, keptD w.params c y1 y2 y3 y4 y5) ∈ led) (hc : (c, lstO vs n) ∈ led)
   (hloc : (loc, tupO [.int k zk, .ref pth]) ∈ led) (hpth : (pth, tupO [.int j zj]) ∈ led) (hi : IntsAre vs ns) (hf : ns.length < 2 ^ 24) (h0 : 0 ≤ j) (hj : j < ns.length)
   (ret : ∀ h' tk' z, Fr h₀ L h' m → News h₀ L h' led → Q (.int (ns.getD j.toNat 0) z) { s with heap := h', toks := tk' }) :
    wpAny (model prog w) (ktrTop dp un gd cn cs L a ccd cl outer) (call (.ref 359) [.ref H, .ref loc]) Q E s := by
  k_steps
  all_goals exact ret _ _ _ (by k_asm) (cb_drop (by k_asm) fun p hp => by k_mem)
end
theorem line_10 : True := by
  k_with "call ref" => (k_here; (with_reducible show wpAny _ _ (call (Value.ref 359) [Value.ref _, Value.ref _]) _ _ _); k_dflt (refine' peek_spec (by k_asm) (by k_asm) (by k_asm) (by k_asm) (by k_asm) (by first | exact rfl | assumption) (by k_room) (by k_units) (by k_mem) (by k_mem) (by k_mem) (by assumption) (by assumption) (by assumption) (by k_mem) (by k_mem) (by k_mem) (by k_mem) (by k_mem) (by assumption) (by assumption) (by assumption) (by assumption) ?_; k_whole); intro h'q tk'q z'q F'q N'q; (try k_sweep); (try k_fold))
  trivial
section
variable {prog : Program} {w : World} {dp un : Nat} {gd : Option (List Code)} {cn : Str} {cs : Scope} {a : Addr} {ccd : Value} {cl : List (Str × Addr)} {outer : List Env} {A₀ : Around} {base h₀ : Heap} {L : Addr} {m : Str → Option Value} {led : Led} {s : Shared} {Q E : Value → Shared → Prop} {p : Program} {loose : List Str} {mean : ExcName → Option Value} {mg mb : Str → Option Value}
theorem load_spec {H HD KD x dx c loc pth : Addr} {oK : Obj} {kvs : List (Int × Value)} {vs : List Value} {ns : List Int} {n : Nat} {k j g : Int} {z1 z2 z3 z4 z5 z6 z7 y1 y2 y3 y4 y5 zk zj : Tok} (B : Below A₀ base outer h₀) (F : Fr h₀ L s.heap m) (X : (hd.heap_39 w.params).In h₀) (N : News h₀ L s.heap led) (T : Top p loose mean mg mb h₀) (hk : cs.kind = .function)
   (hdp : dp + 6 < recursionLimit) (hu : un + 100 < cLine) (hH : (H, instObj 376 HD) ∈ led) (hHD : (HD, heapD w.params KD g z1 z2 z3 z4 z5 z6 z7) ∈ led) (hKD : (KD, oK) ∈ led) (hK : oK.IsDictOf (intKind prog w) kvs) (hlo : (KD == sysModules) = false)
   (hv : valueAt kvs k = some (.ref x)) (hx : (x, instObj 241 dx) ∈ led) (hdx : (dx, keptD w.params c y1 y2 y3 y4 y5) ∈ led) (hc : (c, lstO vs n) ∈ led)
   (hloc : (loc, tupO [.int k zk, .ref pth]) ∈ led) (hpth : (pth, tupO [.int j zj]) ∈ led) (hi : IntsAre vs ns) (hf : ns.length < 2 ^ 24) (h0 : 0 ≤ j) (hj : j < ns.length)
   (ret : ∀ h' tk' z, Fr h₀ L h' m → News h₀ L h' led → Q (.int (ns.getD j.toNat 0) z) { s with heap := h', toks := tk' }) :
    wpAny (model prog w) (ktrTop dp un gd cn cs L a ccd cl outer) (call (.ref 366) [.ref H, .ref loc]) Q E s := by
  k_steps
  all_goals exact ret _ _ _ (by k_asm) (cb_drop (by k_asm) fun p hp => by k_mem)
end

-- PD: Heap.store, Heap.make
theorem start_PD : True := by
  w_top off
  trivial
theorem line_11 : True := by
  k_with "call ref" => (k_here; (with_reducible show wpAny _ _ (call (Value.ref 217) [_, _, _]) _ _ _); k_dflt (refine' with_part_spec (by k_asm) (by k_asm) (by k_asm) (by k_asm) (by k_asm) (by first | exact rfl | assumption) (by k_room) (by k_units) (by k_mem) ?_; k_whole); intro h'q tk'q F'q N'q; (try k_sweep); (try k_fold))
  trivial
section
variable {prog : Program} {w : World} {dp un : Nat} {gd : Option (List Code)} {cn : Str} {cs : Scope} {a : Addr} {ccd : Value} {cl : List (Str × Addr)} {outer : List Env} {A₀ : Around} {base h₀ : Heap} {L : Addr} {m : Str → Option Value} {led : Led} {s : Shared} {Q E : Value → Shared → Prop} {p : Program} {loose : List Str} {mean : ExcName → Option Value} {mg mb : Str → Option Value}
theorem store_spec {H HD KD x dx c loc pth : Addr} {oK : Obj} {kvs : List (Int × Value)} {vs : List Value} {ns : List Int} {n : Nat} {k j g u : Int} {z1 z2 z3 z4 z5 z6 z7 y1 y2 y3 y4 y5 zk zj zu : Tok} {rest : Led} (B : Below A₀ base outer h₀) (F : Fr h₀ L s.heap m) (X : (hd.heap_39 w.params).In h₀) (N : News h₀ L s.heap ((c, lstO vs n) :: rest)) (T : Top p loose mean mg mb h₀) (hk : cs.kind = .function)
   (hdp : dp + 6 < recursionLimit) (hu : un + 100 < cLine) (hr : ∀ p ∈ rest, p.1 ≠ c) (hH : (H, instObj 376 HD) ∈ rest) (hHD : (HD, heapD w.params KD g z1 z2 z3 z4 z5 z6 z7) ∈ rest) (hKD : (KD, oK) ∈ rest) (hK : oK.IsDictOf (intKind prog w) kvs) (hlo : (KD == sysModules) = false)
   (hv : valueAt kvs k = some (.ref x)) (hx : (x, instObj 241 dx) ∈ rest) (hdx : (dx, keptD w.params c y1 y2 y3 y4 y5) ∈ rest)
   (hloc : (loc, tupO [.int k zk, .ref pth]) ∈ rest) (hpth : (pth, tupO [.int j zj]) ∈ rest) (hi : IntsAre vs ns) (hf : ns.length < 2 ^ 24) (h0 : 0 ≤ j) (hj : j < ns.length)
   (ret : ∀ h' tk' vs', Fr h₀ L h' m → News h₀ L h' ((c, lstO vs' n) :: rest) → IntsAre vs' (ns.set j.toNat u) → Q .none { s with heap := h', toks := tk' }) :
    wpAny (model prog w) (ktrTop dp un gd cn cs L a ccd cl outer) (call (.ref 373) [.ref H, .ref loc, .int u zu]) Q E s := by
  k_steps
  all_goals exact ret _ _ _ (by k_asm) (cb_drop (by k_asm) (by k_allIn)) (by assumption)
end
section
variable {prog : Program} {w : World} {A : Around} {E : Value → Shared → Prop} {s : Shared} {h₀ : Heap} {L : Addr} {m : Str → Option Value} {led : Led}
theorem set_kept {KD : Addr} {oK : Obj} {g : Obj → Led} {kvs : List (Int × Value)} {k : Int} {z : Tok} {v : Value} {Q : Unit → Shared → Prop} (F : Fr h₀ L s.heap m) (N : News h₀ L s.heap led) (U : UpdF KD oK led g) (hd : oK.IsDictOf (intKind prog w) kvs)
    (hsz : kvs.length ≤ sizeLine)
    (h : ∀ h' o', Fr h₀ L h' m → News h₀ L h' (g o') → o'.IsDictOf (intKind prog w) (stored kvs k v) → Q () { s with heap := h', toks := s.toks + 1 }) : wpAny (model prog w) A (setItem (.ref KD) (.int k z) v) Q E s := by
  obtain ⟨pre, post, rfl, hg, a, b⟩ := U.split
  have hm := N (KD, oK) (List.mem_append_right _ (.head _))
  refine wpAny_setItem_pairs (k := k) (hsz := hsz) (by simp [intKind, Value.isInt]) (Heap.dictOf_iff.mpr ⟨_, hm.1, hd⟩) fun h' hmm hs => ?_
  obtain ⟨o', ho', hd'⟩ := Heap.dictOf_iff.mp hmm
  exact h h' o' (F.change hs hm.2.1 hm.2.2) (hg o' ▸ N.setIn a b hs ho') hd'
end
theorem line_12 : True := by
  k_with "setItem ref int ref" => (k_here; k_dflt (refine' set_kept (by k_asm) (by k_asm) (by k_updF) (by k_asm) (by assumption) ?_; k_whole); intro h'q o'q F'q N'q hd'q; (try dsimp only at N'q); (try k_sweep))
  trivial
section
variable {prog : Program} {w : World} {dp un : Nat} {gd : Option (List Code)} {cn : Str} {cs : Scope} {a : Addr} {ccd : Value} {cl : List (Str × Addr)} {outer : List Env} {A₀ : Around} {base h₀ : Heap} {L : Addr} {m : Str → Option Value} {led : Led} {s : Shared} {Q E : Value → Shared → Prop} {p : Program} {loose : List Str} {mean : ExcName → Option Value} {mg mb : Str → Option Value}
theorem make_spec {H HD KD c : Addr} {oK : Obj} {kvs : List (Int × Value)} {g : Int} {z1 z2 z3 z4 z5 z6 z7 zr zh : Tok} {rest : Led} (B : Below A₀ base outer h₀) (F : Fr h₀ L s.heap m) (X : (hd.heap_39 w.params).In h₀) (N : News h₀ L s.heap ((HD, heapD w.params KD g z1 z2 z3 z4 z5 z6 z7) :: (KD, oK) :: rest)) (T : Top p loose mean mg mb h₀) (hk : cs.kind = .function)
   (hdp : dp + 6 < recursionLimit) (hu : un + 100 < cLine) (hne : KD ≠ HD) (hne' : HD ≠ KD) (hr1 : ∀ p ∈ rest, p.1 ≠ HD) (hr2 : ∀ p ∈ rest, p.1 ≠ KD) (hH : (H, instObj 376 HD) ∈ rest) (hK : oK.IsDictOf (intKind prog w) kvs) (hlo : (KD == sysModules) = false)
   (hz : kvs.length ≤ sizeLine)
   (ret : ∀ h' tk' x dx oK' z1 z2 z3 z4 z5 z6 z7 y1 y2 y3 y4 y5 zg, Fr h₀ L h' m → News h₀ L h' ((HD, heapD w.params KD (g + 1) z1 z2 z3 z4 z5 z6 z7) :: (KD, oK') :: (x, instObj 241 dx) :: (dx, keptD w.params c y1 y2 y3 y4 y5) :: rest) → oK'.IsDictOf (intKind prog w) (stored kvs (g + 1) (.ref x)) → HD < dx → KD < dx → (∀ p ∈ rest, p.1 < dx) → dx < x → Q (.int (g + 1) zg) { s with heap := h', toks := tk' }) :
    wpAny (model prog w) (ktrTop dp un gd cn cs L a ccd cl outer) (call (.ref 268) [.ref H, .str (Str.ofString "row") zr, .ref c, .str (Str.ofString "heap") zh]) Q E s := by
  k_steps
  all_goals (repeat (rename _ ∧ _ => hc; obtain ⟨_, _⟩ := hc))
  all_goals exact ret _ _ _ _ _ _ _ _ _ _ _ _ _ _ _ _ _ _ (by k_asm) (cb_drop (by k_asm) (by k_allIn)) (by assumption) (by assumption) (by assumption) (allLt_to (by assumption)) (by assumption)
end

-- PE: HeapSt: the kept rows as one state of the ledger
theorem start_PE : True := by
  w_top off
  trivial
def kvsFrom : Int → List Cell → List (Int × Value)
  | _, [] => []
  | k, c :: r => (k, .ref c.x) :: kvsFrom (k + 1) r
theorem kvsFrom_length : ∀ (cells : List Cell) (k : Int), (kvsFrom k cells).length = cells.length
  | [], _ => rfl
  | _ :: r, k => congrArg (· + 1) (kvsFrom_length r (k + 1))
theorem kvsFrom_at : ∀ (cells : List Cell) (k : Int) (i : Nat) (c : Cell), cells[i]? = some c → valueAt (kvsFrom k cells) (k + i) = some (.ref c.x)
  | [], _, _, _, h => by simp at h
  | x :: r, k, 0, c, h => by
    have e : x = c := by simpa using h
    subst e
    simp [kvsFrom, valueAt]
  | x :: r, k, i + 1, c, h => by
    have ih := kvsFrom_at r (k + 1) i c (by simpa using h)
    have e : k + ((i + 1 : Nat) : Int) = k + 1 + (i : Int) := by omega
    have ne : ¬ k = k + ((i + 1 : Nat) : Int) := by omega
    rw [← e] at ih
    simp only [kvsFrom, valueAt, List.find?_cons] at ih ⊢
    simp only [ne, decide_false, ih]
theorem kvsFrom_keys : ∀ (cells : List Cell) (k : Int) (q : Int × Value), q ∈ kvsFrom k cells → k ≤ q.1 ∧ q.1 < k + cells.length
  | [], _, _, h => by simp [kvsFrom] at h
  | x :: r, k, q, h => by
    rcases List.mem_cons.mp h with e | h
    · subst e; simp only [List.length_cons]; omega
    · have := kvsFrom_keys r (k + 1) q h
      simp only [List.length_cons]; omega
theorem kvsFrom_append : ∀ (cells : List Cell) (k : Int) (c : Cell), kvsFrom k (cells ++ [c]) = kvsFrom k cells ++ [(k + cells.length, .ref c.x)]
  | [], k, c => by simp [kvsFrom]
  | x :: r, k, c => by
    simp only [List.cons_append, kvsFrom, kvsFrom_append r (k + 1) c, List.length_cons]
    have e : k + 1 + (r.length : Int) = k + ((r.length + 1 : Nat) : Int) := by omega
    rw [e]
theorem stored_new (kvs : List (Int × Value)) (k : Int) (v : Value) (h : ∀ q ∈ kvs, q.1 ≠ k) : stored kvs k v = kvs ++ [(k, v)] := by
  unfold stored
  rw [if_neg]
  intro hc
  obtain ⟨q, hq, e⟩ := List.any_eq_true.mp hc
  exact h q hq (of_decide_eq_true e)
theorem stored_kvs (cells : List Cell) (c : Cell) : stored (kvsFrom 1 cells) ((cells.length : Int) + 1) (.ref c.x) = kvsFrom 1 (cells ++ [c]) := by
  rw [kvsFrom_append, stored_new]
  · have e : (1 : Int) + cells.length = cells.length + 1 := by omega
    rw [e]
  · intro q hq
    have := kvsFrom_keys cells 1 q hq
    omega
theorem ne_cls {h₀ h : Heap} {L : Addr} {led : Led} {a b : Addr} {o o' : Obj} (N : News h₀ L h led) (ha : (a, o) ∈ led) (hb : (b, o') ∈ led) (hc : o.cls ≠ o'.cls) : a ≠ b := by
  intro e
  subst e
  have h1 := (N _ ha).1
  have h2 := (N _ hb).1
  rw [h1] at h2
  exact hc (congrArg Obj.cls (Option.some.inj h2))
def KeepBut (ds : List Addr) (led led' : Led) : Prop := ∀ p ∈ led, p.1 ∉ ds → p ∈ led'
def wo (ds : List Addr) (led : Led) : Led := led.filter fun p => !ds.contains p.1
theorem mem_wo {ds : List Addr} {led : Led} {p : Addr × Obj} : p ∈ wo ds led ↔ p ∈ led ∧ p.1 ∉ ds := by
  unfold wo
  simp
theorem wo_off {d : Addr} {ds : List Addr} {led : Led} (h : d ∈ ds) : ∀ p ∈ wo ds led, p.1 ≠ d := fun p hp e => (mem_wo.mp hp).2 (e ▸ h)
/-- the kept rows as they lie in the ledger; ρ gives each list and dict a number of its own -/
structure HeapSt (prog : Program) (w : World) (led : Led) (ρ : Addr → Nat) (H HD KD : Addr) (cells : List Cell) : Prop where
  h : (H, instObj 376 HD) ∈ led
  hd : ∃ z1 z2 z3 z4 z5 z6 z7, (HD, heapD w.params KD cells.length z1 z2 z3 z4 z5 z6 z7) ∈ led
  kd : ∃ o, (KD, o) ∈ led ∧ o.IsDictOf (intKind prog w) (kvsFrom 1 cells)
  lo : (KD == sysModules) = false
  rh : ρ HD = 0
  rk : ρ KD = 1
  cell : ∀ i c, cells[i]? = some c → (c.x, instObj 241 c.dx) ∈ led ∧ (∃ y1 y2 y3 y4 y5, (c.dx, keptD w.params c.c y1 y2 y3 y4 y5) ∈ led) ∧ (∃ vs n, (c.c, lstO vs n) ∈ led ∧ IntsAre vs c.ns) ∧ ρ c.dx = 6 + 3 * i ∧ ρ c.c = 7 + 3 * i ∧ c.ns.length < 2 ^ 24
section
variable {prog : Program} {w : World} {led led' : Led} {ρ : Addr → Nat} {H HD KD : Addr} {cells : List Cell} {h₀ h : Heap} {L : Addr}
theorem HeapSt.grow (S : HeapSt prog w led ρ H HD KD cells) (k : ∀ p ∈ led, p ∈ led') : HeapSt prog w led' ρ H HD KD cells := by
  obtain ⟨a, ⟨z1, z2, z3, z4, z5, z6, z7, b⟩, ⟨o, c1, c2⟩, d, e, f, g⟩ := S
  refine ⟨k _ a, ⟨z1, z2, z3, z4, z5, z6, z7, k _ b⟩, ⟨o, k _ c1, c2⟩, d, e, f, fun i c hc => ?_⟩
  obtain ⟨g1, ⟨y1, y2, y3, y4, y5, g2⟩, ⟨vs, n, g3, g4⟩, g5⟩ := g i c hc
  exact ⟨k _ g1, ⟨y1, y2, y3, y4, y5, k _ g2⟩, ⟨vs, n, k _ g3, g4⟩, g5⟩
end
def WinOk (cells : List Cell) (W : Win) : Prop := match W.row with
  | none => W.b = 0 ∧ W.l = 0 ∧ W.r = 0
  | some i => 0 ≤ i ∧ 0 ≤ W.b ∧ 0 ≤ W.l ∧ W.l ≤ W.r ∧ W.r < 100000 ∧ ∃ c, cells[i.toNat]? = some c ∧ W.b + W.r ≤ c.ns.length
def seg (cells : List Cell) (W : Win) : List Int := match W.row with
  | none => []
  | some i => match cells[i.toNat]? with
    | some c => (c.ns.drop W.b.toNat).take W.l.toNat
    | none => []
theorem off1_to {d : Addr} {l : Led} (h : LCg.Off1 d l) : ∀ p ∈ l, p.1 ≠ d := by
  induction l with
  | nil => intro p hp; cases hp
  | cons x r ih =>
    unfold LCg.Off1 at h
    intro p hp
    rcases List.mem_cons.mp hp with e | hp
    · rw [e]; exact h.1
    · exact ih h.2 p hp
theorem off1_of {d : Addr} {l : Led} (h : ∀ p ∈ l, p.1 ≠ d) : LCg.Off1 d l := by
  induction l with
  | nil => unfold LCg.Off1; trivial
  | cons x r ih =>
    unfold LCg.Off1
    exact ⟨h _ (.head _), ih fun p hp => h p (.tail _ hp)⟩
theorem map_getD_seg (ns : List Int) (b : Int) (n : Nat) (hb : 0 ≤ b) (h : b + n ≤ ns.length) : (rangeKs 0 n).map (fun k => ns.getD (b + k).toNat 0) = (ns.drop b.toNat).take n := by
  apply List.ext_getElem
  · simp [rangeKs]; omega
  · intro i h1 h2
    have hi : i < n := by simpa [rangeKs] using h1
    simp only [rangeKs, List.getElem_map, List.getElem_range, List.getElem_take, List.getElem_drop]
    have e : (b + (0 + (i : Int))).toNat = b.toNat + i := by omega
    rw [e, List.getD_eq_getElem?_getD, List.getElem?_eq_getElem (by omega)]
    rfl
section
variable {prog : Program} {w : World} {dp un : Nat} {gd : Option (List Code)} {cn : Str} {cs : Scope} {a : Addr} {ccd : Value} {cl : List (Str × Addr)} {outer : List Env} {A₀ : Around} {base h₀ : Heap} {L : Addr} {m : Str → Option Value} {led : Led} {s : Shared} {Q E : Value → Shared → Prop} {p : Program} {loose : List Str} {mean : ExcName → Option Value} {mg mb : Str → Option Value}
theorem loadH_spec {ρ : Addr → Nat} {H HD KD loc pth : Addr} {cells : List Cell} {c : Cell} {i : Int} {j : Int} {zk zj : Tok} (B : Below A₀ base outer h₀) (F : Fr h₀ L s.heap m) (X : (hd.heap_39 w.params).In h₀) (N : News h₀ L s.heap led) (T : Top p loose mean mg mb h₀) (hk : cs.kind = .function)
   (hdp : dp + 6 < recursionLimit) (hu : un + 100 < cLine) (S : HeapSt prog w led ρ H HD KD cells) (hi : 0 ≤ i) (hc : cells[i.toNat]? = some c)
   (hloc : (loc, tupO [.int (i + 1) zk, .ref pth]) ∈ led) (hpth : (pth, tupO [.int j zj]) ∈ led) (h0 : 0 ≤ j) (hj : j < c.ns.length)
   (ret : ∀ h' tk' z, Fr h₀ L h' m → News h₀ L h' led → Q (.int (c.ns.getD j.toNat 0) z) { s with heap := h', toks := tk' }) :
    wpAny (model prog w) (ktrTop dp un gd cn cs L a ccd cl outer) (call (.ref 366) [.ref H, .ref loc]) Q E s := by
  obtain ⟨a1, ⟨z1, z2, z3, z4, z5, z6, z7, a2⟩, ⟨o, a3, a4⟩, a5, _, _, g⟩ := S
  obtain ⟨g1, ⟨y1, y2, y3, y4, y5, g2⟩, ⟨vs, n, g3, g4⟩, g5⟩ := g _ _ hc
  have hv := kvsFrom_at cells 1 _ _ hc
  have e : (1 : Int) + (i.toNat : Int) = i + 1 := by omega
  rw [e] at hv
  exact load_spec B F X N T hk hdp hu a1 a2 a3 a4 a5 hv g1 g2 g3 hloc hpth g4 g5.2.2 h0 hj ret
end
theorem range_lt {k l : Int} (h0 : 0 ≤ l) (h : k < 0 + ((l - 0).toNat : Int)) : k < l := by omega
theorem range_in {b k l n : Int} (h0 : 0 ≤ l) (hb : b + l ≤ n) (h : k < 0 + ((l - 0).toNat : Int)) : b + k < n := by omega
theorem range_no {k : Int} (h0 : 0 ≤ k) (h : k < 0 + ((0 - 0 : Int).toNat : Int)) : False := by
  rw [Int.sub_self, Int.toNat_zero] at h
  omega
theorem line_13 : True := by
  k_with "call ref" => (k_here; (with_reducible show wpAny _ _ (call (Value.ref 135) [_, Value.int _ _]) _ _ _); k_dflt (refine' place_in_spec (by k_asm) (by k_asm) (by k_asm) (by k_asm) (by k_asm) (by first | exact rfl | assumption) (by k_room) (by k_units) (by first | assumption | exact ToldAt.mono (by assumption) (fun _ _ hm => by k_mem)) (by assumption) (by omega) (by first | exact range_lt (by assumption) (by assumption) | omega) ?_; k_whole); intro h'q tk'q t'q q'q z1'q z2'q F'q N'q l1'q l2'q; (try k_lt l1'q); (try k_sweep); (try k_fold))
  trivial
local macro_rules | `(tactic| walk_at "mB") => `(tactic| ((case B => k_asm); (case F => k_asm); (case X => k_asm); (case N => k_asm); (case T => k_asm); (case K => first | exact rfl | assumption); (case d => k_room); (case u => k_units)))
local macro_rules | `(tactic| walk_at "mS") => `(tactic| ((case S => first | assumption | exact HeapSt.grow (by assumption) (fun _ hm => by k_mem))))
local macro_rules | `(tactic| walk_at "call ref") => `(tactic| (k_here; (with_reducible show wpAny _ _ (call (Value.ref 366) [Value.ref _, Value.ref _]) _ _ _); k_dflt (refine' loadH_spec ?B ?F ?X ?N ?T ?K ?d ?u ?S ?i ?c ?l ?p ?o ?j ?_; (walk_at "mB"); (walk_at "mS"); (case l => k_mem); (case p => k_mem); (case c => assumption); (case i => omega); (case o => omega); (case j => first | exact range_in (by assumption) (by assumption) (by assumption) | omega); k_whole); intro h' tk' z' F' N'; (try k_sweep); (try k_fold)))
theorem line_15 : True := by
  k_with "call ref" => (k_here; (with_reducible show wpAny _ _ (call (Value.ref 114) [_]) _ _ _); k_dflt (refine' slice_length_spec (by k_asm) (by k_asm) (by k_asm) (by k_asm) (by k_asm) (by first | exact rfl | assumption) (by k_room) (by k_units) (by first | assumption | exact ToldAt.mono (by assumption) (fun _ _ hm => by k_mem)) ?_; k_whole); intro h'q tk'q z'q F'q N'q; (try k_sweep); (try k_fold))
  trivial

-- PF: slice_values
theorem start_PF : True := by
  w_top off
  trivial
section
variable {prog : Program} {w : World} {dp un : Nat} {gd : Option (List Code)} {cn : Str} {cs : Scope} {a : Addr} {ccd : Value} {cl : List (Str × Addr)} {outer : List Env} {A₀ : Around} {base h₀ : Heap} {L : Addr} {m : Str → Option Value} {led : Led} {s : Shared} {Q E : Value → Shared → Prop} {p : Program} {loose : List Str} {mean : ExcName → Option Value} {mg mb : Str → Option Value}
theorem slice_values_some {ρ : Addr → Nat} {H HD KD : Addr} {cells : List Cell} {c : Cell} {i : Int} {v : Value} {W : Win} (B : Below A₀ base outer h₀) (F : Fr h₀ L s.heap m) (X : (hd.heap_39 w.params).In h₀) (N : News h₀ L s.heap led) (T : Top p loose mean mg mb h₀) (hk : cs.kind = .function)
   (hdp : dp + 8 < recursionLimit) (hu : un + 200 < cLine) (S : HeapSt prog w led ρ H HD KD cells) (hv : ToldAt led v W) (hW : W.row = some i) (hi : 0 ≤ i) (hc : cells[i.toNat]? = some c)
   (hb : 0 ≤ W.b) (hl : 0 ≤ W.l) (hbl : W.b + W.l ≤ c.ns.length) (hbig : W.l < 100000)
   (ret : ∀ h' tk' l vs, Fr h₀ L h' m → News h₀ L h' ((l, lstO vs vs.length) :: led) → IntsAre vs ((c.ns.drop W.b.toNat).take W.l.toNat) → (∀ p ∈ led, p.1 ≠ l) → Q (.ref l) { s with heap := h', toks := tk' }) :
    wpAny (model prog w) (ktrTop dp un gd cn cs L a ccd cl outer) (call (.ref 168) [.ref H, v]) Q E s := by
  have hH := S.h
  obtain ⟨zz1, zz2, zz3, zz4, zz5, zz6, zz7, hHD⟩ := S.hd
  k_steps
  all_goals (repeat (rename _ ∧ _ => hc; obtain ⟨_, _⟩ := hc))
  all_goals (rename IntsAre _ _ => hI8; (rw [map_getD_seg _ _ _ hb (by omega), Int.sub_zero] at hI8))
  all_goals exact ret _ _ _ _ (by k_asm) (cb_drop (by k_asm) (by k_allIn)) (by assumption) (off1_to (by assumption))
theorem slice_values_none {H HD KD : Addr} {ρ : Addr → Nat} {cells : List Cell} (B : Below A₀ base outer h₀) (F : Fr h₀ L s.heap m) (X : (hd.heap_39 w.params).In h₀) (N : News h₀ L s.heap led) (T : Top p loose mean mg mb h₀) (hk : cs.kind = .function)
   (hdp : dp + 8 < recursionLimit) (hu : un + 200 < cLine) (S : HeapSt prog w led ρ H HD KD cells)
   (ret : ∀ h' tk' l vs, Fr h₀ L h' m → News h₀ L h' ((l, lstO vs vs.length) :: led) → IntsAre vs [] → (∀ p ∈ led, p.1 ≠ l) → Q (.ref l) { s with heap := h', toks := tk' }) :
    wpAny (model prog w) (ktrTop dp un gd cn cs L a ccd cl outer) (call (.ref 168) [.ref H, .none]) Q E s := by
  have hv : ToldAt led .none ⟨none, 0, 0, 0⟩ := ⟨rfl, rfl, rfl, rfl⟩
  k_steps
  all_goals (try (exfalso; first | exact range_no (by assumption) (by assumption) | omega))
  all_goals (repeat (rename _ ∧ _ => hc; obtain ⟨_, _⟩ := hc))
  all_goals (rename IntsAre _ _ => hI8)
  all_goals exact ret _ _ _ _ (by k_asm) (cb_drop (by k_asm) (by k_allIn)) hI8 (off1_to (by assumption))
theorem slice_values_spec {ρ : Addr → Nat} {H HD KD : Addr} {cells : List Cell} {v : Value} {W : Win} (B : Below A₀ base outer h₀) (F : Fr h₀ L s.heap m) (X : (hd.heap_39 w.params).In h₀) (N : News h₀ L s.heap led) (T : Top p loose mean mg mb h₀) (hk : cs.kind = .function)
   (hdp : dp + 8 < recursionLimit) (hu : un + 200 < cLine) (S : HeapSt prog w led ρ H HD KD cells) (hv : ToldAt led v W) (hW : WinOk cells W)
   (ret : ∀ h' tk' l vs, Fr h₀ L h' m → News h₀ L h' ((l, lstO vs vs.length) :: led) → IntsAre vs (seg cells W) → (∀ p ∈ led, p.1 ≠ l) → Q (.ref l) { s with heap := h', toks := tk' }) :
    wpAny (model prog w) (ktrTop dp un gd cn cs L a ccd cl outer) (call (.ref 168) [.ref H, v]) Q E s := by
  obtain ⟨row, b, l, r⟩ := W
  cases row with
  | none =>
    obtain ⟨rfl, rfl, rfl, rfl⟩ := hv
    exact slice_values_none B F X N T hk hdp hu S ret
  | some i =>
    obtain ⟨h1, h2, h3, h4, h5, c, h6, h7⟩ := hW
    dsimp only at h1 h2 h3 h4 h5 h6 h7
    refine slice_values_some B F X N T hk hdp hu S hv rfl h1 h6 h2 h3 (by dsimp only; omega) (by dsimp only; omega) fun h' tk' l' vs F' N' hi => ret h' tk' l' vs F' N' ?_
    unfold seg
    dsimp only
    rw [h6]
    exact hi
end

-- PG: grown_room; grow: the room that a wanted length asks of an elder room
theorem start_PG : True := by
  w_top off
  trivial
theorem line_16 : True := by
  k_with "call ref" => (k_here; (with_reducible show wpAny _ _ (call (Value.ref 168) [_, _]) _ _ _); k_dflt (refine' slice_values_spec (by k_asm) (by k_asm) (by k_asm) (by k_asm) (by k_asm) (by first | exact rfl | assumption) (by k_room) (by k_units) (by first | assumption | exact HeapSt.grow (by assumption) (fun _ hm => by k_mem)) (by first | assumption | exact ToldAt.mono (by assumption) (fun _ _ hm => by k_mem)) (by assumption) ?_; k_whole); intro h'q tk'q l'q vs'q F'q N'q hi'q l1'q; (replace l1'q := off1_of l1'q); (try simp only [LCg.Off1] at l1'q); (try k_sweep); (try k_fold))
  trivial
def gstep (a : Int) : Int := if a < 8 then max 1 (2 * a) else a + Int.fdiv a 2
def growN (x : Int) : Nat → Int → Int
  | 0, a => a
  | n + 1, a => if a < x then growN x n (gstep a) else a
/-- the room that a wanted length asks of an elder room -/
def grow (x a : Int) : Int := growN x (x - a).toNat a
theorem gstep_gt {a : Int} (h : 0 ≤ a) : a + 1 ≤ gstep a := by
  unfold gstep
  split
  · omega
  · rw [Int.fdiv_eq_ediv_of_nonneg _ (by decide)]; omega
theorem gstep_le {a : Int} (h : 0 ≤ a) : gstep a ≤ 2 * a + 1 := by
  unfold gstep
  split
  · omega
  · rw [Int.fdiv_eq_ediv_of_nonneg _ (by decide)]; omega
theorem growN_more (x : Int) : ∀ (n k : Nat) (a : Int), 0 ≤ a → (x - a).toNat ≤ n → growN x (n + k) a = growN x n a
  | 0, k, a, h0, h => by
    have hx : ¬ a < x := by omega
    cases k with
    | zero => rfl
    | succ k => rw [Nat.zero_add]; simp only [growN, if_neg hx]
  | n + 1, k, a, h0, h => by
    rw [show n + 1 + k = (n + k) + 1 by omega]
    by_cases hx : a < x
    · simp only [growN, if_pos hx]
      have := gstep_gt h0
      exact growN_more x n k _ (by omega) (by omega)
    · simp only [growN, if_neg hx]
theorem grow_stop {x a : Int} (h : x ≤ a) : grow x a = a := by
  unfold grow
  rw [show (x - a).toNat = 0 by omega]
  rfl
theorem grow_step {x a : Int} (h0 : 0 ≤ a) (h : a < x) : grow x (gstep a) = grow x a := by
  unfold grow
  obtain ⟨n, hn⟩ : ∃ n, (x - a).toNat = n + 1 := ⟨(x - a).toNat - 1, by omega⟩
  rw [hn]
  simp only [growN, if_pos h]
  have hg := gstep_gt h0
  have e : n = (x - gstep a).toNat + (n - (x - gstep a).toNat) := by omega
  rw [e, growN_more x _ _ _ (by omega) (Nat.le_refl _)]
theorem growN_bound (x : Int) : ∀ (n : Nat) (a : Int), 0 ≤ a → (x - a).toNat ≤ n → x ≤ growN x n a ∧ (growN x n a ≤ 2 * x ∨ growN x n a = a)
  | 0, a, h0, h => ⟨by show x ≤ a; omega, .inr rfl⟩
  | n + 1, a, h0, h => by
    by_cases hx : a < x
    · simp only [growN, if_pos hx]
      have h1 := gstep_gt h0
      have h2 := gstep_le h0
      have ih := growN_bound x n (gstep a) (by omega) (by omega)
      exact ⟨ih.1, .inl (by rcases ih.2 with q | q <;> omega)⟩
    · simp only [growN, if_neg hx]
      exact ⟨by omega, by simp⟩
theorem grow_bound {x a : Int} (h0 : 0 ≤ a) : x ≤ grow x a ∧ (grow x a ≤ 2 * x ∨ grow x a = a) := growN_bound x _ a h0 (Nat.le_refl _)
theorem grow_turn1 {x a r : Int} (h0 : 0 ≤ a) (h : a < x) (h8 : a < 8) (e : grow x a = grow x r) : grow x (max 1 (2 * a)) = grow x r := by
  rw [← e, ← grow_step h0 h]
  unfold gstep
  rw [if_pos h8]
theorem grow_turn2 {x a r : Int} (h0 : 0 ≤ a) (h : a < x) (h8 : ¬ a < 8) (e : grow x a = grow x r) : grow x (a + Int.fdiv a 2) = grow x r := by
  rw [← e, ← grow_step h0 h]
  unfold gstep
  rw [if_neg h8]
theorem max_if (a : Int) : (if 2 * a > 1 then 2 * a else 1) = max 1 (2 * a) := by split <;> omega
theorem grow_st1 {x a r : Int} (h0 : 0 ≤ a) (h : a < x) (hx : x < 1000) (h8 : a < 8) (e : grow x a = grow x r) : 0 ≤ (if 2 * a > 1 then 2 * a else 1) ∧ (if 2 * a > 1 then 2 * a else 1) < 2000 ∧ grow x (if 2 * a > 1 then 2 * a else 1) = grow x r := by
  rw [max_if]
  exact ⟨by omega, by omega, grow_turn1 h0 h h8 e⟩
theorem grow_st2 {x a r : Int} (h0 : 0 ≤ a) (h : a < x) (hx : x < 1000) (h8 : ¬ a < 8) (e : grow x a = grow x r) : 0 ≤ a + Int.fdiv a 2 ∧ a + Int.fdiv a 2 < 2000 ∧ grow x (a + Int.fdiv a 2) = grow x r := by
  refine ⟨?_, ?_, grow_turn2 h0 h h8 e⟩ <;> (rw [Int.fdiv_eq_ediv_of_nonneg _ (by decide)]; omega)
theorem grow_ms1 {x a : Int} (h0 : 0 ≤ a) (h : a < x) : (x - (if 2 * a > 1 then 2 * a else 1)).toNat < (x - a).toNat := by rw [max_if]; omega
theorem grow_ms2 {x a : Int} (h0 : 0 ≤ a) (h : a < x) (h8 : ¬ a < 8) : (x - (a + Int.fdiv a 2)).toNat < (x - a).toNat := by
  rw [Int.fdiv_eq_ediv_of_nonneg _ (by decide)]; omega
section
variable {prog : Program} {w : World} {dp un : Nat} {gd : Option (List Code)} {cn : Str} {cs : Scope} {a : Addr} {ccd : Value} {cl : List (Str × Addr)} {outer : List Env} {A₀ : Around} {base h₀ : Heap} {L : Addr} {m : Str → Option Value} {led : Led} {s : Shared} {Q E : Value → Shared → Prop} {p : Program} {loose : List Str} {mean : ExcName → Option Value} {mg mb : Str → Option Value}
theorem grown_room_spec {r x : Int} {zr zx : Tok} (B : Below A₀ base outer h₀) (F : Fr h₀ L s.heap m) (X : (hd.heap_39 w.params).In h₀) (N : News h₀ L s.heap led) (T : Top p loose mean mg mb h₀) (hk : cs.kind = .function)
   (hdp : dp + 1 < recursionLimit) (hu : un + 100 < cLine) (h0 : 0 ≤ r) (h1 : r < 1000) (h2 : x < 1000)
   (ret : ∀ h' tk' z, Fr h₀ L h' m → News h₀ L h' led → Q (.int (grow x r) z) { s with heap := h', toks := tk' }) :
    wpAny (model prog w) (ktrTop dp un gd cn cs L a ccd cl outer) (call (.ref 163) [.int r zr, .int x zx]) Q E s := by
  k_with "state" => first | exact grow_st1 (by assumption) (by assumption) (by assumption) (by assumption) (by assumption) | exact grow_st2 (by assumption) (by assumption) (by assumption) (by assumption) (by assumption)
  k_with "measure" => first | exact grow_ms1 (by assumption) (by assumption) | exact grow_ms2 (by assumption) (by assumption) (by assumption)
  k_with "exec While Compare cons nil" => k_while (fun (_ : List Int) a => 0 ≤ a ∧ a < 2000 ∧ grow x a = grow x r) (fun (_ : List Int) a => (x - a).toNat) "room"
  k_steps
  all_goals (rename ¬ _ < _ => hx9; rename grow _ _ = grow _ _ => hg9; (rw [grow_stop (by omega)] at hg9); rw [hg9])
  all_goals exact ret _ _ _ (by k_asm) (by k_asm)
end

-- PH: _law_room: the same grow
theorem start_PH : True := by
  w_top off
  trivial
theorem grow_sr1 {x a r : Int} (h0 : 0 ≤ a) (h : a < x) (hx : x < 1000) (hz : a = 0) (e : grow x a = grow x r) : 0 ≤ (1 : Int) ∧ (1 : Int) < 2000 ∧ grow x 1 = grow x r := by
  subst hz
  exact ⟨by omega, by omega, grow_turn1 (a := 0) (by omega) h (by omega) e⟩
theorem grow_sr2 {x a r : Int} (h0 : 0 ≤ a) (h : a < x) (hx : x < 1000) (hz : a ≠ 0) (h8 : a < 8) (e : grow x a = grow x r) : 0 ≤ 2 * a ∧ 2 * a < 2000 ∧ grow x (2 * a) = grow x r := by
  have q := grow_turn1 h0 h h8 e
  rw [show max 1 (2 * a) = 2 * a by omega] at q
  exact ⟨by omega, by omega, q⟩
theorem grow_mr1 {x a : Int} (h0 : 0 ≤ a) (h : a < x) (hz : a = 0) : (x - 1).toNat < (x - a).toNat := by omega
theorem grow_mr2 {x a : Int} (h0 : 0 ≤ a) (h : a < x) (hz : a ≠ 0) : (x - 2 * a).toNat < (x - a).toNat := by omega
section
variable {prog : Program} {w : World} {dp un : Nat} {gd : Option (List Code)} {cn : Str} {cs : Scope} {a : Addr} {ccd : Value} {cl : List (Str × Addr)} {outer : List Env} {A₀ : Around} {base h₀ : Heap} {L : Addr} {m : Str → Option Value} {led : Led} {s : Shared} {Q E : Value → Shared → Prop} {p : Program} {loose : List Str} {mean : ExcName → Option Value} {mg mb : Str → Option Value}
theorem law_room_spec {r x : Int} {zr zx : Tok} (B : Below A₀ base outer h₀) (F : Fr h₀ L s.heap m) (X : (hd.heap_39 w.params).In h₀) (N : News h₀ L s.heap led) (T : Top p loose mean mg mb h₀) (hk : cs.kind = .function)
   (hdp : dp + 1 < recursionLimit) (hu : un + 100 < cLine) (h0 : 0 ≤ r) (h1 : r < 1000) (h2 : x < 1000)
   (ret : ∀ h' tk' z, Fr h₀ L h' m → News h₀ L h' led → Q (.int (grow x r) z) { s with heap := h', toks := tk' }) :
    wpAny (model prog w) (ktrTop dp un gd cn cs L a ccd cl outer) (call (.ref 408) [.int r zr, .int x zx]) Q E s := by
  k_with "state" => first | exact grow_sr1 (by assumption) (by assumption) (by assumption) (by assumption) (by assumption) | exact grow_sr2 (by assumption) (by assumption) (by assumption) (by assumption) (by assumption) (by assumption) | exact grow_st2 (by assumption) (by assumption) (by assumption) (by assumption) (by assumption)
  k_with "measure" => first | exact grow_mr1 (by assumption) (by assumption) (by assumption) | exact grow_mr2 (by assumption) (by assumption) (by assumption) | exact grow_ms2 (by assumption) (by assumption) (by assumption)
  k_with "exec While Compare cons nil" => k_while (fun (_ : List Int) a => 0 ≤ a ∧ a < 2000 ∧ grow x a = grow x r) (fun (_ : List Int) a => (x - a).toNat) "room"
  k_steps
  all_goals (rename ¬ _ < _ => hx9; rename grow _ _ = grow _ _ => hg9; (rw [grow_stop (by omega)] at hg9); rw [hg9])
  all_goals exact ret _ _ _ (by k_asm) (by k_asm)
end

-- PI: store upon HeapSt; for over enumerate
theorem start_PI : True := by
  w_top off
  trivial
section
variable {prog : Program} {w : World} {A : Around} {E : Value → Shared → Prop} {s : Shared} {env : Env} {h₀ : Heap} {body : List Stmt} {Q : Flow → Shared → Prop} {m₀ : Str → Option Value} {led : Led}
/-- what a turn of a loop over enumerate(..) leaves -/
def EnumEnd (h₀ : Heap) (L : Addr) (its : Led) (need : Addr × Obj) (Jn : (Str → Option Value) → Led → Prop) (s₁ s₂ : Shared) : Prop :=
  ∃ h' tk m' news', s₂ = { s₁ with heap := h', toks := tk } ∧ Fr h₀ L h' m' ∧ News h₀ L h' (its ++ news') ∧ (∀ p ∈ news', ∀ q ∈ its, p.1 ≠ q.1) ∧ need ∈ news' ∧ Jn m' news'
def EnumPost (h₀ : Heap) (L : Addr) (its : Led) (need : Addr × Obj) (Jn : (Str → Option Value) → Led → Prop) (s₁ : Shared) (f : Flow) (s₂ : Shared) : Prop :=
  match f with
  | .next => EnumEnd h₀ L its need Jn s₁ s₂
  | .cont => EnumEnd h₀ L its need Jn s₁ s₂
  | _ => False
theorem for_enum {elts : List PySem.Expr} {k : Nat} {pos : Pos} {l : Addr} {vs : List Value} {n : Nat} (J : Nat → (Str → Option Value) → Led → Prop)
    (hh : A.handled = none) (F : Fr h₀ env.locals s.heap m₀) (N : News h₀ env.locals s.heap led) (hm : (l, lstO vs n) ∈ led) (h0 : J 0 m₀ led)
    (step : ∀ i x t T m₁ news₁ h₁ tk₁ E1 o1 I1 o2, vs[i]? = some x → J i m₁ news₁ → IsTup h₁ T #[.int ((i : Nat) : Int) t, x] → (l, lstO vs n) ∈ news₁ → o1.cls = .type "enumerate" → o2.cls = .type "list_iterator" →
      Fr h₀ env.locals h₁ m₁ → News h₀ env.locals h₁ ((E1, o1) :: (I1, o2) :: news₁) → (∀ p ∈ news₁, p.1 ≠ E1 ∧ p.1 ≠ I1) →
      wpAny (model prog w) A (assign (.Tuple elts k pos) env (.ref T)) (fun _ s₂ => wpAny (model prog w) A (execs body env) (EnumPost h₀ env.locals [(E1, o1), (I1, o2)] (l, lstO vs n) (J (i + 1)) { s with heap := h₁, toks := tk₁ }) E s₂) E { s with heap := h₁, toks := tk₁ })
    (done : ∀ h' tk m' news', Fr h₀ env.locals h' m' → News h₀ env.locals h' news' → J vs.length m' news' → Q .next { s with heap := h', toks := tk }) :
    wpAny (model prog w) A (call (.type "enumerate") [.ref l]) (fun xv s₁ => wpAny (model prog w) A (pyIter xv) (fun it s₂ => TurnsAt prog w A h₀ env (.Tuple elts k pos) body Q E it s₂) E s₁) E s := by
  have hax := N _ hm
  have hl : s.heap.IsList l vs.toArray := ⟨_, hax.1, rfl, n, rfl⟩
  have hlt : l < s.heap.objs.size := Heap.lt_size hax.1
  have hLs : env.locals < s.heap.objs.size := F.ns.lt
  refine call_enumerate_list hl fun h' hE hI hsz hk => ?_
  refine wpAny_pyIter_enum hE ?_
  have W := KTurns.ofWalksU (elts := elts) (k := k) (pos := pos) (WalksT.enumerate (prog := prog) (w := w) hh (s.heap.objs.size + 1) s.heap.objs.size l (Nat.succ_ne_self _) (ktu_ne 1 hlt) (Nat.ne_of_lt hlt) vs.toArray).toU
  let J' : Nat → (Str → Option Value) → Led → Prop := fun i m news => (l, lstO vs n) ∈ news ∧ J i m news
  refine ⟨_, _, _, _, _, _, _, m₀, led, J', rfl, W, ?_, ?_, ?_, ?_, F.keeps hk, N.grown hk, ⟨hm, h0⟩, ?_, ?_⟩
  · intro hI'
    have hb' : env.locals = s.heap.objs.size + 1 ∨ env.locals = s.heap.objs.size ∨ env.locals = l := by simpa using hI'
    rcases hb' with e | e | e
    · exact ktu_ne 1 hLs e
    · exact Nat.ne_of_lt hLs e
    · exact hax.2.1 e.symm
  · intro b hb
    have hb' : b = s.heap.objs.size + 1 ∨ b = s.heap.objs.size := by simpa using hb
    rcases hb' with rfl | rfl
    · exact ktu_new F (Nat.le_add_right _ _)
    · exact ktu_new F (Nat.le_refl _)
  · intro p hp hI'
    have hb' : p.1 = s.heap.objs.size + 1 ∨ p.1 = s.heap.objs.size := by simpa using hI'
    have hlp := Heap.lt_size (N p hp).1
    rcases hb' with e | e
    · exact ktu_ne 1 hlp e
    · exact Nat.ne_of_lt hlp e
  · exact ⟨⟨.none, hE⟩, hI, hl.at fun o e => hk l o e⟩
  · intro i v m₁ news₁ h₁ tk₁ own hin hP hJ hoff hown hget hall hst F₁ N₁
    obtain ⟨hml, hJ⟩ := hJ
    obtain ⟨T, vals, rfl, ⟨t, x, hx, rfl⟩, hT⟩ := hP
    obtain ⟨⟨old, he⟩, ⟨oi, hoi, hic, _⟩, _⟩ := hst
    obtain ⟨oe, h1, h2⟩ : ∃ oe : Obj, h₁.get? (s.heap.objs.size + 1) = some oe ∧ oe.cls = .type "enumerate" := ⟨_, he, rfl⟩
    have hn1 := ktu_new F (Nat.le_add_right s.heap.objs.size 1)
    have hn2 := ktu_new F (Nat.le_refl s.heap.objs.size)
    have m1 := hall (s.heap.objs.size + 1) (by simp) hn1 oe h1
    have m2 := hall s.heap.objs.size (by simp) hn2 oi hoi
    have N₂ : News h₀ env.locals h₁ ((s.heap.objs.size + 1, oe) :: (s.heap.objs.size, oi) :: news₁) := fun p hp => by
      rcases List.mem_cons.mp hp with rfl | hp
      · exact N₁ _ (List.mem_append_left _ m1)
      · rcases List.mem_cons.mp hp with rfl | hp
        · exact N₁ _ (List.mem_append_left _ m2)
        · exact N₁ _ (List.mem_append_right _ hp)
    have hoff' : ∀ p ∈ news₁, p.1 ≠ s.heap.objs.size + 1 ∧ p.1 ≠ s.heap.objs.size := fun p hp => by
      have q := hoff p hp
      simp only [List.mem_cons, List.not_mem_nil, or_false, not_or] at q
      exact q
    refine wpAny_mono (step i x t T m₁ news₁ h₁ tk₁ _ oe _ oi (by simpa using hx) hJ hT hml h2 hic F₁ N₂ hoff') (fun _ s₂ h₂ => wpAny_mono h₂ (fun f s₃ q => ?_) fun _ _ e => e) fun _ _ e => e
    have fin : EnumEnd h₀ env.locals [(s.heap.objs.size + 1, oe), (s.heap.objs.size, oi)] (l, lstO vs n) (J (i + 1)) { s with heap := h₁, toks := tk₁ } s₃ →
        LoopStepU h₀ env.locals [s.heap.objs.size + 1, s.heap.objs.size] own (J' (i + 1)) { s with heap := h₁, toks := tk₁ } .next s₃ := by
      rintro ⟨h'', tk, m', news', e, F', N', ho, hneed, r⟩
      refine ⟨rfl, h'', tk, m', news', e, F', ?_, ?_, hneed, r⟩
      · rintro ⟨pa, po⟩ hp
        rcases List.mem_append.mp hp with hp | hp
        · have h2' : h₁.get? pa = some po := hget _ hp
          have h3 : pa = s.heap.objs.size + 1 ∨ pa = s.heap.objs.size ∨ pa = l := by simpa using hown _ hp
          rcases h3 with e3 | e3 | e3
          · subst e3
            have h6 : oe = po := Option.some.inj (h1.symm.trans h2')
            subst h6
            exact N' _ (by simp)
          · subst e3
            have h6 : oi = po := Option.some.inj (hoi.symm.trans h2')
            subst h6
            exact N' _ (by simp)
          · subst e3
            have h4 : h₁.get? pa = some (lstO vs n) := (N₂ _ (List.mem_cons_of_mem _ (List.mem_cons_of_mem _ hml))).1
            have h6 : lstO vs n = po := Option.some.inj (h4.symm.trans h2')
            subst h6
            exact N' _ (List.mem_append_right _ hneed)
        · exact N' _ (List.mem_append_right _ hp)
      · intro p hp hI
        have h3 : p.1 = s.heap.objs.size + 1 ∨ p.1 = s.heap.objs.size := by simpa using hI
        rcases h3 with e3 | e3
        · exact ho p hp (s.heap.objs.size + 1, oe) (by simp) e3
        · exact ho p hp (s.heap.objs.size, oi) (by simp) e3
    cases f with
    | ret v => exact q.elim
    | brk => exact q.elim
    | next => exact .next (fin q)
    | cont => exact .cont (fin q)
  · intro h'' tk m' news' F' N' _ hJ
    have e : vs.toArray.size = vs.length := by simp
    exact done h'' tk m' news' F' N' (e ▸ hJ.2)
end
section
variable {prog : Program} {w : World} {A : Around} {E : Value → Shared → Prop} {s : Shared} {env : Env} {h₀ : Heap} {body : List Stmt} {Q : Flow → Shared → Prop} {m₀ : Str → Option Value} {led : Led}
/-- the frame's names, two of them turned -/
def map2 (x y : Str) (u1 u2 : Option Value) (m : Str → Option Value) : Str → Option Value := fun z => if z = y then u2 else if z = x then u1 else m z
theorem map2_self (x y : Str) (m : Str → Option Value) : map2 x y (m x) (m y) m = m := by
  funext z
  unfold map2
  by_cases h : z = y
  · rw [if_pos h, h]
  · rw [if_neg h]
    by_cases h' : z = x
    · rw [if_pos h', h']
    · rw [if_neg h']
theorem for_enum2 {elts : List PySem.Expr} {k : Nat} {pos : Pos} {l : Addr} {vs : List Value} {n : Nat} (x y : Str) (J : Nat → Led → Prop)
    (hh : A.handled = none) (F : Fr h₀ env.locals s.heap m₀) (N : News h₀ env.locals s.heap led) (hm : (l, lstO vs n) ∈ led) (h0 : J 0 led)
    (step : ∀ i xv t T u1 u2 news₁ h₁ tk₁ E1 o1 I1 o2, vs[i]? = some xv → J i news₁ → IsTup h₁ T #[.int ((i : Nat) : Int) t, xv] → (l, lstO vs n) ∈ news₁ → o1.cls = .type "enumerate" → o2.cls = .type "list_iterator" →
      Fr h₀ env.locals h₁ (map2 x y u1 u2 m₀) → News h₀ env.locals h₁ ((E1, o1) :: (I1, o2) :: news₁) → (∀ p ∈ news₁, p.1 ≠ E1 ∧ p.1 ≠ I1) →
      wpAny (model prog w) A (assign (.Tuple elts k pos) env (.ref T)) (fun _ s₂ => wpAny (model prog w) A (execs body env) (EnumPost h₀ env.locals [(E1, o1), (I1, o2)] (l, lstO vs n) (fun m' n' => (∃ u1 u2, m' = map2 x y u1 u2 m₀) ∧ J (i + 1) n') { s with heap := h₁, toks := tk₁ }) E s₂) E { s with heap := h₁, toks := tk₁ })
    (done : ∀ h' tk u1 u2 news', Fr h₀ env.locals h' (map2 x y u1 u2 m₀) → News h₀ env.locals h' news' → J vs.length news' → Q .next { s with heap := h', toks := tk }) :
    wpAny (model prog w) A (call (.type "enumerate") [.ref l]) (fun xv s₁ => wpAny (model prog w) A (pyIter xv) (fun it s₂ => TurnsAt prog w A h₀ env (.Tuple elts k pos) body Q E it s₂) E s₁) E s := by
  refine for_enum (fun i m news => (∃ u1 u2, m = map2 x y u1 u2 m₀) ∧ J i news) hh F N hm ⟨⟨_, _, (map2_self x y m₀).symm⟩, h0⟩ ?_ ?_
  · rintro i xv t T m₁ news₁ h₁ tk₁ E1 o1 I1 o2 hx ⟨⟨u1, u2, rfl⟩, hJ⟩ hT hl h1 h2 F₁ N₁ ho
    exact step i xv t T u1 u2 news₁ h₁ tk₁ E1 o1 I1 o2 hx hJ hT hl h1 h2 F₁ N₁ ho
  · rintro h' tk m' news' F' N' ⟨⟨u1, u2, rfl⟩, hJ⟩
    exact done h' tk u1 u2 news' F' N' hJ
end
theorem kvsFrom_set : ∀ (cells : List Cell) (k : Int) (i : Nat) (c c' : Cell), cells[i]? = some c → c'.x = c.x → kvsFrom k (cells.set i c') = kvsFrom k cells
  | [], _, _, _, _, h, _ => by simp at h
  | x :: r, k, 0, c, c', h, e => by
    have e' : x = c := by simpa using h
    subst e'
    simp [kvsFrom, e]
  | x :: r, k, i + 1, c, c', h, e => by
    simp only [List.set_cons_succ, kvsFrom]
    rw [kvsFrom_set r (k + 1) i c c' (by simpa using h) e]
section
variable {prog : Program} {w : World} {led led' : Led} {ρ : Addr → Nat} {H HD KD : Addr} {cells : List Cell} {h₀ h : Heap} {L : Addr}
/-- a list's object of the ledger is written anew: the kept row i has other ints -/
theorem HeapSt.upd {i : Nat} {c : Cell} {vs vs' : List Value} {ns' : List Int} {n n' : Nat} (S : HeapSt prog w led ρ H HD KD cells) (N : News h₀ L h led) (hc : cells[i]? = some c) (hm : (c.c, lstO vs n) ∈ led)
    (k : KeepBut [c.c] led led') (hm' : (c.c, lstO vs' n') ∈ led') (hi : IntsAre vs' ns') (hf : ns'.length < 2 ^ 24) : HeapSt prog w led' ρ H HD KD (cells.set i { c with ns := ns' }) := by
  obtain ⟨a, ⟨z1, z2, z3, z4, z5, z6, z7, b⟩, ⟨o, c1, c2⟩, d, e, f, g⟩ := S
  have off : ∀ {q : Addr} {oq : Obj}, (q, oq) ∈ led → oq.cls ≠ .type "list" → (q, oq) ∈ led' := fun hq hcl =>
    k _ hq (by rw [List.mem_singleton]; exact ne_cls N hq hm hcl)
  refine ⟨off a (by simp), ⟨z1, z2, z3, z4, z5, z6, z7, by rw [List.length_set]; exact off b (by simp)⟩, ⟨o, off c1 ?_, ?_⟩, d, e, f, fun j q hq => ?_⟩
  · obtain ⟨es, ep, hx, _⟩ := c2
    rw [hx.1]; simp
  · rw [kvsFrom_set cells 1 i c { c with ns := ns' } hc rfl]; exact c2
  · by_cases hj : j = i
    · subst hj
      have hlt : j < cells.length := (List.getElem?_eq_some_iff.mp hc).1
      rw [List.getElem?_set_self hlt] at hq
      cases hq
      obtain ⟨g1, ⟨y1, y2, y3, y4, y5, g2⟩, g3, g5, g6, g7⟩ := g j c hc
      exact ⟨off g1 (by simp), ⟨y1, y2, y3, y4, y5, off g2 (by simp)⟩, ⟨vs', n', hm', hi⟩, g5, g6, hf⟩
    · rw [List.getElem?_set_ne (Ne.symm hj)] at hq
      obtain ⟨g1, ⟨y1, y2, y3, y4, y5, g2⟩, ⟨us, u, g3, g4⟩, g5, g6, g7⟩ := g j q hq
      obtain ⟨_, _, _, _, h6, _⟩ := g i c hc
      refine ⟨off g1 (by simp), ⟨y1, y2, y3, y4, y5, off g2 (by simp)⟩, ⟨us, u, k _ g3 ?_, g4⟩, g5, g6, g7⟩
      rw [List.mem_singleton]
      intro e'
      have e' : q.c = c.c := e'
      rw [e', h6] at g6
      omega
theorem HeapSt.growP (S : HeapSt prog w led ρ H HD KD cells) (k : ∀ p ∈ led, (p.2.cls = .type "list" ∨ p.2.cls = .type "dict" ∨ ∃ a, p.2.cls = .ref a) → p ∈ led') : HeapSt prog w led' ρ H HD KD cells := by
  obtain ⟨a, ⟨z1, z2, z3, z4, z5, z6, z7, b⟩, ⟨o, c1, c2⟩, d, e, f, g⟩ := S
  have c3 : o.cls = .type "dict" := by obtain ⟨es, ep, hx, _⟩ := c2; exact hx.1
  refine ⟨k _ a (.inr (.inr ⟨_, rfl⟩)), ⟨z1, z2, z3, z4, z5, z6, z7, k _ b (.inr (.inl rfl))⟩, ⟨o, k _ c1 (.inr (.inl c3)), c2⟩, d, e, f, fun i c hc => ?_⟩
  obtain ⟨g1, ⟨y1, y2, y3, y4, y5, g2⟩, ⟨vs, n, g3, g4⟩, g5⟩ := g i c hc
  exact ⟨k _ g1 (.inr (.inr ⟨_, rfl⟩)), ⟨y1, y2, y3, y4, y5, k _ g2 (.inr (.inl rfl))⟩, ⟨vs, n, k _ g3 (.inl rfl), g4⟩, g5⟩
theorem wo_keep {d : Addr} {o : Obj} : KeepBut [d] led ((d, o) :: wo [d] led) := fun p hp hd => List.mem_cons_of_mem _ (mem_wo.mpr ⟨hp, hd⟩)
end
theorem enum_end {h₀ h' : Heap} {L E1 I1 : Addr} {o1 o2 : Obj} {need : Addr × Obj} {Jn : (Str → Option Value) → Led → Prop} {s₁ : Shared} {tk : Nat} {m' : Str → Option Value} {led2 : Led} (F2 : Fr h₀ L h' m') (N2 : News h₀ L h' led2) (hE : (E1, o1) ∈ led2) (hI : (I1, o2) ∈ led2) (hn : need ∈ led2)
    (hne : need.1 ≠ E1 ∧ need.1 ≠ I1) (j : Jn m' (wo [E1, I1] led2)) : EnumEnd h₀ L [(E1, o1), (I1, o2)] need Jn s₁ { s₁ with heap := h', toks := tk } := by
  refine ⟨h', tk, m', wo [E1, I1] led2, rfl, F2, ?_, ?_, ?_, j⟩
  · intro p hp
    rcases List.mem_append.mp hp with hp | hp
    · rcases List.mem_cons.mp hp with rfl | hp
      · exact N2 _ hE
      · rw [List.mem_singleton.mp hp]; exact N2 _ hI
    · exact N2 _ (mem_wo.mp hp).1
  · intro p hp q hq
    have h9 := (mem_wo.mp hp).2
    rcases List.mem_cons.mp hq with rfl | hq
    · exact fun e => h9 (by rw [e]; simp)
    · rw [List.mem_singleton.mp hq]; exact fun e => h9 (by rw [e]; simp)
  · exact mem_wo.mpr ⟨hn, by simpa using hne⟩
section
variable {prog : Program} {w : World} {dp un : Nat} {gd : Option (List Code)} {cn : Str} {cs : Scope} {a : Addr} {ccd : Value} {cl : List (Str × Addr)} {outer : List Env} {A₀ : Around} {base h₀ : Heap} {L : Addr} {m : Str → Option Value} {led : Led} {s : Shared} {Q E : Value → Shared → Prop} {p : Program} {loose : List Str} {mean : ExcName → Option Value} {mg mb : Str → Option Value}
theorem storeH_spec {ρ : Addr → Nat} {H HD KD loc pth : Addr} {cells : List Cell} {c : Cell} {i : Int} {j u : Int} {zk zj zu : Tok} (B : Below A₀ base outer h₀) (F : Fr h₀ L s.heap m) (X : (hd.heap_39 w.params).In h₀) (N : News h₀ L s.heap led) (T : Top p loose mean mg mb h₀) (hk : cs.kind = .function)
   (hdp : dp + 6 < recursionLimit) (hu : un + 100 < cLine) (S : HeapSt prog w led ρ H HD KD cells) (hi : 0 ≤ i) (hc : cells[i.toNat]? = some c)
   (hloc : (loc, tupO [.int (i + 1) zk, .ref pth]) ∈ led) (hpth : (pth, tupO [.int j zj]) ∈ led) (h0 : 0 ≤ j) (hj : j < c.ns.length)
   (ret : ∀ h' tk' led', Fr h₀ L h' m → News h₀ L h' led' → KeepBut [c.c] led led' → HeapSt prog w led' ρ H HD KD (cells.set i.toNat { c with ns := c.ns.set j.toNat u }) → Q .none { s with heap := h', toks := tk' }) :
    wpAny (model prog w) (ktrTop dp un gd cn cs L a ccd cl outer) (call (.ref 373) [.ref H, .ref loc, .int u zu]) Q E s := by
  have S' := S
  obtain ⟨a1, ⟨z1, z2, z3, z4, z5, z6, z7, a2⟩, ⟨o, a3, a4⟩, a5, _, _, g⟩ := S
  obtain ⟨g1, ⟨y1, y2, y3, y4, y5, g2⟩, ⟨vs, n, g3, g4⟩, g5⟩ := g _ _ hc
  have hv := kvsFrom_at cells 1 _ _ hc
  have e : (1 : Int) + (i.toNat : Int) = i + 1 := by omega
  rw [e] at hv
  have N' : News h₀ L s.heap ((c.c, lstO vs n) :: wo [c.c] led) := cb_drop N fun p hp => by
    rcases List.mem_cons.mp hp with rfl | hp
    · exact g3
    · exact (mem_wo.mp hp).1
  have off : ∀ {q : Addr} {oq : Obj}, (q, oq) ∈ led → oq.cls ≠ .type "list" → (q, oq) ∈ wo [c.c] led := fun hq hcl =>
    mem_wo.mpr ⟨hq, by rw [List.mem_singleton]; exact ne_cls N hq g3 hcl⟩
  have hKc : o.cls ≠ .type "list" := by
    obtain ⟨es, ep, hx, _⟩ := a4
    rw [hx.1]; simp
  refine store_spec B F X N' T hk hdp hu (wo_off (List.mem_singleton.mpr rfl)) (off a1 (by simp)) (off a2 (by simp)) (off a3 hKc) a4 a5 hv (off g1 (by simp)) (off g2 (by simp)) (off hloc (by simp)) (off hpth (by simp)) g4 g5.2.2 h0 hj
    fun h' tk' vs' F' N'' hi' => ret h' tk' _ F' N'' wo_keep ?_
  exact S'.upd N hc g3 wo_keep (List.mem_cons_self ..) hi' (by rw [List.length_set]; exact g5.2.2)
end

-- PJ: put_values; ovr: a list written over from a place on
theorem start_PJ : True := by
  w_top off
  trivial
theorem line_17 : True := by
  k_with "exec For Tuple Call cons nil" => (k_here; (rename Fr _ _ _ _ => lF'q); (with_unfolding_all refine' For_turns lF'q ?_); k_whole)
  trivial
local macro_rules | `(tactic| walk_at "call ref") => `(tactic| (k_here; (with_reducible show wpAny _ _ (call (Value.ref 373) [Value.ref _, Value.ref _, Value.int _ _]) _ _ _); k_dflt (refine' storeH_spec ?B ?F ?X ?N ?T ?K ?d ?u ?S ?i ?c ?l ?p ?o ?j ?_; (walk_at "mB"); (walk_at "mS"); (case l => k_mem); (case p => k_mem); (case c => assumption); (case i => omega); (case o => omega); (case j => first | omega | (dsimp only; omega)); k_whole); intro h' tk' led' F' N' hK' hS'; (try dsimp only at hK' hS'); (try k_sweep); (try k_fold)))
def ovr (ns : List Int) (b : Nat) : List Int → List Int
  | [] => ns
  | x :: r => ovr (ns.set b x) (b + 1) r
theorem ovr_length : ∀ (ms ns : List Int) (b : Nat), (ovr ns b ms).length = ns.length
  | [], _, _ => rfl
  | x :: r, ns, b => by
    show (ovr (ns.set b x) (b + 1) r).length = ns.length
    rw [ovr_length r, List.length_set]
theorem ovr_snoc (y : Int) : ∀ (xs ns : List Int) (b : Nat), ovr ns b (xs ++ [y]) = (ovr ns b xs).set (b + xs.length) y
  | [], _, _ => rfl
  | x :: r, ns, b => by
    show ovr (ns.set b x) (b + 1) (r ++ [y]) = (ovr (ns.set b x) (b + 1) r).set (b + (r.length + 1)) y
    rw [ovr_snoc y r]
    congr 1
    omega
theorem ovr_take {ms ns : List Int} {b i : Nat} {y : Int} (h : ms[i]? = some y) : ovr ns b (ms.take (i + 1)) = (ovr ns b (ms.take i)).set (b + i) y := by
  rw [List.take_add_one, h]
  have hi : i < ms.length := (List.getElem?_eq_some_iff.mp h).1
  show ovr ns b (ms.take i ++ [y]) = _
  rw [ovr_snoc, List.length_take, Nat.min_eq_left (by omega)]
section
variable {prog : Program} {w : World} {dp un : Nat} {gd : Option (List Code)} {cn : Str} {cs : Scope} {a : Addr} {ccd : Value} {cl : List (Str × Addr)} {outer : List Env} {A₀ : Around} {base h₀ : Heap} {L : Addr} {m : Str → Option Value} {led : Led} {s : Shared} {Q E : Value → Shared → Prop} {p : Program} {loose : List Str} {mean : ExcName → Option Value} {mg mb : Str → Option Value}
theorem put_values_spec {ρ : Addr → Nat} {H HD KD ml : Addr} {cells : List Cell} {c : Cell} {i b : Int} {mvs : List Value} {ms : List Int} {k : Nat} {zi zb : Tok} (B : Below A₀ base outer h₀) (F : Fr h₀ L s.heap m) (X : (hd.heap_39 w.params).In h₀) (N : News h₀ L s.heap led) (T : Top p loose mean mg mb h₀) (hk : cs.kind = .function)
   (hdp : dp + 8 < recursionLimit) (hu : un + 200 < cLine) (S : HeapSt prog w led ρ H HD KD cells) (hi : 0 ≤ i) (hc : cells[i.toNat]? = some c)
   (hb : 0 ≤ b) (hbl : b + ms.length ≤ c.ns.length) (hm : (ml, lstO mvs k) ∈ led) (hml : ml ≠ c.c) (hms : IntsAre mvs ms)
   (ret : ∀ h' tk' led', Fr h₀ L h' m → News h₀ L h' led' → KeepBut [c.c] led led' → HeapSt prog w led' ρ H HD KD (cells.set i.toNat { c with ns := ovr c.ns b.toNat ms }) → Q .none { s with heap := h', toks := tk' }) :
    wpAny (model prog w) (ktrTop dp un gd cn cs L a ccd cl outer) (call (.ref 175) [.ref H, .int (i + 1) zi, .int b zb, .ref ml]) Q E s := by
  k_steps
  (rename Fr _ _ _ _ => F9; rename News _ _ _ _ => N9)
  k_dflt (refine' for_enum2 (Str.ofString "step") (Str.ofString "value") (fun i0 news => HeapSt prog w news ρ H HD KD (cells.set i.toNat { c with ns := ovr c.ns b.toNat (ms.take i0) }) ∧ KeepBut [c.c] led news) ?hh ?F ?N ?hm ?h0 ?st ?dn)
  case hh => exact rfl
  case F => exact F9
  case N => exact N9
  case hm => k_mem
  case h0 =>
    refine ⟨?_, fun p hp _ => hp⟩
    have e : cells.set i.toNat { c with ns := ovr c.ns b.toNat (ms.take 0) } = cells := by
      apply List.ext_getElem?
      intro j
      by_cases hj : j = i.toNat
      · subst hj
        rw [List.getElem?_set_self (List.getElem?_eq_some_iff.mp hc).1, hc]
        rfl
      · rw [List.getElem?_set_ne (Ne.symm hj)]
    rw [e]
    exact S
  case st =>
    intro i0 xv t T u1 u2 news1 h1 tk1 E1 o1 I1 o2 hx hJ hT hl hc1 hc2 F1 N1 hoff
    obtain ⟨S1, K1⟩ := hJ
    have hlt : i0 < ms.length := by
      have q := (List.getElem?_eq_some_iff.mp hx).1
      rw [hms.length] at q
      exact q
    obtain ⟨z9, hx9⟩ := hms.get i0 ms[i0] (by simp [hlt])
    rw [hx] at hx9
    have hx9 := Option.some.inj hx9
    subst hx9
    have hc9 : (cells.set i.toNat { c with ns := ovr c.ns b.toNat (ms.take i0) })[i.toNat]? = some { c with ns := ovr c.ns b.toNat (ms.take i0) } := List.getElem?_set_self (List.getElem?_eq_some_iff.mp hc).1
    have hlen9 : (ovr c.ns b.toNat (ms.take i0)).length = c.ns.length := ovr_length _ _ _
    have hH9 := S1.h
    obtain ⟨zz1, zz2, zz3, zz4, zz5, zz6, zz7, hHD9⟩ := S1.hd
    clear F9 N9
    unfold map2 at F1
    k_steps
    (rename Fr _ _ _ _ => F2; rename News _ _ _ _ => N2; rename KeepBut _ _ _ => K2; rename HeapSt _ _ _ _ _ _ _ _ => S2)
    obtain ⟨_, _, ⟨us9, n9, hcc9, _⟩, _⟩ := S1.cell _ _ hc9
    have hE1 := K2 (E1, o1) (by k_mem) (by rw [List.mem_singleton]; exact Ne.symm (hoff _ hcc9).1)
    have hI1 := K2 (I1, o2) (by k_mem) (by rw [List.mem_singleton]; exact Ne.symm (hoff _ hcc9).2)
    rw [List.set_set, show (b + (i0 : Int)).toNat = b.toNat + i0 by omega, ← ovr_take (y := ms[i0]) (by simp [hlt])] at S2
    refine enum_end F2 N2 hE1 hI1 (K2 _ (by k_mem) (by rw [List.mem_singleton]; exact hml)) (hoff _ hl) ⟨⟨some (.int (i0 : Int) t), some (.int ms[i0] z9), ?_⟩, ?_, ?_⟩
    · funext z
      unfold map2
      by_cases h1 : z = Str.ofString "value"
      · simp only [if_pos h1]
      · simp only [if_neg h1]
        by_cases h2 : z = Str.ofString "step"
        · simp only [if_pos h2]
        · simp only [if_neg h2]
    · refine S2.growP fun p hp hcl => mem_wo.mpr ⟨hp, ?_⟩
      simp only [List.mem_cons, List.not_mem_nil, or_false, not_or]
      refine ⟨fun e => ?_, fun e => ?_⟩
      · refine ne_cls N2 (a := p.1) (o := p.2) hp hE1 ?_ e
        rw [hc1]
        rcases hcl with q | q | ⟨_, q⟩ <;> rw [q] <;> simp
      · refine ne_cls N2 (a := p.1) (o := p.2) hp hI1 ?_ e
        rw [hc2]
        rcases hcl with q | q | ⟨_, q⟩ <;> rw [q] <;> simp
    · intro p hp hne
      have h1 := K1 p hp hne
      refine mem_wo.mpr ⟨K2 p (by k_mem) hne, ?_⟩
      have h9 := hoff p h1
      simpa using h9
  case dn =>
    intro h' tk u1 u2 news' F' N' hJ
    obtain ⟨S1, K1⟩ := hJ
    have e : ms.take mvs.length = ms := List.take_of_length_le (by rw [hms.length]; exact Nat.le_refl _)
    rw [e] at S1
    unfold map2 at F'
    clear F9 N9
    k_steps
    all_goals exact ret _ _ _ (by k_asm) (by k_asm) K1 S1
end

-- PK: make upon HeapSt
theorem start_PK : True := by
  w_top off
  trivial
theorem ne_new {led : Led} {d a : Addr} {o : Obj} (h : AllLt d led) (hm : (a, o) ∈ led) : d ≠ a := fun e => by
  have q : a < d := allLt_to h _ hm
  exact absurd e.symm (Nat.ne_of_lt q)
local macro_rules | `(tactic| walk_at "call ref") => `(tactic| (k_here; (with_reducible show wpAny _ _ (call (Value.ref 175) [Value.ref _, Value.int _ _, Value.int _ _, Value.ref _]) _ _ _); k_dflt (refine' put_values_spec ?B ?F ?X ?N ?T ?K ?d ?u ?S ?i ?c ?b ?bl ?m ?ml ?ms ?_; (walk_at "mB"); (walk_at "mS"); (case m => k_mem); (case ms => assumption); (case c => assumption); (case ml => first | assumption | ((repeat (rename _ ∧ _ => hc9; obtain ⟨_, _⟩ := hc9)); exact ne_new (by assumption) (by assumption))); (case i => omega); (case b => omega); (case bl => first | omega | ((simp only [List.length_take]; split <;> omega))); k_whole); intro h' tk' led' F' N' hK' hS'; (try dsimp only at hK' hS'); (try k_sweep); (try k_fold)))
/-- which addresses the kept rows' code writes -/
def Foot (HD KD : Addr) (cells : List Cell) (d : Addr) : Prop := d = HD ∨ d = KD ∨ ∃ (i : Nat) (c : Cell), cells[i]? = some c ∧ d = c.c
def KeepF (HD KD : Addr) (cells : List Cell) (led led' : Led) : Prop := ∀ p ∈ led, ¬ Foot HD KD cells p.1 → p ∈ led'
def rho2 (ρ : Addr → Nat) (dx c : Addr) (n : Nat) : Addr → Nat := fun a => if a = dx then 6 + 3 * n else if a = c then 7 + 3 * n else ρ a
section
variable {prog : Program} {w : World} {dp un : Nat} {gd : Option (List Code)} {cn : Str} {cs : Scope} {a : Addr} {ccd : Value} {cl : List (Str × Addr)} {outer : List Env} {A₀ : Around} {base h₀ : Heap} {L : Addr} {m : Str → Option Value} {led : Led} {s : Shared} {Q E : Value → Shared → Prop} {p : Program} {loose : List Str} {mean : ExcName → Option Value} {mg mb : Str → Option Value}
theorem makeH_spec {ρ : Addr → Nat} {H HD KD c : Addr} {cells : List Cell} {vs : List Value} {ns : List Int} {n : Nat} {zr zh : Tok} (B : Below A₀ base outer h₀) (F : Fr h₀ L s.heap m) (X : (hd.heap_39 w.params).In h₀) (N : News h₀ L s.heap led) (T : Top p loose mean mg mb h₀) (hk : cs.kind = .function)
   (hdp : dp + 6 < recursionLimit) (hu : un + 100 < cLine) (S : HeapSt prog w led ρ H HD KD cells) (hcl : cells.length < 1000)
   (hm : (c, lstO vs n) ∈ led) (hi : IntsAre vs ns) (hf : ns.length < 2 ^ 24) (hne : ∀ (i : Nat) (q : Cell), cells[i]? = some q → q.c ≠ c)
   (ret : ∀ h' tk' led' x dx zg, Fr h₀ L h' m → News h₀ L h' led' → KeepBut [HD, KD] led led' → (∀ p ∈ led, p.1 < dx) → HeapSt prog w led' (rho2 ρ dx c cells.length) H HD KD (cells ++ [⟨x, dx, c, ns⟩]) → Q (.int ((cells.length : Int) + 1) zg) { s with heap := h', toks := tk' }) :
    wpAny (model prog w) (ktrTop dp un gd cn cs L a ccd cl outer) (call (.ref 268) [.ref H, .str (Str.ofString "row") zr, .ref c, .str (Str.ofString "heap") zh]) Q E s := by
  obtain ⟨a1, ⟨z1, z2, z3, z4, z5, z6, z7, a2⟩, ⟨o, a3, a4⟩, a5, a6, a7, g⟩ := S
  have hco : o.cls = .type "dict" := by obtain ⟨es, ep, hx, _⟩ := a4; exact hx.1
  have hHK : HD ≠ KD := fun e => by rw [e, a7] at a6; cases a6
  have N' : News h₀ L s.heap ((HD, heapD w.params KD cells.length z1 z2 z3 z4 z5 z6 z7) :: (KD, o) :: wo [HD, KD] led) := cb_drop N fun p hp => by
    rcases List.mem_cons.mp hp with rfl | hp
    · exact a2
    · rcases List.mem_cons.mp hp with rfl | hp
      · exact a3
      · exact (mem_wo.mp hp).1
  have off : ∀ {q : Addr} {oq : Obj}, (q, oq) ∈ led → oq.cls ≠ .type "dict" → (q, oq) ∈ wo [HD, KD] led := fun {q oq} hq hcl =>
    mem_wo.mpr ⟨hq, by
      simp only [List.mem_cons, List.not_mem_nil, or_false, not_or]
      exact ⟨ne_cls N hq a2 hcl, ne_cls N hq a3 (by rw [hco]; exact hcl)⟩⟩
  refine make_spec (c := c) B F X N' T hk hdp hu (Ne.symm hHK) hHK (wo_off (by simp)) (wo_off (by simp)) (off a1 (by simp)) a4 a5 (by rw [kvsFrom_length, sizeLine_eq]; omega)
    fun h' tk' x dx oK' z1 z2 z3 z4 z5 z6 z7 y1 y2 y3 y4 y5 zg F' N'' hK' l1 l2 l3 l4 => ret h' tk' _ x dx zg F' N'' ?_ ?_ ?_
  · intro p hp hd
    exact List.mem_cons_of_mem _ (List.mem_cons_of_mem _ (List.mem_cons_of_mem _ (List.mem_cons_of_mem _ (mem_wo.mpr ⟨hp, hd⟩))))
  · intro p hp
    by_cases h1 : p.1 = HD
    · rw [h1]; exact l1
    · by_cases h2 : p.1 = KD
      · rw [h2]; exact l2
      · exact l3 p (mem_wo.mpr ⟨hp, by simp [h1, h2]⟩)
  · have fresh : ∀ {q : Addr} {oq : Obj}, (q, oq) ∈ led → q ≠ dx := fun {q oq} hq e => by
      have : q < dx := by
        by_cases h1 : q = HD
        · rw [h1]; exact l1
        · by_cases h2 : q = KD
          · rw [h2]; exact l2
          · exact l3 (q, oq) (mem_wo.mpr ⟨hq, by simp [h1, h2]⟩)
      exact absurd e (Nat.ne_of_lt this)
    have hcne : c ≠ dx := fresh hm
    have out : ∀ {q : Addr} {oq : Obj}, (q, oq) ∈ wo [HD, KD] led → (q, oq) ∈ (HD, heapD w.params KD ((cells.length : Int) + 1) z1 z2 z3 z4 z5 z6 z7) :: (KD, oK') :: (x, instObj 241 dx) :: (dx, keptD w.params c y1 y2 y3 y4 y5) :: wo [HD, KD] led := fun hq =>
      List.mem_cons_of_mem _ (List.mem_cons_of_mem _ (List.mem_cons_of_mem _ (List.mem_cons_of_mem _ hq)))
    refine ⟨out (off a1 (by simp)), ⟨z1, z2, z3, z4, z5, z6, z7, ?_⟩, ⟨oK', by simp, ?_⟩, a5, ?_, ?_, fun i q hq => ?_⟩
    · rw [List.length_append, List.length_singleton]
      exact List.mem_cons_self ..
    · rw [← stored_kvs cells ⟨x, dx, c, ns⟩]; exact hK'
    · unfold rho2
      rw [if_neg (fresh a2), if_neg (ne_cls N a2 hm (by simp))]; exact a6
    · unfold rho2
      rw [if_neg (fresh a3), if_neg (ne_cls N a3 hm (by rw [hco]; simp))]; exact a7
    · by_cases hlt : i < cells.length
      · rw [List.getElem?_append_left hlt] at hq
        obtain ⟨g1, ⟨y1, y2, y3, y4, y5, g2⟩, ⟨us, u, g3, g4⟩, g5, g6, g7⟩ := g i q hq
        have hqd : (q.dx, keptD w.params q.c y1 y2 y3 y4 y5) ∈ wo [HD, KD] led := mem_wo.mpr ⟨g2, by
          simp only [List.mem_cons, List.not_mem_nil, or_false, not_or]
          exact ⟨fun e => by rw [e, a6] at g5; omega, fun e => by rw [e, a7] at g5; omega⟩⟩
        refine ⟨out (off g1 (by simp)), ⟨y1, y2, y3, y4, y5, out hqd⟩, ⟨us, u, out (off g3 (by simp)), g4⟩, ?_, ?_, g7⟩
        · unfold rho2
          rw [if_neg (fresh g2), if_neg (ne_cls N g2 hm (by simp))]; exact g5
        · unfold rho2
          rw [if_neg (fresh g3), if_neg (hne i q hq)]; exact g6
      · have hi' : i = cells.length := by
          have := (List.getElem?_eq_some_iff.mp hq).1
          rw [List.length_append, List.length_singleton] at this
          omega
        subst hi'
        rw [List.getElem?_append_right (Nat.le_refl _), Nat.sub_self] at hq
        cases hq
        refine ⟨by simp, ⟨y1, y2, y3, y4, y5, by simp⟩, ⟨vs, n, out (off hm (by simp)), hi⟩, ?_, ?_, hf⟩
        · unfold rho2; rw [if_pos rfl]
        · unfold rho2; rw [if_neg hcne, if_pos rfl]
end

-- PL: made_slice
theorem start_PL : True := by
  w_top off
  trivial
theorem line_20 : True := by
  k_with "testChain" => first | with_reducible refine test_link ?_ | refine test_last ?_ | (k_dflt (refine test_link ?_))
  trivial
theorem flat_rep {α : Type} (x : α) : ∀ n : Nat, (List.replicate n [x]).flatten = List.replicate n x
  | 0 => rfl
  | n + 1 => by rw [List.replicate_succ, List.flatten_cons, flat_rep x n]; rfl
theorem rho2_old {ρ : Addr → Nat} {dx c : Addr} {n : Nat} {led : Led} (h1 : ∀ p ∈ led, p.1 < dx) (h2 : ∀ p ∈ led, p.1 ≠ c) : ∀ p ∈ led, rho2 ρ dx c n p.1 = ρ p.1 := fun p hp => by
  unfold rho2
  rw [if_neg (Nat.ne_of_lt (h1 p hp)), if_neg (h2 p hp)]
theorem keepF_of {HD KD : Addr} {cells : List Cell} {led led1 led' : Led} (h : ∀ p ∈ led, p ∈ led1) (k : KeepBut [HD, KD] led1 led') : KeepF HD KD cells led led' := fun p hp hn =>
  k p (h p hp) (by
    simp only [List.mem_cons, List.not_mem_nil, or_false, not_or]
    exact ⟨fun e => hn (.inl e), fun e => hn (.inr (.inl e))⟩)
theorem hne_of {prog : Program} {w : World} {led : Led} {ρ : Addr → Nat} {H HD KD c : Addr} {cells : List Cell} (S : HeapSt prog w led ρ H HD KD cells) (h : ∀ p ∈ led, p.1 ≠ c) : ∀ (i : Nat) (q : Cell), cells[i]? = some q → q.c ≠ c := fun i q hq => by
  obtain ⟨_, _, ⟨vs, n, hm, _⟩, _⟩ := S.cell i q hq
  exact h _ hm
theorem lt_ne {d : Addr} {led : Led} (h : ∀ p ∈ led, p.1 < d) : ∀ p ∈ led, p.1 ≠ d := fun p hp => Nat.ne_of_lt (h p hp)
theorem line_21 : True := by
  k_with "call ref" => (k_here; (with_reducible show wpAny _ _ (call (Value.ref 268) [Value.ref _, Value.str _ _, Value.ref _, Value.str _ _]) _ _ _); k_dflt (refine' makeH_spec (by k_asm) (by k_asm) (by k_asm) (by k_asm) (by k_asm) (by first | exact rfl | assumption) (by k_room) (by k_units) (by first | assumption | exact HeapSt.grow (by assumption) (fun _ hm => by k_mem)) (by assumption) (by k_mem) (by assumption) (by first | assumption | omega | (simp only [List.length_append, flat_rep, List.length_replicate]; omega)) (by (refine hne_of (by assumption) ?_; (repeat (rename _ ∧ _ => hc9; obtain ⟨_, _⟩ := hc9)); first | exact off1_to (by assumption) | exact lt_ne (allLt_to (by assumption)) | exact lt_ne (by assumption))) ?_; k_whole); intro h'q tk'q led'q x'q dx'q z'q F'q N'q hK'q l1'q hS'q; (try k_lt l1'q); (try k_sweep); (try k_fold))
  trivial
section
variable {prog : Program} {w : World} {dp un : Nat} {gd : Option (List Code)} {cn : Str} {cs : Scope} {a : Addr} {ccd : Value} {cl : List (Str × Addr)} {outer : List Env} {A₀ : Around} {base h₀ : Heap} {L : Addr} {m : Str → Option Value} {led : Led} {s : Shared} {Q E : Value → Shared → Prop} {p : Program} {loose : List Str} {mean : ExcName → Option Value} {mg mb : Str → Option Value}
theorem made_slice_spec {ρ : Addr → Nat} {H HD KD : Addr} {cells : List Cell} {l r : Int} {zl zr z0 zh : Tok} (B : Below A₀ base outer h₀) (F : Fr h₀ L s.heap m) (X : (hd.heap_39 w.params).In h₀) (N : News h₀ L s.heap led) (T : Top p loose mean mg mb h₀) (hk : cs.kind = .function)
   (hdp : dp + 8 < recursionLimit) (hu : un + 200 < cLine) (S : HeapSt prog w led ρ H HD KD cells) (hcl : cells.length < 1000) (h0 : 0 ≤ l) (h1 : l ≤ r) (h2 : r < 100)
   (ret : ∀ h' tk' led' ρ' v' cell, Fr h₀ L h' m → News h₀ L h' led' → KeepF HD KD cells led led' → (∀ p ∈ led, ρ' p.1 = ρ p.1) → HeapSt prog w led' ρ' H HD KD (cells ++ [cell]) → cell.ns = List.replicate r.toNat 0 → ToldAt led' v' ⟨some cells.length, 0, l, r⟩ → Q v' { s with heap := h', toks := tk' }) :
    wpAny (model prog w) (ktrTop dp un gd cn cs L a ccd cl outer) (call (.ref 156) [.ref H, .int l zl, .int r zr, .int 0 z0, .str (Str.ofString "heap") zh]) Q E s := by
  have hH := S.h
  obtain ⟨zz1, zz2, zz3, zz4, zz5, zz6, zz7, hHD⟩ := S.hd
  k_steps
  all_goals (rename KeepBut _ _ _ => K9; rename HeapSt _ _ _ _ _ _ _ _ => S9)
  all_goals (repeat (rename _ ∧ _ => hc9; obtain ⟨_, _⟩ := hc9))
  all_goals refine ret _ _ _ _ _ _ (by k_asm) (by k_asm) (fun p hp hn => List.mem_cons_of_mem _ (keepF_of (fun p hp => by k_mem) K9 p hp hn)) (rho2_old (allLt_to (by assumption)) (lt_ne (allLt_to (by assumption)))) (HeapSt.grow S9 fun p hp => by k_mem) (flat_rep _ _) ⟨_, _, _, _, _, _, rfl, List.mem_cons_self ..⟩
end

-- PM: appended_slice in three arms
theorem start_PM : True := by
  w_top off
  trivial
theorem line_22 : True := by
  k_with "call ref" => (k_here; (with_reducible show wpAny _ _ (call (Value.ref 163) [Value.int _ _, Value.int _ _]) _ _ _); k_dflt (refine' grown_room_spec (by k_asm) (by k_asm) (by k_asm) (by k_asm) (by k_asm) (by first | exact rfl | assumption) (by k_room) (by k_units) (by omega) (by omega) (by omega) ?_; k_whole); intro h'q tk'q z'q F'q N'q; (try k_sweep); (try k_fold))
  trivial
theorem line_23 : True := by
  k_with "call ref" => (k_here; (with_reducible show wpAny _ _ (call (Value.ref 408) [Value.int _ _, Value.int _ _]) _ _ _); k_dflt (refine' law_room_spec (by k_asm) (by k_asm) (by k_asm) (by k_asm) (by k_asm) (by first | exact rfl | assumption) (by k_room) (by k_units) (by omega) (by omega) (by omega) ?_; k_whole); intro h'q tk'q z'q F'q N'q; (try k_sweep); (try k_fold))
  trivial
theorem seg_len {cells : List Cell} {W : Win} : (seg cells W).length ≤ W.l.toNat := by
  unfold seg
  split
  · simp
  · split
    · simp; omega
    · simp
section
variable {prog : Program} {w : World} {dp un : Nat} {gd : Option (List Code)} {cn : Str} {cs : Scope} {a : Addr} {ccd : Value} {cl : List (Str × Addr)} {outer : List Env} {A₀ : Around} {base h₀ : Heap} {L : Addr} {m : Str → Option Value} {led : Led} {s : Shared} {Q E : Value → Shared → Prop} {p : Program} {loose : List Str} {mean : ExcName → Option Value} {mg mb : Str → Option Value}
theorem appended_nil {ρ : Addr → Nat} {H HD KD ml : Addr} {cells : List Cell} {v : Value} {W : Win} {k : Nat} {z0 zh : Tok} (B : Below A₀ base outer h₀) (F : Fr h₀ L s.heap m) (X : (hd.heap_39 w.params).In h₀) (N : News h₀ L s.heap led) (T : Top p loose mean mg mb h₀) (hk : cs.kind = .function)
   (hdp : dp + 9 < recursionLimit) (hu : un + 300 < cLine) (hv : ToldAt led v W) (hm : (ml, lstO [] k) ∈ led)
   (ret : ∀ h' tk', Fr h₀ L h' m → News h₀ L h' led → Q v { s with heap := h', toks := tk' }) :
    wpAny (model prog w) (ktrTop dp un gd cn cs L a ccd cl outer) (call (.ref 182) [.ref H, v, .ref ml, .int 0 z0, .str (Str.ofString "heap") zh]) Q E s := by
  k_steps
  all_goals exact ret _ _ (by k_asm) (cb_drop (by k_asm) (by k_allIn))
theorem appended_room {ρ : Addr → Nat} {H HD KD ml : Addr} {cells : List Cell} {c : Cell} {i b l r : Int} {v : Value} {mvs : List Value} {ms : List Int} {k : Nat} {z0 zh : Tok} (B : Below A₀ base outer h₀) (F : Fr h₀ L s.heap m) (X : (hd.heap_39 w.params).In h₀) (N : News h₀ L s.heap led) (T : Top p loose mean mg mb h₀) (hk : cs.kind = .function)
   (hdp : dp + 9 < recursionLimit) (hu : un + 300 < cLine) (S : HeapSt prog w led ρ H HD KD cells) (hv : ToldAt led v ⟨some i, b, l, r⟩) (hi : 0 ≤ i) (hc : cells[i.toNat]? = some c) (hb : 0 ≤ b) (hl : 0 ≤ l) (hbr : b + r ≤ c.ns.length)
   (hm : (ml, lstO mvs k) ∈ led) (hms : IntsAre mvs ms) (hml : ml ≠ c.c) (hne : ms ≠ []) (hfit : l + ms.length ≤ r) (hlen : ms.length < 1000)
   (ret : ∀ h' tk' led' v', Fr h₀ L h' m → News h₀ L h' led' → KeepBut [c.c] led led' → HeapSt prog w led' ρ H HD KD (cells.set i.toNat { c with ns := ovr c.ns (b + l).toNat ms }) → ToldAt led' v' ⟨some i, b, l + ms.length, r⟩ → Q v' { s with heap := h', toks := tk' }) :
    wpAny (model prog w) (ktrTop dp un gd cn cs L a ccd cl outer) (call (.ref 182) [.ref H, v, .ref ml, .int 0 z0, .str (Str.ofString "heap") zh]) Q E s := by
  k_steps
  all_goals (rename KeepBut _ _ _ => K9; rename HeapSt _ _ _ _ _ _ _ _ => S9)
  all_goals exact ret _ _ _ _ (by k_asm) (by k_asm) (fun p hp hn => List.mem_cons_of_mem _ (K9 p (by k_mem) hn)) (HeapSt.grow S9 fun p hp => by k_mem) ⟨_, _, _, _, _, _, rfl, List.mem_cons_self ..⟩
theorem appended_grow {ρ : Addr → Nat} {H HD KD ml : Addr} {cells : List Cell} {v : Value} {W : Win} {mvs : List Value} {ms : List Int} {k : Nat} {z0 zh : Tok} (B : Below A₀ base outer h₀) (F : Fr h₀ L s.heap m) (X : (hd.heap_39 w.params).In h₀) (N : News h₀ L s.heap led) (T : Top p loose mean mg mb h₀) (hk : cs.kind = .function)
   (hdp : dp + 9 < recursionLimit) (hu : un + 300 < cLine) (S : HeapSt prog w led ρ H HD KD cells) (hcl : cells.length < 1000) (hv : ToldAt led v W) (hW : WinOk cells W) (h0 : 0 ≤ W.l) (h00 : 0 ≤ W.r)
   (hm : (ml, lstO mvs k) ∈ led) (hms : IntsAre mvs ms) (hne : ms ≠ []) (hfit : W.r < W.l + ms.length) (hlen : W.l + ms.length < 1000) (hr : W.r < 1000)
   (hgl : W.l + ms.length ≤ grow (W.l + ms.length) W.r) (hgh : grow (W.l + ms.length) W.r < 4000)
   (ret : ∀ h' tk' led' ρ' v' cell, Fr h₀ L h' m → News h₀ L h' led' → KeepF HD KD cells led led' → (∀ p ∈ led, ρ' p.1 = ρ p.1) → HeapSt prog w led' ρ' H HD KD (cells ++ [cell]) → cell.ns = seg cells W ++ ms ++ List.replicate (grow (W.l + ms.length) W.r - (W.l + ms.length)).toNat 0 → ToldAt led' v' ⟨some cells.length, 0, W.l + ms.length, grow (W.l + ms.length) W.r⟩ → Q v' { s with heap := h', toks := tk' }) :
    wpAny (model prog w) (ktrTop dp un gd cn cs L a ccd cl outer) (call (.ref 182) [.ref H, v, .ref ml, .int 0 z0, .str (Str.ofString "heap") zh]) Q E s := by
  have hH := S.h
  obtain ⟨zz1, zz2, zz3, zz4, zz5, zz6, zz7, hHD⟩ := S.hd
  have hsl : (seg cells W).length < 1000 := by
    have := @seg_len cells W
    omega
  k_steps
  all_goals (rename KeepBut _ _ _ => K9; rename HeapSt _ _ _ _ _ _ _ _ => S9)
  all_goals (repeat (rename _ ∧ _ => hc9; obtain ⟨_, _⟩ := hc9))
  all_goals refine ret _ _ _ _ _ _ (by k_asm) (by k_asm) (fun p hp hn => List.mem_cons_of_mem _ (keepF_of (fun p hp => by k_mem) K9 p hp hn)) (rho2_old (allLt_to (by assumption)) (lt_ne (allLt_to (by assumption)))) (HeapSt.grow S9 fun p hp => by k_mem) (by rw [flat_rep]) ⟨_, _, _, _, _, _, rfl, List.mem_cons_self ..⟩
end

-- PN: copied_values in two arms; cut_slice
theorem start_PN : True := by
  w_top off
  trivial
section
variable {prog : Program} {w : World} {dp un : Nat} {gd : Option (List Code)} {cn : Str} {cs : Scope} {a : Addr} {ccd : Value} {cl : List (Str × Addr)} {outer : List Env} {A₀ : Around} {base h₀ : Heap} {L : Addr} {m : Str → Option Value} {led : Led} {s : Shared} {Q E : Value → Shared → Prop} {p : Program} {loose : List Str} {mean : ExcName → Option Value} {mg mb : Str → Option Value}
theorem put_values_nil {ml : Addr} {k : Nat} {hv rv : Value} {zb : Tok} (B : Below A₀ base outer h₀) (F : Fr h₀ L s.heap m) (X : (hd.heap_39 w.params).In h₀) (N : News h₀ L s.heap led) (T : Top p loose mean mg mb h₀) (hk : cs.kind = .function)
   (hdp : dp + 8 < recursionLimit) (hu : un + 200 < cLine) (hm : (ml, lstO [] k) ∈ led) {b : Int}
   (ret : ∀ h' tk', Fr h₀ L h' m → News h₀ L h' led → Q .none { s with heap := h', toks := tk' }) :
    wpAny (model prog w) (ktrTop dp un gd cn cs L a ccd cl outer) (call (.ref 175) [hv, rv, .int b zb, .ref ml]) Q E s := by
  k_steps
  (rename Fr _ _ _ _ => F9; rename News _ _ _ _ => N9)
  k_dflt (refine' for_enum2 (Str.ofString "step") (Str.ofString "value") (fun i0 news => KeepBut [] led news) ?hh ?F ?N ?hm ?h0 ?st ?dn)
  case hh => exact rfl
  case F => exact F9
  case N => exact N9
  case hm => k_mem
  case h0 => exact fun p hp _ => hp
  case st =>
    intro i0 xv t T u1 u2 news1 h1 tk1 E1 o1 I1 o2 hx
    simp at hx
  case dn =>
    intro h' tk u1 u2 news' F' N' hJ
    unfold map2 at F'
    clear F9 N9
    k_steps
    all_goals exact ret _ _ (by k_asm) (cb_drop (by k_asm) fun p hp => hJ p hp (by simp))
theorem put_values_nil2 {ml : Addr} {k : Nat} {hv rv : Value} {zb : Tok} {mvs : List Value} {ms : List Int} (B : Below A₀ base outer h₀) (F : Fr h₀ L s.heap m) (X : (hd.heap_39 w.params).In h₀) (N : News h₀ L s.heap led) (T : Top p loose mean mg mb h₀) (hk : cs.kind = .function)
   (hdp : dp + 8 < recursionLimit) (hu : un + 200 < cLine) (hm : (ml, lstO mvs k) ∈ led) (hms : IntsAre mvs ms) (hz : ms.length = 0) {b : Int}
   (ret : ∀ h' tk', Fr h₀ L h' m → News h₀ L h' led → Q .none { s with heap := h', toks := tk' }) :
    wpAny (model prog w) (ktrTop dp un gd cn cs L a ccd cl outer) (call (.ref 175) [hv, rv, .int b zb, .ref ml]) Q E s := by
  have e : mvs = [] := List.eq_nil_of_length_eq_zero (by rw [hms.length]; exact hz)
  subst e
  exact put_values_nil B F X N T hk hdp hu hm ret
end
theorem min_if (a b : Int) : (if b < a then b else a) = min a b := by split <;> omega
theorem line_24 : True := by
  k_with "call ref" => (k_here; (with_reducible show wpAny _ _ (call (Value.ref 175) [Value.ref _, Value.none, Value.int _ _, Value.ref _]) _ _ _); k_dflt (refine' put_values_nil2 (by k_asm) (by k_asm) (by k_asm) (by k_asm) (by k_asm) (by first | exact rfl | assumption) (by k_room) (by k_units) (by k_mem) (by assumption) (by (rw [List.length_take, min_if]; omega)) ?_; k_whole); intro h'q tk'q F'q N'q; (try k_sweep); (try k_fold))
  trivial
theorem line_25 : True := by
  k_with "call ref" => (k_here; (with_reducible show wpAny _ _ (call (Value.ref 175) [Value.ref _, Value.none, Value.int _ _, Value.ref _]) _ _ _); k_dflt (refine' put_values_nil (by k_asm) (by k_asm) (by k_asm) (by k_asm) (by k_asm) (by first | exact rfl | assumption) (by k_room) (by k_units) (by k_mem) ?_; k_whole); intro h'q tk'q F'q N'q; (try k_sweep); (try k_fold))
  trivial
section
variable {prog : Program} {w : World} {dp un : Nat} {gd : Option (List Code)} {cn : Str} {cs : Scope} {a : Addr} {ccd : Value} {cl : List (Str × Addr)} {outer : List Env} {A₀ : Around} {base h₀ : Heap} {L : Addr} {m : Str → Option Value} {led : Led} {s : Shared} {Q E : Value → Shared → Prop} {p : Program} {loose : List Str} {mean : ExcName → Option Value} {mg mb : Str → Option Value}
theorem copied_values_some {ρ : Addr → Nat} {H HD KD ml : Addr} {cells : List Cell} {c : Cell} {i b l r : Int} {v : Value} {mvs : List Value} {ms : List Int} {k : Nat} (B : Below A₀ base outer h₀) (F : Fr h₀ L s.heap m) (X : (hd.heap_39 w.params).In h₀) (N : News h₀ L s.heap led) (T : Top p loose mean mg mb h₀) (hk : cs.kind = .function)
   (hdp : dp + 9 < recursionLimit) (hu : un + 300 < cLine) (S : HeapSt prog w led ρ H HD KD cells) (hv : ToldAt led v ⟨some i, b, l, r⟩) (hi : 0 ≤ i) (hc : cells[i.toNat]? = some c) (hb : 0 ≤ b) (hl : 0 ≤ l) (hlr : l ≤ r) (hbr : b + r ≤ c.ns.length)
   (hm : (ml, lstO mvs k) ∈ led) (hms : IntsAre mvs ms) (hlen : ms.length < 1000)
   (ret : ∀ h' tk' led' z, Fr h₀ L h' m → News h₀ L h' led' → KeepBut [c.c] led led' → HeapSt prog w led' ρ H HD KD (cells.set i.toNat { c with ns := ovr c.ns b.toNat (ms.take (min l ms.length).toNat) }) → Q (.int (min l ms.length) z) { s with heap := h', toks := tk' }) :
    wpAny (model prog w) (ktrTop dp un gd cn cs L a ccd cl outer) (call (.ref 189) [.ref H, v, .ref ml]) Q E s := by
  obtain ⟨_, _, ⟨us9, n9, hcc9, _⟩, _⟩ := S.cell _ _ hc
  k_steps
  all_goals (rename KeepBut _ _ _ => K9; rename HeapSt _ _ _ _ _ _ _ _ => S9)
  all_goals (rw [min_if] at S9 ⊢)
  all_goals exact ret _ _ _ _ (by k_asm) (by k_asm) (fun p hp hn => K9 p (by k_mem) hn) S9
theorem copied_values_none {ρ : Addr → Nat} {H HD KD ml : Addr} {cells : List Cell} {mvs : List Value} {ms : List Int} {k : Nat} (B : Below A₀ base outer h₀) (F : Fr h₀ L s.heap m) (X : (hd.heap_39 w.params).In h₀) (N : News h₀ L s.heap led) (T : Top p loose mean mg mb h₀) (hk : cs.kind = .function)
   (hdp : dp + 9 < recursionLimit) (hu : un + 300 < cLine)
   (hm : (ml, lstO mvs k) ∈ led) (hms : IntsAre mvs ms) (hlen : ms.length < 1000)
   (ret : ∀ h' tk' z, Fr h₀ L h' m → News h₀ L h' led → Q (.int 0 z) { s with heap := h', toks := tk' }) :
    wpAny (model prog w) (ktrTop dp un gd cn cs L a ccd cl outer) (call (.ref 189) [.ref H, .none, .ref ml]) Q E s := by
  have hv : ToldAt led .none ⟨none, 0, 0, 0⟩ := ⟨rfl, rfl, rfl, rfl⟩
  k_steps
  all_goals (rw [min_if, show min 0 (ms.length : Int) = 0 by omega])
  all_goals exact ret _ _ _ (by k_asm) (cb_drop (by k_asm) (by k_allIn))
theorem cut_slice_spec {v : Value} {W : Win} {lo hi : Int} {zl zh : Tok} (B : Below A₀ base outer h₀) (F : Fr h₀ L s.heap m) (X : (hd.heap_39 w.params).In h₀) (N : News h₀ L s.heap led) (T : Top p loose mean mg mb h₀) (hk : cs.kind = .function)
   (hdp : dp + 9 < recursionLimit) (hu : un + 300 < cLine) (hv : ToldAt led v W) (h0 : 0 ≤ lo) (h1 : lo ≤ hi) (h2 : hi ≤ W.r)
   (ret : ∀ h' tk' led' v', Fr h₀ L h' m → News h₀ L h' led' → (∀ p ∈ led, p ∈ led') → ToldAt led' v' ⟨W.row, W.b + lo, hi - lo, W.r - lo⟩ → Q v' { s with heap := h', toks := tk' }) :
    wpAny (model prog w) (ktrTop dp un gd cn cs L a ccd cl outer) (call (.ref 149) [v, .int lo zl, .int hi zh, .none]) Q E s := by
  obtain ⟨row, b, l, r⟩ := W
  cases row with
  | none =>
    obtain ⟨rfl, rfl, rfl, rfl⟩ := hv
    dsimp only at h2
    have e0 : lo = 0 := by omega
    have e1 : hi = 0 := by omega
    subst e0 e1
    have hv : ToldAt led .none ⟨none, 0, 0, 0⟩ := ⟨rfl, rfl, rfl, rfl⟩
    k_steps
    all_goals exact ret _ _ _ _ (by k_asm) (by k_asm) (fun p hp => by k_mem) ⟨rfl, rfl, rfl, rfl⟩
  | some i =>
    dsimp only at h2
    obtain ⟨tt, y0, y1, y2, y3, y4, rfl, hmm⟩ := id hv
    k_steps
    all_goals exact ret _ _ _ _ (by k_asm) (by k_asm) (fun p hp => by k_mem) ⟨_, _, _, _, _, _, rfl, List.mem_cons_self ..⟩
end

-- PO: the plain functions segR, copyM, putM; copied_values and appended_slice in their words
theorem start_PO : True := by
  w_top off
  trivial
def rowsOf (cells : List Cell) : List (List Int) := cells.map (·.ns)
def WinR (rows : List (List Int)) (W : Win) : Prop := match W.row with
  | none => W.b = 0 ∧ W.l = 0 ∧ W.r = 0
  | some i => 0 ≤ i ∧ 0 ≤ W.b ∧ 0 ≤ W.l ∧ W.l ≤ W.r ∧ W.r < 100000 ∧ i.toNat < rows.length ∧ W.b + W.r ≤ (rows.getD i.toNat []).length
def segR (rows : List (List Int)) (W : Win) : List Int := match W.row with
  | none => []
  | some i => ((rows.getD i.toNat []).drop W.b.toNat).take W.l.toNat
def copyM (rows : List (List Int)) (W : Win) (ms : List Int) : List (List Int) := match W.row with
  | none => rows
  | some i => rows.set i.toNat (ovr (rows.getD i.toNat []) W.b.toNat (ms.take (min W.l ms.length).toNat))
def putM (rows : List (List Int)) (W : Win) (ms : List Int) : Win × List (List Int) :=
  if ms = [] then (W, rows)
  else if W.l + ms.length ≤ W.r then (⟨W.row, W.b, W.l + ms.length, W.r⟩, match W.row with
    | none => rows
    | some i => rows.set i.toNat (ovr (rows.getD i.toNat []) (W.b + W.l).toNat ms))
  else (⟨some (rows.length : Int), 0, W.l + ms.length, grow (W.l + ms.length) W.r⟩, rows ++ [segR rows W ++ ms ++ List.replicate (grow (W.l + ms.length) W.r - (W.l + ms.length)).toNat 0])
theorem rowsOf_get {cells : List Cell} {i : Nat} {c : Cell} (h : cells[i]? = some c) : (rowsOf cells).getD i [] = c.ns := by
  unfold rowsOf
  rw [List.getD_eq_getElem?_getD, List.getElem?_map, h]
  rfl
theorem rowsOf_length {cells : List Cell} : (rowsOf cells).length = cells.length := by unfold rowsOf; rw [List.length_map]
theorem rowsOf_cell {cells : List Cell} {i : Nat} (h : i < (rowsOf cells).length) : ∃ c, cells[i]? = some c ∧ (rowsOf cells).getD i [] = c.ns := by
  rw [rowsOf_length] at h
  exact ⟨cells[i], List.getElem?_eq_getElem h, rowsOf_get (List.getElem?_eq_getElem h)⟩
theorem rowsOf_set {cells : List Cell} {i : Nat} {c : Cell} {ns : List Int} : rowsOf (cells.set i { c with ns := ns }) = (rowsOf cells).set i ns := by
  unfold rowsOf
  rw [List.map_set]
theorem winOk_of {cells : List Cell} {W : Win} (h : WinR (rowsOf cells) W) : WinOk cells W := by
  obtain ⟨row, b, l, r⟩ := W
  cases row with
  | none => exact h
  | some i =>
    obtain ⟨h1, h2, h3, h4, h5, h6, h7⟩ := h
    obtain ⟨c, hc, e⟩ := rowsOf_cell h6
    rw [e] at h7
    exact ⟨h1, h2, h3, h4, h5, c, hc, h7⟩
theorem seg_rows {cells : List Cell} {W : Win} (h : WinR (rowsOf cells) W) : seg cells W = segR (rowsOf cells) W := by
  obtain ⟨row, b, l, r⟩ := W
  cases row with
  | none => rfl
  | some i =>
    obtain ⟨h1, h2, h3, h4, h5, h6, h7⟩ := h
    obtain ⟨c, hc, e⟩ := rowsOf_cell h6
    unfold seg segR
    dsimp only at hc e ⊢
    rw [hc, e]
theorem keepF_cell {HD KD : Addr} {cells : List Cell} {led led' : Led} {i : Nat} {c : Cell} (hc : cells[i]? = some c) (k : KeepBut [c.c] led led') : KeepF HD KD cells led led' := fun p hp hn =>
  k p hp (by
    rw [List.mem_singleton]
    exact fun e => hn (.inr (.inr ⟨i, c, hc, e⟩)))
theorem winR_nn {rows : List (List Int)} {W : Win} (h : WinR rows W) : 0 ≤ W.b ∧ 0 ≤ W.l ∧ W.l ≤ W.r := by
  obtain ⟨row, b, l, r⟩ := W
  cases row with
  | none => obtain ⟨h1, h2, h3⟩ := h; dsimp only at h1 h2 h3 ⊢; omega
  | some i => obtain ⟨h1, h2, h3, h4, _⟩ := h; exact ⟨h2, h3, h4⟩
theorem segR_len {rows : List (List Int)} {W : Win} (h : WinR rows W) : ((segR rows W).length : Int) = W.l := by
  obtain ⟨row, b, l, r⟩ := W
  cases row with
  | none =>
    obtain ⟨h1, h2, h3⟩ := h
    dsimp only at h2
    subst h2
    rfl
  | some i =>
    obtain ⟨h1, h2, h3, h4, h5, h6, h7⟩ := h
    dsimp only at h1 h2 h3 h4 h5 h6 h7
    unfold segR
    dsimp only
    rw [List.length_take, List.length_drop]
    omega
section
variable {prog : Program} {w : World} {dp un : Nat} {gd : Option (List Code)} {cn : Str} {cs : Scope} {a : Addr} {ccd : Value} {cl : List (Str × Addr)} {outer : List Env} {A₀ : Around} {base h₀ : Heap} {L : Addr} {m : Str → Option Value} {led : Led} {s : Shared} {Q E : Value → Shared → Prop} {p : Program} {loose : List Str} {mean : ExcName → Option Value} {mg mb : Str → Option Value}
theorem copied_values_spec {ρ : Addr → Nat} {H HD KD ml : Addr} {cells : List Cell} {v : Value} {W : Win} {mvs : List Value} {ms : List Int} {k : Nat} (B : Below A₀ base outer h₀) (F : Fr h₀ L s.heap m) (X : (hd.heap_39 w.params).In h₀) (N : News h₀ L s.heap led) (T : Top p loose mean mg mb h₀) (hk : cs.kind = .function)
   (hdp : dp + 9 < recursionLimit) (hu : un + 300 < cLine) (S : HeapSt prog w led ρ H HD KD cells) (hv : ToldAt led v W) (hW : WinR (rowsOf cells) W)
   (hm : (ml, lstO mvs k) ∈ led) (hms : IntsAre mvs ms) (hlen : ms.length < 1000)
   (ret : ∀ h' tk' led' cells' z, Fr h₀ L h' m → News h₀ L h' led' → KeepF HD KD cells led led' → HeapSt prog w led' ρ H HD KD cells' → rowsOf cells' = copyM (rowsOf cells) W ms → Q (.int (min W.l ms.length) z) { s with heap := h', toks := tk' }) :
    wpAny (model prog w) (ktrTop dp un gd cn cs L a ccd cl outer) (call (.ref 189) [.ref H, v, .ref ml]) Q E s := by
  obtain ⟨row, b, l, r⟩ := W
  cases row with
  | none =>
    obtain ⟨rfl, rfl, rfl, rfl⟩ := hv
    refine copied_values_none (cells := cells) (ρ := fun _ => 0) (HD := HD) (KD := KD) B F X N T hk hdp hu hm hms hlen fun h' tk' z F' N' => ?_
    have q := ret h' tk' led cells z F' N' (fun p hp _ => hp) S rfl
    rw [show min (0 : Int) (ms.length : Int) = 0 by omega] at q
    exact q
  | some i =>
    obtain ⟨h1, h2, h3, h4, h5, h6, h7⟩ := hW
    dsimp only at h1 h2 h3 h4 h5 h6 h7
    obtain ⟨c, hc, e⟩ := rowsOf_cell h6
    rw [e] at h7
    refine copied_values_some B F X N T hk hdp hu S hv h1 hc h2 h3 h4 h7 hm hms hlen fun h' tk' led' z F' N' K S' => ret h' tk' led' _ z F' N' (keepF_cell hc K) S' ?_
    rw [rowsOf_set]
    unfold copyM
    dsimp only
    rw [e]
theorem appended_spec {ρ : Addr → Nat} {H HD KD ml : Addr} {cells : List Cell} {v : Value} {W : Win} {mvs : List Value} {ms : List Int} {k : Nat} {z0 zh : Tok} (B : Below A₀ base outer h₀) (F : Fr h₀ L s.heap m) (X : (hd.heap_39 w.params).In h₀) (N : News h₀ L s.heap led) (T : Top p loose mean mg mb h₀) (hk : cs.kind = .function)
   (hdp : dp + 9 < recursionLimit) (hu : un + 300 < cLine) (S : HeapSt prog w led ρ H HD KD cells) (hcl : cells.length < 1000) (hv : ToldAt led v W) (hW : WinR (rowsOf cells) W)
   (hm : (ml, lstO mvs k) ∈ led) (hms : IntsAre mvs ms) (hml : ∀ (i : Nat) (c : Cell), cells[i]? = some c → ml ≠ c.c) (hlen : W.l + ms.length < 1000) (hr : W.r < 1000)
   (ret : ∀ h' tk' led' ρ' v' cells', Fr h₀ L h' m → News h₀ L h' led' → KeepF HD KD cells led led' → (∀ p ∈ led, ρ' p.1 = ρ p.1) → HeapSt prog w led' ρ' H HD KD cells' → rowsOf cells' = (putM (rowsOf cells) W ms).2 → ToldAt led' v' (putM (rowsOf cells) W ms).1 → Q v' { s with heap := h', toks := tk' }) :
    wpAny (model prog w) (ktrTop dp un gd cn cs L a ccd cl outer) (call (.ref 182) [.ref H, v, .ref ml, .int 0 z0, .str (Str.ofString "heap") zh]) Q E s := by
  by_cases hnil : ms = []
  · subst hnil
    cases hms
    refine appended_nil (cells := cells) (ρ := ρ) (HD := HD) (KD := KD) B F X N T hk hdp hu hv hm fun h' tk' F' N' => ret h' tk' led ρ v cells F' N' (fun p hp _ => hp) (fun p hp => rfl) S ?_ ?_
    · unfold putM; rw [if_pos rfl]
    · unfold putM; rw [if_pos rfl]; exact hv
  · have hpos : 0 < ms.length := by
      cases ms with
      | nil => exact absurd rfl hnil
      | cons x r => simp
    have nn := winR_nn hW
    by_cases hfit : W.l + ms.length ≤ W.r
    · obtain ⟨row, b, l, r⟩ := W
      dsimp only at hfit nn hr hlen
      cases row with
      | none =>
        obtain ⟨h1, h2, h3⟩ := hW
        dsimp only at h1 h2 h3
        omega
      | some i =>
        obtain ⟨h1, h2, h3, h4, h5, h6, h7⟩ := hW
        dsimp only at h1 h2 h3 h4 h5 h6 h7
        obtain ⟨c, hc, e⟩ := rowsOf_cell h6
        rw [e] at h7
        refine appended_room B F X N T hk hdp hu S hv h1 hc h2 h3 h7 hm hms (hml _ _ hc) hnil hfit (by omega) fun h' tk' led' v' F' N' K S' t' => ret h' tk' led' ρ v' _ F' N' (keepF_cell hc K) (fun p hp => rfl) S' ?_ ?_
        · rw [rowsOf_set]
          unfold putM
          rw [if_neg hnil, if_pos hfit]
          dsimp only
          rw [e]
        · unfold putM
          rw [if_neg hnil, if_pos hfit]
          exact t'
    · have gb := grow_bound (x := W.l + ms.length) (a := W.r) (by omega)
      refine appended_grow B F X N T hk hdp hu S hcl hv (winOk_of hW) nn.2.1 (by omega) hm hms hnil (by omega) hlen hr gb.1 (by omega) fun h' tk' led' ρ' v' cell F' N' K hρ S' hns t' => ret h' tk' led' ρ' v' _ F' N' K hρ S' ?_ ?_
      · unfold putM
        rw [if_neg hnil, if_neg hfit]
        dsimp only
        unfold rowsOf
        rw [List.map_append, List.map_singleton, hns, seg_rows hW]
        rfl
      · unfold putM
        rw [if_neg hnil, if_neg hfit]
        dsimp only
        rw [rowsOf_length]
        exact t'
end

-- PP: copied_slice
theorem start_PP : True := by
  w_top off
  trivial
theorem line_26 : True := by
  k_with "call ref" => (k_here; (with_reducible show wpAny _ _ (call (Value.ref 121) [_]) _ _ _); k_dflt (refine' slice_room_spec (by k_asm) (by k_asm) (by k_asm) (by k_asm) (by k_asm) (by first | exact rfl | assumption) (by k_room) (by k_units) (by first | assumption | exact ToldAt.mono (by assumption) (fun _ _ hm => by k_mem)) ?_; k_whole); intro h'q tk'q z'q F'q N'q; (try k_sweep); (try k_fold))
  trivial
theorem line_27 : True := by
  k_with "call ref" => (k_here; (with_reducible show wpAny _ _ (call (Value.ref 149) [_, Value.int _ _, Value.int _ _, Value.none]) _ _ _); k_dflt (refine' cut_slice_spec (by k_asm) (by k_asm) (by k_asm) (by k_asm) (by k_asm) (by first | exact rfl | assumption) (by k_room) (by k_units) (by first | assumption | exact ToldAt.mono (by assumption) (fun _ _ hm => by k_mem)) (by omega) (by first | assumption | omega) (by first | assumption | omega) ?_; k_whole); intro h'q tk'q led'q v'q F'q N'q hG'q hT'q; (try k_sweep); (try k_fold))
  trivial
theorem line_28 : True := by
  k_with "call ref" => (k_here; (with_reducible show wpAny _ _ (call (Value.ref 189) [Value.ref _, _, Value.ref _]) _ _ _); k_dflt (refine' copied_values_spec (by k_asm) (by k_asm) (by k_asm) (by k_asm) (by k_asm) (by first | exact rfl | assumption) (by k_room) (by k_units) (by first | assumption | exact HeapSt.grow (by assumption) (fun _ hm => by k_mem)) (by first | assumption | exact ToldAt.mono (by assumption) (fun _ _ hm => by k_mem)) (by assumption) (by k_mem) (by assumption) (by first | assumption | omega) ?_; k_whole); intro h'q tk'q led'q cells'q z'q F'q N'q hK'q hS'q hR'q; (try k_sweep); (try k_fold))
  trivial
section
variable {prog : Program} {w : World} {dp un : Nat} {gd : Option (List Code)} {cn : Str} {cs : Scope} {a : Addr} {ccd : Value} {cl : List (Str × Addr)} {outer : List Env} {A₀ : Around} {base h₀ : Heap} {L : Addr} {m : Str → Option Value} {led : Led} {s : Shared} {Q E : Value → Shared → Prop} {p : Program} {loose : List Str} {mean : ExcName → Option Value} {mg mb : Str → Option Value}
theorem copied_slice_spec {ρ : Addr → Nat} {H HD KD : Addr} {cells : List Cell} {v v2 : Value} {W W2 : Win} (B : Below A₀ base outer h₀) (F : Fr h₀ L s.heap m) (X : (hd.heap_39 w.params).In h₀) (N : News h₀ L s.heap led) (T : Top p loose mean mg mb h₀) (hk : cs.kind = .function)
   (hdp : dp + 11 < recursionLimit) (hu : un + 400 < cLine) (S : HeapSt prog w led ρ H HD KD cells) (hv : ToldAt led v W) (hv2 : ToldAt led v2 W2) (hW : WinR (rowsOf cells) W) (hW2 : WinR (rowsOf cells) W2)
   (hlen : W.l < 1000) (hlen2 : W2.l < 1000)
   (ret : ∀ h' tk' led' cells' z, Fr h₀ L h' m → News h₀ L h' led' → KeepF HD KD cells led led' → HeapSt prog w led' ρ H HD KD cells' → rowsOf cells' = copyM (rowsOf cells) W (segR (rowsOf cells) ⟨W2.row, W2.b, min W.l W2.l, W2.r⟩) → Q (.int (min W.l W2.l) z) { s with heap := h', toks := tk' }) :
    wpAny (model prog w) (ktrTop dp un gd cn cs L a ccd cl outer) (call (.ref 196) [.ref H, v, v2]) Q E s := by
  have nn := winR_nn hW
  have nn2 := winR_nn hW2
  have hm1 : (if W2.l < W.l then W2.l else W.l) ≤ W2.r := by split <;> omega
  have hm2 : 0 ≤ (if W2.l < W.l then W2.l else W.l) := by split <;> omega
  have hWc : WinR (rowsOf cells) ⟨W2.row, W2.b + 0, (if W2.l < W.l then W2.l else W.l) - 0, W2.r - 0⟩ := by
    obtain ⟨row, b, l, r⟩ := W2
    cases row with
    | none =>
      obtain ⟨h1, h2, h3⟩ := hW2
      dsimp only at h1 h2 h3 hm1 hm2
      subst h1 h2 h3
      refine ⟨rfl, ?_, rfl⟩
      dsimp only
      omega
    | some i =>
      obtain ⟨h1, h2, h3, h4, h5, h6, h7⟩ := hW2
      dsimp only at h1 h2 h3 h4 h5 h6 h7 hm1 hm2 nn2
      refine ⟨h1, ?_, ?_, ?_, ?_, h6, ?_⟩ <;> dsimp only <;> omega
  have hWo := winOk_of hWc
  have hsl : (seg cells ⟨W2.row, W2.b + 0, (if W2.l < W.l then W2.l else W.l) - 0, W2.r - 0⟩).length < 1000 := by
    have q := @seg_len cells ⟨W2.row, W2.b + 0, (if W2.l < W.l then W2.l else W.l) - 0, W2.r - 0⟩
    dsimp only at q
    refine Nat.lt_of_le_of_lt q ?_
    split <;> omega
  have eW : (⟨W2.row, W2.b + 0, (if W2.l < W.l then W2.l else W.l) - 0, W2.r - 0⟩ : Win) = ⟨W2.row, W2.b, min W.l W2.l, W2.r⟩ := by
    rw [min_if, Int.add_zero, Int.sub_zero, Int.sub_zero]
  k_steps
  rw [eW] at hWc
  have hlw := segR_len hWc
  dsimp only at hlw
  (rename KeepF _ _ _ _ _ => K9; rename HeapSt _ _ _ _ _ _ _ _ => S9; rename rowsOf _ = copyM _ _ _ => R9)
  rw [eW, seg_rows hWc] at R9 ⊢
  rw [hlw, show min W.l (min W.l W2.l) = min W.l W2.l by omega]
  refine ret _ _ _ _ _ (by k_asm) (by k_asm) (fun p hp hn => K9 p (by k_mem) hn) S9 R9
end

-- PQ: _law_take in three arms
theorem start_PQ : True := by
  w_top off
  trivial
section
variable {prog : Program} {w : World} {A : Around} {E : Value → Shared → Prop} {s : Shared} {h₀ : Heap} {L D : Addr} {m : Str → Option Value} {led led' : Led}
theorem seqIndex0 (n : Nat) : seqIndex? 0 (n + 1) = some 0 := by
  unfold seqIndex?
  simp
theorem pop0 {x : Value} {r : List Value} {n : Nat} {u : Tok} {Q : Value → Shared → Prop} (F : Fr h₀ L s.heap m) (N : News h₀ L s.heap led) (U : Upd D (listOf (x :: r).toArray n) (listOf r.toArray (n + 1)) led led') (hz : (x :: r).length ≤ sizeLine)
    (h : ∀ h', Fr h₀ L h' m → News h₀ L h' led' → Q x { s with heap := h' }) : wpAny (model prog w) A (call (.builtin "list.pop") [.ref D, .int 0 u]) Q E s :=
  kl_popAt (p := []) (k := 0) F N rfl (by rw [List.size_toArray, List.length_cons]; exact seqIndex0 _) rfl U hz h
end
theorem line_29 : True := by
  k_with "call builtin:list.pop" => (k_here; (with_reducible show wpAny _ _ (call (Value.builtin _) [Value.ref _, Value.int _ _]) _ _ _); k_dflt (refine' pop0 (by k_asm) (by k_asm) (by k_upd) (by assumption) ?_); intro h'q F'q N'q; (try k_sweep))
  trivial
section
variable {prog : Program} {w : World} {dp un : Nat} {gd : Option (List Code)} {cn : Str} {cs : Scope} {a : Addr} {ccd : Value} {cl : List (Str × Addr)} {outer : List Env} {A₀ : Around} {base h₀ : Heap} {L : Addr} {m : Str → Option Value} {led : Led} {s : Shared} {Q E : Value → Shared → Prop} {p : Program} {loose : List Str} {mean : ExcName → Option Value} {mg mb : Str → Option Value}
theorem take_pop {S R : Addr} {big mixed x top : Int} {t0 t1 tx zt : Tok} {n k : Nat} {rvs : List Value} {ris : List Int} {rest : Led} (B : Below A₀ base outer h₀) (F : Fr h₀ L s.heap m) (X : (hd.heap_39 w.params).In h₀) (N : News h₀ L s.heap ((S, lstO [.int big t0, .int mixed t1, .ref R] n) :: (R, lstO (.int x tx :: rvs) k) :: rest)) (T : Top p loose mean mg mb h₀) (hk : cs.kind = .function)
   (hdp : dp + 1 < recursionLimit) (hu : un + 100 < cLine) (hne : S ≠ R) (hne' : R ≠ S) (hr1 : ∀ p ∈ rest, p.1 ≠ S) (hr2 : ∀ p ∈ rest, p.1 ≠ R) (hi : IntsAre rvs ris) (hl : ris.length < 100) (h0 : 0 < top) (h1 : top < 1000000)
   (ret : ∀ h' tk' z k', Fr h₀ L h' m → News h₀ L h' ((S, lstO [.int big t0, .int mixed t1, .ref R] n) :: (R, lstO rvs k') :: rest) → Q (.int (Int.fmod x top) z) { s with heap := h', toks := tk' }) :
    wpAny (model prog w) (ktrTop dp un gd cn cs L a ccd cl outer) (call (.ref 394) [.ref S, .int top zt]) Q E s := by
  have hi' : IntsAre (.int x tx :: rvs) (x :: ris) := .cons x tx hi
  have hz9 : (Value.int x tx :: rvs).length ≤ sizeLine := by
    rw [hi'.length, List.length_cons, sizeLine_eq]; omega
  k_steps
  all_goals (try (rename decide (_ = _) = true => hx9; simp at hx9))
  all_goals exact ret _ _ _ _ (by k_asm) (cb_drop (by k_asm) (by k_allIn))
theorem take_big {S R : Addr} {big mixed top : Int} {t0 t1 zt : Tok} {n k : Nat} {rest : Led} (B : Below A₀ base outer h₀) (F : Fr h₀ L s.heap m) (X : (hd.heap_39 w.params).In h₀) (N : News h₀ L s.heap ((S, lstO [.int big t0, .int mixed t1, .ref R] n) :: (R, lstO [] k) :: rest)) (T : Top p loose mean mg mb h₀) (hk : cs.kind = .function)
   (hdp : dp + 1 < recursionLimit) (hu : un + 100 < cLine) (hne : S ≠ R) (hne' : R ≠ S) (hr1 : ∀ p ∈ rest, p.1 ≠ S) (hr2 : ∀ p ∈ rest, p.1 ≠ R) (h0 : 0 < top) (h1 : top < 1000000) (hb : 0 < big)
   (ret : ∀ h' tk' z z2, Fr h₀ L h' m → News h₀ L h' ((S, lstO [.int (Int.fdiv big top) z2, .int mixed t1, .ref R] n) :: (R, lstO [] k) :: rest) → Q (.int (Int.fmod big top) z) { s with heap := h', toks := tk' }) :
    wpAny (model prog w) (ktrTop dp un gd cn cs L a ccd cl outer) (call (.ref 394) [.ref S, .int top zt]) Q E s := by
  k_steps
  all_goals exact ret _ _ _ _ (by k_asm) (cb_drop (by k_asm) (by k_allIn))
theorem take_mix {S R : Addr} {mixed top : Int} {t0 t1 zt : Tok} {n k : Nat} {rest : Led} (B : Below A₀ base outer h₀) (F : Fr h₀ L s.heap m) (X : (hd.heap_39 w.params).In h₀) (N : News h₀ L s.heap ((S, lstO [.int 0 t0, .int mixed t1, .ref R] n) :: (R, lstO [] k) :: rest)) (T : Top p loose mean mg mb h₀) (hk : cs.kind = .function)
   (hdp : dp + 1 < recursionLimit) (hu : un + 100 < cLine) (hne : S ≠ R) (hne' : R ≠ S) (hr1 : ∀ p ∈ rest, p.1 ≠ S) (hr2 : ∀ p ∈ rest, p.1 ≠ R) (h0 : 0 < top) (h1 : top < 1000000) (hb : 0 ≤ mixed) (hb2 : mixed < 2147483647)
   (ret : ∀ h' tk' z z2 v, Fr h₀ L h' m → News h₀ L h' ((S, lstO [.int 0 t0, .int (Int.fmod (mixed * 39373 + 7) 2147483647) z2, .ref R] n) :: (R, lstO [] k) :: rest) → Q (.int (Int.fmod v top) z) { s with heap := h', toks := tk' }) :
    wpAny (model prog w) (ktrTop dp un gd cn cs L a ccd cl outer) (call (.ref 394) [.ref S, .int top zt]) Q E s := by
  k_steps
  all_goals exact ret _ _ _ _ _ (by k_asm) (cb_drop (by k_asm) (by k_allIn))
end

-- PR: an item of a list of refs; a slice assignment
theorem start_PR : True := by
  w_top off
  trivial
section
variable {prog : Program} {w : World} {A : Around} {E : Value → Shared → Prop} {s : Shared} {h₀ : Heap} {L : Addr} {m : Str → Option Value} {led led' : Led}
theorem setItem_slice {l sl ml : Addr} {vs ms : List Value} {n : Nat} {b e : Int} {tb te : Tok} {Q : Unit → Shared → Prop} (hlo : s.heap.get? l = some (lstO vs n)) (hs : s.heap.IsSliceOf sl (.int b tb) (.int e te) .none) (hm : s.heap.IsList ml ms.toArray) (hne : l ≠ ml)
    (h0 : 0 ≤ b) (h1 : b ≤ e) (h2 : e ≤ vs.length) (h3 : e - b = ms.length) (hsz : vs.length + ms.length ≤ sizeLine)
    (h : ∀ h', h'.get? l = some (lstO (vs.take b.toNat ++ ms ++ vs.drop e.toNat) n) → Heap.SameBut l s.heap h' → Q () { s with heap := h' }) : wpAny (model prog w) A (setItem (.ref l) (.ref sl) (.ref ml)) Q E s := by
  have hl : s.heap.IsList l vs.toArray := ⟨_, hlo, rfl, n, rfl⟩
  have ho := hlo
  have hd : (lstO vs n).data = .seq vs.toArray n := rfl
  obtain ⟨om, hom, hcm, nm, hdm⟩ := id hm
  obtain ⟨os, hos, hcs, hds⟩ := id hs
  have hTs : s.TypeIs (.ref sl) "slice" := ⟨os, hos, hcs⟩
  have hTm : s.TypeIs (.ref ml) "list" := ⟨om, hom, hcm⟩
  unfold setItem
  try with_reducible refine wpAny_holding ?_
  first | refine wpAny_bind (wpAny_pure ?_) | skip
  refine wpAny_bind (wpAny_sequenceKey hl.typeIs (by decide) ?_)
  refine wpAny_bind (wpAny_callSpecial?_slot (name := Str.ofString "__setitem__") hl.typeIs slot_list_setitem
    (wpAny_call_entry slot_list_setitem hl.typeIs entry_list_setitem ?_ (args_list_setitem _ _ _)))
  show wpAny _ _ (Builtin.List.listSubscript? (.ref sl) >>= _) _ _ s
  refine wpAny_bind ?_
  · unfold Builtin.List.listSubscript?
    refine wpAny_bind (wpAny_specialOf hTs slice_no_index ?_)
    simp only [Option.isNone_none, if_true]
    refine wpAny_pure ?_
    show wpAny _ _ (typeOf (.ref sl) >>= _) _ _ s
    refine wpAny_bind (wpAny_typeOf hTs ?_)
    rw [if_neg (by decide)]
    rw [listSliceParts_eq]
    refine wpAny_bind (wpAny_bind (wpAny_field hos hds (x := .none) rfl (wpAny_bind (wpAny_listPart .none ?_))))
    rw [if_neg (by simp [rawPart, rawInt])]
    refine wpAny_bind (wpAny_field hos hds (x := .int b tb) rfl (wpAny_bind (wpAny_listPart (.int _ _) ?_)))
    refine wpAny_bind (wpAny_field hos hds (x := .int e te) rfl (wpAny_bind (wpAny_listPart (.int _ _) (wpAny_pure ?_))))
    rw [if_neg (by simp [Builtin.List.listSameRef, hne])]
    refine wpAny_bind (m := Builtin.List.listAllItems (.ref ml) _) ?_
    unfold Builtin.List.listAllItems
    refine wpAny_bind (wpAny_typeOf hTm ?_)
    rw [if_pos (by decide)]
    refine listItems_at hom hdm ?_
    refine wpAny_bind (listItems_at ho hd ?_)
    refine wpAny_bind (wpAny_of_eq (sliceIndices_raw (some b) (some e) none vs.toArray.size (by simp)) ?_)
    rw [kms_bounds]
    have k1 : kms_lo (some b) vs.toArray.size = b.toNat := by
      simp only [kms_lo, List.size_toArray]
      rw [if_neg (by omega)]
      omega
    have k2 : kms_hi (some e) vs.toArray.size = e.toNat := by
      simp only [kms_hi, List.size_toArray]
      rw [if_neg (by omega)]
      omega
    rw [k1, k2]
    rw [if_pos (by rfl)]
    refine wpAny_bind (wpAny_rule ?_)
    rw [if_neg (by simp [Builtin.List.listTooLong]; exact hsz)]
    have ef : (fun xs : Array Value => xs.extract 0 (((b.toNat : Nat) : Int), ((e.toNat : Nat) : Int), (1 : Int)).fst.toNat ++ ms.toArray ++ xs.extract (max (((b.toNat : Nat) : Int), ((e.toNat : Nat) : Int), (1 : Int)).fst (((b.toNat : Nat) : Int), ((e.toNat : Nat) : Int), (1 : Int)).2.fst).toNat) vs.toArray = (vs.take b.toNat ++ ms ++ vs.drop e.toNat).toArray := by
      apply Array.toList_inj.mp
      dsimp only
      have em : (max ((b.toNat : Nat) : Int) ((e.toNat : Nat) : Int)).toNat = e.toNat := by omega
      rw [em]
      have e1 : (max b 0).toNat = b.toNat := by omega
      have e2 : List.take (vs.length - e.toNat) (List.drop e.toNat vs) = List.drop e.toNat vs := List.take_of_length_le (by rw [List.length_drop]; exact Nat.le_refl _)
      simp [e1, e2]
    have es : (vs.take b.toNat ++ ms ++ vs.drop e.toNat).length = vs.length := by
      simp only [List.length_append, List.length_take, List.length_drop]
      omega
    refine wpAny_bind (listUpdate_at ho hd ?_ ?_ ?_)
    · refine wpAny_bind (wpAny_letGo (wpAny_pure ⟨_, rfl, wpAny_pure (h _ ?_ (Heap.SameBut.update ..))⟩))
      rw [Heap.get?_update_self _ ho rfl]
      show some (({ cls := .type "list", data := .seq _ _ } : Obj)) = _
      rw [ef]
      rw [List.size_toArray, List.size_toArray, es]
      simp
    · rw [List.size_toArray]; omega
    · refine Nat.le_trans (Nat.le_of_eq (congrArg Array.size ef)) ?_
      rw [List.size_toArray, es]; omega
end
section
variable {prog : Program} {w : World} {A : Around} {E : Value → Shared → Prop} {s : Shared} {h₀ : Heap} {L : Addr} {m : Str → Option Value} {led led' : Led}
theorem setItem_sliceU {l sl ml : Addr} {vs ms : List Value} {n k : Nat} {b e : Int} {tb te : Tok} {Q : Unit → Shared → Prop} (F : Fr h₀ L s.heap m) (N : News h₀ L s.heap led) (U : Upd l (lstO vs n) (lstO (vs.take b.toNat ++ ms ++ vs.drop e.toNat) n) led led') (hm : (ml, lstO ms k) ∈ led) (hne : l ≠ ml)
    (hs : s.heap.IsSliceOf sl (.int b tb) (.int e te) .none) (h0 : 0 ≤ b) (h1 : b ≤ e) (h2 : e ≤ vs.length) (h3 : e - b = ms.length) (hsz : vs.length + ms.length ≤ sizeLine)
    (h : ∀ h', Fr h₀ L h' m → News h₀ L h' led' → Q () { s with heap := h' }) : wpAny (model prog w) A (setItem (.ref l) (.ref sl) (.ref ml)) Q E s := by
  obtain ⟨pre, post, rfl, rfl, a, b⟩ := U.split
  have z := N (l, lstO vs n) (List.mem_append.mpr (.inr (.head _)))
  exact setItem_slice z.1 hs ⟨_, (N _ hm).1, rfl, k, rfl⟩ hne h0 h1 h2 h3 hsz fun h' ho hb => h h' (F.change hb z.2.1 z.2.2) (news_set N a b hb ho)
end
section
variable {prog : Program} {w : World} {A : Around} {E : Value → Shared → Prop} {s : Shared} {h₀ : Heap} {L : Addr} {m : Str → Option Value} {led : Led}
theorem item_ref {value slice : PySem.Expr} {l : Addr} {vs : List Value} {n : Nat} {k : Int} {u : Tok} {v : Value} {Q : Value → Shared → Prop} (N : News h₀ L s.heap led) (hm : (l, lstO vs n) ∈ led) (h0 : 0 ≤ k) (h1 : k < 2 ^ 63) (hx : vs[k.toNat]? = some v) (h : Q v s)
    (hs : subscripted slice false (.ref l) (.int k u) = operate [.ref l, .int k u] (getItem (.ref l) (.int k u))) :
    wpAny (model prog w) A (subscriptTail value slice (.ref l) (.int k u)) Q E s :=
  item_litK (News.isList N hm) h0 h1 hx h hs
end
local macro_rules | `(tactic| walk_at "subscriptTail") => `(tactic| (k_here; (with_reducible show wpAny _ _ (subscriptTail _ _ (Value.ref _) (Value.int _ _)) _ _ _); k_dflt (refine' item_ref ?N ?m ?a ?b ?x ?_ ?s; (case N => k_asm); (case m => k_mem); (case x => assumption); (case a => omega); (case b => omega); (case s => with_unfolding_all rfl); k_whole)))
theorem line_31 : True := by
  k_with "subscriptTail Subscript Slice ref ref" => (k_here; (with_reducible show wpAny _ _ (subscriptTail _ (PySem.Expr.Slice _ _ none _) (Value.ref _) (Value.ref _)) _ _ _); k_dflt (refine' kmk_slice_ints (by k_asm) (by k_asm) (by kmk_list) (by kmk_part) (by kmk_part) (by l_ints) (by kmk_nums) (by kmk_len) ?_ (by with_unfolding_all rfl) (by kmk_pure) (by kmk_size)); intro D'q ws'q h'q F'q N'q l1'q hI'q hC'q hL'q; (try simp only [Int.reduceNeg, Int.neg_neg, Int.reduceToNat] at hI'q hC'q hL'q); (try k_lt l1'q); (try k_sweep))
  trivial
section
variable {prog : Program} {w : World} {A : Around} {E : Value → Shared → Prop} {s : Shared} {h₀ : Heap} {L : Addr} {m : Str → Option Value} {led led' : Led}
theorem setItem_sliceP {l ml : Addr} {vs ms : List Value} {ns is : List Int} {n k : Nat} {b e : Int} {tb te : Tok} {Q : Unit → Shared → Prop} (F : Fr h₀ L s.heap m) (N : News h₀ L s.heap led) (U : Upd l (lstO vs n) (lstO (vs.take b.toNat ++ ms ++ vs.drop e.toNat) n) led led') (hm : (ml, lstO ms k) ∈ led) (hne : l ≠ ml)
    (hv : IntsAre vs ns) (hi : IntsAre ms is) (h0 : 0 ≤ b) (h1 : b ≤ e) (h2 : e ≤ ns.length) (h3 : e - b = is.length) (hsz : ns.length < 100000)
    (h : ∀ h', Fr h₀ L h' m → News h₀ L h' led' → IntsAre (vs.take b.toNat ++ ms ++ vs.drop e.toNat) (ns.take b.toNat ++ is ++ ns.drop e.toNat) → Q () { s with heap := h' }) : wpAny (model prog w) A (setItem (.ref l) (.ref s.heap.objs.size) (.ref ml)) Q E { s with heap := s.heap.push { cls := .type "slice", data := .fields #[.int b tb, .int e te, .none] } } :=
  setItem_sliceU (s := { s with heap := s.heap.push { cls := .type "slice", data := .fields #[.int b tb, .int e te, .none] } }) (F.push _) (N.grown fun _ _ q => Heap.get?_push_of_some _ q) U hm hne (Heap.IsSliceOf.new ..) h0 h1 (by rw [hv.length]; exact h2) (by rw [hi.length]; exact h3) (by rw [hv.length, hi.length, sizeLine_eq]; omega)
    fun h' F' N' => h h' F' N' (((hv.take _).append hi).append (hv.drop _))
end
local macro_rules | `(tactic| walk_at "setItem ref ref ref") => `(tactic| (k_here; k_dflt (refine' setItem_sliceP ?F ?N ?U ?m ?e ?v ?i ?a ?b ?c ?d ?z ?_); (case F => k_dflt k_asm); (case N => k_dflt k_asm); (case m => k_dflt k_mem); (case U => k_dflt k_upd); (case v => assumption); (case i => assumption); (case e => first | assumption | k_ne); (case a => omega); (case b => first | omega | (split <;> omega)); (case c => first | omega | (split <;> omega)); (case d => first | omega | (simp only [List.length_take, List.length_drop]; first | omega | (split <;> omega))); (case z => first | assumption | omega); intro h' F' N' hI'; (try k_sweep)))

-- PS: _law_copy; _law_put in place
theorem start_PS : True := by
  w_top off
  trivial
theorem min_cut {b e : Int} {n : Nat} (hb : 0 ≤ b) (he : 0 ≤ e) (h : b + e ≤ n) : min (b + e).toNat n - b.toNat = e.toNat := by
  obtain ⟨b, rfl⟩ := Int.eq_ofNat_of_zero_le hb
  obtain ⟨e, rfl⟩ := Int.eq_ofNat_of_zero_le he
  have h1 : b + e ≤ n := by omega
  have h2 : ((b : Int) + (e : Int)).toNat = b + e := by rw [← Int.natCast_add, Int.toNat_natCast]
  rw [h2, Int.toNat_natCast, Int.toNat_natCast, Nat.min_eq_left h1, Nat.add_sub_cancel_left]
section
variable {prog : Program} {w : World} {dp un : Nat} {gd : Option (List Code)} {cn : Str} {cs : Scope} {a : Addr} {ccd : Value} {cl : List (Str × Addr)} {outer : List Env} {A₀ : Around} {base h₀ : Heap} {L : Addr} {m : Str → Option Value} {led : Led} {s : Shared} {Q E : Value → Shared → Prop} {p : Program} {loose : List Str} {mean : ExcName → Option Value} {mg mb : Str → Option Value}
theorem law_copy_pos {r1 r2 RA wa wb : Addr} {i j b1 e1 x1 b2 e2 x2 : Int} {us1 us2 : List Value} {ns1 ns2 : List Int} {n1 n2 nR : Nat} {rvs : List Value} {y1 y2 y3 y4 y5 y6 y7 y8 : Tok} {rest : Led} (B : Below A₀ base outer h₀) (F : Fr h₀ L s.heap m) (X : (hd.heap_39 w.params).In h₀) (N : News h₀ L s.heap ((r1, lstO us1 n1) :: rest)) (T : Top p loose mean mg mb h₀) (hk : cs.kind = .function)
   (hdp : dp + 2 < recursionLimit) (hu : un + 100 < cLine) (hr : ∀ p ∈ rest, p.1 ≠ r1) (hwa : (wa, tupO [.int i y1, .int b1 y2, .int e1 y3, .int x1 y4]) ∈ rest) (hwb : (wb, tupO [.int j y5, .int b2 y6, .int e2 y7, .int x2 y8]) ∈ rest)
   (hRA : (RA, lstO rvs nR) ∈ rest) (hi1 : rvs[i.toNat]? = some (.ref r1)) (hj1 : rvs[j.toNat]? = some (.ref r2)) (hi : 0 ≤ i) (hj : 0 ≤ j) (hi9 : i < 100000) (hj9 : j < 100000) (hr2 : (r2, lstO us2 n2) ∈ (r1, lstO us1 n1) :: rest) (hu1 : IntsAre us1 ns1) (hu2 : IntsAre us2 ns2)
   (hb1 : 0 ≤ b1) (hb2 : 0 ≤ b2) (hl1 : 0 < e1) (hl2 : 0 < e2) (hs1 : b1 + e1 ≤ ns1.length) (hs2 : b2 + e2 ≤ ns2.length) (hs3 : ns1.length < 100000) (hs4 : ns2.length < 100000)
   (ret : ∀ h' tk' z us', Fr h₀ L h' m → News h₀ L h' ((r1, lstO us' n1) :: rest) → IntsAre us' (ns1.take b1.toNat ++ (ns2.drop b2.toNat).take (min e1 e2).toNat ++ ns1.drop (b1 + min e1 e2).toNat) → Q (.int (min e1 e2) z) { s with heap := h', toks := tk' }) :
    wpAny (model prog w) (ktrTop dp un gd cn cs L a ccd cl outer) (call (.ref 429) [.ref wa, .ref wb, .ref RA]) Q E s := by
  have hmn : 0 < if e2 < e1 then e2 else e1 := by split <;> omega
  k_steps
  (rename IntsAre _ (_ ++ _ ++ _) => I9)
  (rename News _ _ _ _ => N9)
  simp only [min_if] at I9 N9 ⊢
  rw [min_cut hb2 (by omega) (by omega)] at I9
  exact ret _ _ _ _ (by k_asm) (cb_drop (by k_asm) (by k_allIn)) I9
theorem law_copy_zero {RA wa wb : Addr} {v1 v2 : Value} {b1 e1 x1 b2 e2 x2 : Int} {y1 y2 y3 y4 y5 y6 : Tok} (B : Below A₀ base outer h₀) (F : Fr h₀ L s.heap m) (X : (hd.heap_39 w.params).In h₀) (N : News h₀ L s.heap led) (T : Top p loose mean mg mb h₀) (hk : cs.kind = .function)
   (hdp : dp + 2 < recursionLimit) (hu : un + 100 < cLine) (hwa : (wa, tupO [v1, .int b1 y2, .int e1 y3, .int x1 y4]) ∈ led) (hwb : (wb, tupO [v2, .int b2 y1, .int e2 y5, .int x2 y6]) ∈ led) (hz : min e1 e2 ≤ 0)
   (ret : ∀ h' tk' z, Fr h₀ L h' m → News h₀ L h' led → Q (.int (min e1 e2) z) { s with heap := h', toks := tk' }) :
    wpAny (model prog w) (ktrTop dp un gd cn cs L a ccd cl outer) (call (.ref 429) [.ref wa, .ref wb, .ref RA]) Q E s := by
  rw [← min_if] at hz ret
  k_steps
  all_goals first | (exfalso; omega) | exact ret _ _ _ (by k_asm) (cb_drop (by k_asm) (by k_allIn))
theorem law_put_nil {RA wa ml : Addr} {v1 : Value} {b1 e1 x1 : Int} {k : Nat} {y2 y3 y4 : Tok} (B : Below A₀ base outer h₀) (F : Fr h₀ L s.heap m) (X : (hd.heap_39 w.params).In h₀) (N : News h₀ L s.heap led) (T : Top p loose mean mg mb h₀) (hk : cs.kind = .function)
   (hdp : dp + 2 < recursionLimit) (hu : un + 100 < cLine) (hwa : (wa, tupO [v1, .int b1 y2, .int e1 y3, .int x1 y4]) ∈ led) (hm : (ml, lstO [] k) ∈ led)
   (ret : ∀ h' tk', Fr h₀ L h' m → News h₀ L h' led → Q (.ref wa) { s with heap := h', toks := tk' }) :
    wpAny (model prog w) (ktrTop dp un gd cn cs L a ccd cl outer) (call (.ref 422) [.ref wa, .ref RA, .ref ml]) Q E s := by
  k_steps
  all_goals exact ret _ _ (by k_asm) (cb_drop (by k_asm) (by k_allIn))
theorem law_put_room {r1 RA wa ml : Addr} {i b1 e1 x1 : Int} {us1 mvs : List Value} {ns1 ms : List Int} {n1 nR k : Nat} {rvs : List Value} {y1 y2 y3 y4 : Tok} {rest : Led} (B : Below A₀ base outer h₀) (F : Fr h₀ L s.heap m) (X : (hd.heap_39 w.params).In h₀) (N : News h₀ L s.heap ((r1, lstO us1 n1) :: rest)) (T : Top p loose mean mg mb h₀) (hk : cs.kind = .function)
   (hdp : dp + 2 < recursionLimit) (hu : un + 100 < cLine) (hr : ∀ p ∈ rest, p.1 ≠ r1) (hwa : (wa, tupO [.int i y1, .int b1 y2, .int e1 y3, .int x1 y4]) ∈ rest)
   (hRA : (RA, lstO rvs nR) ∈ rest) (hi1 : rvs[i.toNat]? = some (.ref r1)) (hi : 0 ≤ i) (hi9 : i < 100000) (hu1 : IntsAre us1 ns1) (hm : (ml, lstO mvs k) ∈ rest) (hmr : r1 ≠ ml) (hms : IntsAre mvs ms) (hnil : ms ≠ []) (hlen : ms.length < 1000)
   (hb1 : 0 ≤ b1) (hl1 : 0 ≤ e1) (hfit : e1 + ms.length ≤ x1) (hs1 : b1 + x1 ≤ ns1.length) (hs3 : ns1.length < 100000)
   (ret : ∀ h' tk' t us' z1 z2 z3 z4, Fr h₀ L h' m → News h₀ L h' ((t, tupO [.int i z1, .int b1 z2, .int (e1 + ms.length) z3, .int x1 z4]) :: (r1, lstO us' n1) :: rest) → IntsAre us' (ns1.take (b1 + e1).toNat ++ ms ++ ns1.drop (b1 + (e1 + ms.length)).toNat) → Q (.ref t) { s with heap := h', toks := tk' }) :
    wpAny (model prog w) (ktrTop dp un gd cn cs L a ccd cl outer) (call (.ref 422) [.ref wa, .ref RA, .ref ml]) Q E s := by
  k_steps
  (rename IntsAre _ (_ ++ _ ++ _) => I9)
  exact ret _ _ _ _ _ _ _ _ (by k_asm) (cb_drop (by k_asm) (List.forall_mem_cons.mpr ⟨.head _, List.forall_mem_cons.mpr ⟨.tail _ (.tail _ (.head _)), fun _ h => .tail _ (.tail _ (.tail _ h))⟩⟩)) I9
end

-- PT: _law_put that grows
theorem start_PT : True := by
  w_top off
  trivial
theorem line_33 : True := by
  k_with "call ref" => (k_here; (with_reducible show wpAny _ _ (call (Value.ref 408) [_, _]) _ _ _); k_dflt (refine' law_room_spec (by k_asm) (by k_asm) (by k_asm) (by k_asm) (by k_asm) (by first | exact rfl | assumption) (by k_room) (by k_units) (by omega) (by omega) (by omega) ?_; k_whole); intro h'q tk'q z'q F'q N'q; (try k_sweep); (try k_fold))
  trivial
section
variable {prog : Program} {w : World} {A : Around} {E : Value → Shared → Prop} {s : Shared} {h₀ : Heap} {L : Addr} {m : Str → Option Value} {led : Led}
theorem len_refs {l : Addr} {vs : List Value} {n : Nat} {Q : Value → Shared → Prop} (N : News h₀ L s.heap led) (hm : (l, lstO vs n) ∈ led) (hf : vs.length < 2 ^ 24)
    (h : ∀ z tk, Q (.int vs.length z) { s with toks := tk }) : wpAny (model prog w) A (call (.builtin "len") [.ref l]) Q E s := by
  have e : (vs.toArray.size : Int) = vs.length := by rw [List.size_toArray]
  refine len_list (News.isList N hm) (by rw [e]; omega) ?_
  rw [e]
  exact h _ _
theorem flat_one (k : Nat) (x : Int) : (List.replicate k [x]).flatten = List.replicate k x := by
  induction k with
  | zero => rfl
  | succ k ih => rw [List.replicate_succ, List.flatten_cons, ih, List.replicate_succ]; rfl
theorem take_min (l : List Int) (b e : Int) (hb : 0 ≤ b) (he : 0 ≤ e) (h : b + e ≤ l.length) : (l.drop b.toNat).take (min (b + e).toNat l.length - b.toNat) = (l.drop b.toNat).take e.toNat := by
  rw [min_cut hb he h]
end
theorem line_34 : True := by
  k_with "call builtin:len" => (k_here; (with_reducible show wpAny _ _ (call (Value.builtin "len") [Value.ref _]) _ _ _); k_dflt (first | (refine' len_ints (by k_asm) (by k_mem) (by assumption) (by first | assumption | omega) ?_; k_whole) | (refine' len_refs (by k_asm) (by k_mem) (by first | assumption | omega | (rw [List.length_append, List.length_singleton]; omega)) ?_; k_whole)); intro _ _; (try k_fold))
  trivial
section
variable {prog : Program} {w : World} {dp un : Nat} {gd : Option (List Code)} {cn : Str} {cs : Scope} {a : Addr} {ccd : Value} {cl : List (Str × Addr)} {outer : List Env} {A₀ : Around} {base h₀ : Heap} {L : Addr} {m : Str → Option Value} {led : Led} {s : Shared} {Q E : Value → Shared → Prop} {p : Program} {loose : List Str} {mean : ExcName → Option Value} {mg mb : Str → Option Value}
theorem law_put_grow_none {RA wa ml : Addr} {b1 e1 x1 : Int} {mvs : List Value} {ms : List Int} {nR k : Nat} {rvs : List Value} {y1 y2 y3 y4 : Tok} {rest : Led} (B : Below A₀ base outer h₀) (F : Fr h₀ L s.heap m) (X : (hd.heap_39 w.params).In h₀) (N : News h₀ L s.heap ((RA, lstO rvs nR) :: rest)) (T : Top p loose mean mg mb h₀) (hk : cs.kind = .function)
   (hdp : dp + 3 < recursionLimit) (hu : un + 200 < cLine) (hr : ∀ p ∈ rest, p.1 ≠ RA) (hwa : (wa, tupO [.none, .int b1 y2, .int e1 y3, .int x1 y4]) ∈ rest)
   (hm : (ml, lstO mvs k) ∈ rest) (hms : IntsAre mvs ms) (hnil : ms ≠ []) (hlen : ms.length < 1000) (hrl : rvs.length < 1000)
   (hb1 : b1 = 0) (hl1 : e1 = 0) (hx1 : x1 = 0)
   (ret : ∀ h' tk' t d us' n' n2 z1 z2 z3 z4, Fr h₀ L h' m → News h₀ L h' ((t, tupO [.int rvs.length z1, .int 0 z2, .int (e1 + ms.length) z3, .int (grow (e1 + ms.length) x1) z4]) :: (d, lstO us' n') :: (RA, lstO (rvs ++ [.ref d]) n2) :: rest) → IntsAre us' (ms ++ List.replicate (grow (e1 + ms.length) x1 - (e1 + ms.length)).toNat 0) → (∀ p ∈ (RA, lstO rvs nR) :: rest, p.1 < d) → Q (.ref t) { s with heap := h', toks := tk' }) :
    wpAny (model prog w) (ktrTop dp un gd cn cs L a ccd cl outer) (call (.ref 422) [.ref wa, .ref RA, .ref ml]) Q E s := by
  subst hb1 hl1 hx1
  obtain ⟨gb1, gb2⟩ : (0 + ms.length : Int) ≤ grow (0 + ms.length) 0 ∧ grow (0 + ms.length) 0 < 4000 := by
    have := grow_bound (x := 0 + ms.length) (a := 0) (by omega)
    omega
  have gpos : 0 < ms.length := by
    cases ms with
    | nil => exact absurd rfl hnil
    | cons x r => simp
  k_steps
  (rename IntsAre _ (_ ++ _ ++ _) => I9)
  rw [flat_one, List.nil_append] at I9
  (rename News _ _ _ _ => N9)
  simp only [List.length_append, List.length_singleton] at N9
  (repeat (rename _ ∧ _ => hc; obtain ⟨_, _⟩ := hc))
  rw [show ((rvs.length + 1 : Nat) : Int) - 1 = (rvs.length : Int) by omega] at N9
  refine' ret _ _ _ _ _ _ _ _ _ _ _ (by k_asm) ?n I9 ?l
  case n => exact cb_drop (by assumption) (List.forall_mem_cons.mpr ⟨.head _, List.forall_mem_cons.mpr ⟨.tail _ (.head _), by k_allIn⟩⟩)
  case l =>
    intro p hp
    rcases List.mem_cons.mp hp with e9 | hp
    · subst e9; assumption
    · exact allLt_to (by assumption) p hp
theorem law_put_grow_some {r1 RA wa ml : Addr} {i b1 e1 x1 : Int} {us1 mvs : List Value} {ns1 ms : List Int} {n1 nR k : Nat} {rvs : List Value} {y1 y2 y3 y4 : Tok} {rest : Led} (B : Below A₀ base outer h₀) (F : Fr h₀ L s.heap m) (X : (hd.heap_39 w.params).In h₀) (N : News h₀ L s.heap ((RA, lstO rvs nR) :: rest)) (T : Top p loose mean mg mb h₀) (hk : cs.kind = .function)
   (hdp : dp + 3 < recursionLimit) (hu : un + 200 < cLine) (hr : ∀ p ∈ rest, p.1 ≠ RA) (hwa : (wa, tupO [.int i y1, .int b1 y2, .int e1 y3, .int x1 y4]) ∈ rest)
   (hr1 : (r1, lstO us1 n1) ∈ rest) (hi1 : rvs[i.toNat]? = some (.ref r1)) (hi : 0 ≤ i) (hi9 : i < 100000) (hu1 : IntsAre us1 ns1) (hm : (ml, lstO mvs k) ∈ rest) (hms : IntsAre mvs ms) (hnil : ms ≠ []) (hlen : e1 + ms.length < 1000) (hrl : rvs.length < 1000)
   (hb1 : 0 ≤ b1) (hl1 : 0 ≤ e1) (hx1 : 0 ≤ x1) (hx9 : x1 < 1000) (hex : e1 ≤ x1) (hfit : ¬ e1 + ms.length ≤ x1) (hs1 : b1 + x1 ≤ ns1.length) (hs3 : ns1.length < 100000)
   (ret : ∀ h' tk' t d us' n' n2 z1 z2 z3 z4, Fr h₀ L h' m → News h₀ L h' ((t, tupO [.int rvs.length z1, .int 0 z2, .int (e1 + ms.length) z3, .int (grow (e1 + ms.length) x1) z4]) :: (d, lstO us' n') :: (RA, lstO (rvs ++ [.ref d]) n2) :: rest) → IntsAre us' (((ns1.drop b1.toNat).take e1.toNat ++ ms) ++ List.replicate (grow (e1 + ms.length) x1 - (e1 + ms.length)).toNat 0) → (∀ p ∈ (RA, lstO rvs nR) :: rest, p.1 < d) → Q (.ref t) { s with heap := h', toks := tk' }) :
    wpAny (model prog w) (ktrTop dp un gd cn cs L a ccd cl outer) (call (.ref 422) [.ref wa, .ref RA, .ref ml]) Q E s := by
  obtain ⟨gb1, gb2⟩ : e1 + ms.length ≤ grow (e1 + ms.length) x1 ∧ grow (e1 + ms.length) x1 < 4000 := by
    have := grow_bound (x := e1 + ms.length) (a := x1) (by omega)
    clear hs1 hs3 hb1
    omega
  have gpos : 0 < ms.length := by
    cases ms with
    | nil => exact absurd rfl hnil
    | cons x r => simp
  k_steps
  (rename IntsAre _ (_ ++ _ ++ _) => I9)
  rw [flat_one, take_min _ _ _ hb1 hl1 (by omega)] at I9
  (rename News _ _ _ _ => N9)
  simp only [List.length_append, List.length_singleton] at N9
  (repeat (rename _ ∧ _ => hc; obtain ⟨_, _⟩ := hc))
  rw [show ((rvs.length + 1 : Nat) : Int) - 1 = (rvs.length : Int) by omega] at N9
  refine' ret _ _ _ _ _ _ _ _ _ _ _ (by k_asm) ?n I9 ?l
  case n => exact cb_drop (by assumption) (List.forall_mem_cons.mpr ⟨.head _, List.forall_mem_cons.mpr ⟨.tail _ (.head _), by k_allIn⟩⟩)
  case l =>
    intro p hp
    rcases List.mem_cons.mp hp with e9 | hp
    · subst e9; assumption
    · exact allLt_to (by assumption) p hp
end

-- PU: _law_shown
theorem start_PU : True := by
  w_top off
  trivial
section
variable {prog : Program} {w : World} {dp un : Nat} {gd : Option (List Code)} {cn : Str} {cs : Scope} {a : Addr} {ccd : Value} {cl : List (Str × Addr)} {outer : List Env} {A₀ : Around} {base h₀ : Heap} {L : Addr} {m : Str → Option Value} {led : Led} {s : Shared} {Q E : Value → Shared → Prop} {p : Program} {loose : List Str} {mean : ExcName → Option Value} {mg mb : Str → Option Value}
theorem shown_none {ρ : Addr → Nat} {H HD KD RA wt : Addr} {cells : List Cell} {v : Value} {b l r : Int} {y2 y3 y4 : Tok} (B : Below A₀ base outer h₀) (F : Fr h₀ L s.heap m) (X : (hd.heap_39 w.params).In h₀) (N : News h₀ L s.heap led) (T : Top p loose mean mg mb h₀) (hk : cs.kind = .function)
   (hdp : dp + 9 < recursionLimit) (hu : un + 400 < cLine) (S : HeapSt prog w led ρ H HD KD cells) (hv : ToldAt led v ⟨none, b, l, r⟩) (hW : WinOk cells ⟨none, b, l, r⟩) (hw : (wt, tupO [.none, .int b y2, .int l y3, .int r y4]) ∈ led)
   (ret : ∀ h' tk', Fr h₀ L h' m → News h₀ L h' led → Q (.bool true) { s with heap := h', toks := tk' }) :
    wpAny (model prog w) (ktrTop dp un gd cn cs L a ccd cl outer) (call (.ref 415) [.ref H, v, .ref wt, .ref RA]) Q E s := by
  k_steps
  rw [decide_eq_true (show seg cells ⟨none, b, l, r⟩ = [] from rfl)]
  exact ret _ _ (by k_asm) (cb_drop (by k_asm) (by k_allIn))
theorem shown_some {ρ : Addr → Nat} {H HD KD RA r1 wt : Addr} {cells : List Cell} {v : Value} {i b l r : Int} {us1 rvs : List Value} {ns1 : List Int} {n1 nR : Nat} {y1 y2 y3 y4 : Tok} (B : Below A₀ base outer h₀) (F : Fr h₀ L s.heap m) (X : (hd.heap_39 w.params).In h₀) (N : News h₀ L s.heap led) (T : Top p loose mean mg mb h₀) (hk : cs.kind = .function)
   (hdp : dp + 9 < recursionLimit) (hu : un + 400 < cLine) (S : HeapSt prog w led ρ H HD KD cells) (hv : ToldAt led v ⟨some i, b, l, r⟩) (hW : WinOk cells ⟨some i, b, l, r⟩) (hw : (wt, tupO [.int i y1, .int b y2, .int l y3, .int r y4]) ∈ led)
   (hRA : (RA, lstO rvs nR) ∈ led) (hi1 : rvs[i.toNat]? = some (.ref r1)) (hr1 : (r1, lstO us1 n1) ∈ led) (hu1 : IntsAre us1 ns1) (hi : 0 ≤ i) (hi9 : i < 100000) (hb1 : 0 ≤ b) (hl1 : 0 ≤ l) (hs1 : b + l ≤ ns1.length) (hs3 : ns1.length < 100000)
   (hseg : seg cells ⟨some i, b, l, r⟩ = (ns1.drop b.toNat).take l.toNat)
   (ret : ∀ h' tk', Fr h₀ L h' m → News h₀ L h' led → Q (.bool true) { s with heap := h', toks := tk' }) :
    wpAny (model prog w) (ktrTop dp un gd cn cs L a ccd cl outer) (call (.ref 415) [.ref H, v, .ref wt, .ref RA]) Q E s := by
  k_steps
  rw [take_min _ _ _ hb1 hl1 hs1, decide_eq_true hseg]
  exact ret _ _ (by k_asm) (cb_drop (by k_asm) (by k_allIn))
end

-- PV: the states of the law's own rows, of its source and of its slices; what is kept from ledger to ledger
theorem start_PV : True := by
  w_top off
  trivial
theorem ovr_three : ∀ (ms ns : List Int) (b : Nat), b + ms.length ≤ ns.length → ovr ns b ms = ns.take b ++ ms ++ ns.drop (b + ms.length)
  | [], ns, b, _ => by simp [ovr]
  | x :: r, ns, b, h => by
    simp only [List.length_cons] at h ⊢
    show ovr (ns.set b x) (b + 1) r = _
    rw [ovr_three r (ns.set b x) (b + 1) (by rw [List.length_set]; omega)]
    have hb : b < ns.length := by omega
    have e1 : (ns.set b x).take (b + 1) = ns.take b ++ [x] := by
      rw [List.take_add_one, List.getElem?_set_self hb, List.take_set_of_le (Nat.le_refl b)]
      rfl
    have e2 : (ns.set b x).drop (b + 1 + r.length) = ns.drop (b + (r.length + 1)) := by
      rw [List.drop_set_of_lt (by omega)]
      congr 1; omega
    rw [e1, e2]
    simp
theorem set_getD (rows : List (List Int)) (i : Nat) : rows.set i (rows.getD i []) = rows := by
  apply List.ext_getElem?
  intro j
  by_cases e : i = j
  · subst e
    by_cases h : i < rows.length
    · rw [List.getElem?_set_self h, List.getD_eq_getElem?_getD, List.getElem?_eq_getElem h]; rfl
    · rw [List.getElem?_eq_none (by rw [List.length_set]; omega), List.getElem?_eq_none (by omega)]
  · rw [List.getElem?_set_ne e]
structure KeepT (led led' : Led) : Prop where
  k : ∀ p ∈ led, p.2.cls ≠ .type "list" → p.2.cls ≠ .type "dict" → p ∈ led'
  c : ∀ p ∈ led, (∃ v, p.2.data = .cell v) → p ∈ led'
structure KeepS (ds : List Addr) (led led' : Led) : Prop where
  k : KeepBut ds led led'
def KeepR (J : Nat → Prop) (ρ : Addr → Nat) (led led' : Led) : Prop := ∀ p ∈ led, ¬ J (ρ p.1) → p ∈ led'
theorem KeepT.tup {led led' : Led} {t : Addr} {vs : List Value} (h : KeepT led led') (hm : (t, tupO vs) ∈ led) : (t, tupO vs) ∈ led' := h.k _ hm (by simp) (by simp)
theorem KeepT.cell {led led' : Led} {a : Addr} {o : Obj} {v : Option Value} (h : KeepT led led') (hm : (a, o) ∈ led) (hd : o.data = .cell v) : (a, o) ∈ led' := h.c _ hm ⟨_, hd⟩
theorem KeepT.of {led led' : Led} (h : ∀ p ∈ led, p ∈ led') : KeepT led led' := ⟨fun p hp _ _ => h p hp, fun p hp _ => h p hp⟩
theorem KeepR.of {J : Nat → Prop} {ρ : Addr → Nat} {led led' : Led} (h : ∀ p ∈ led, p ∈ led') : KeepR J ρ led led' := fun p hp _ => h p hp
theorem KeepT.trans {a b c : Led} (h : KeepT a b) (k : KeepT b c) : KeepT a c := ⟨fun p hp h1 h2 => k.k p (h.k p hp h1 h2) h1 h2, fun p hp h1 => k.c p (h.c p hp h1) h1⟩
structure SrcSt (led : Led) (ρ : Addr → Nat) (S R : Addr) : Prop where
  s : ∃ big mixed t0 t1 n, (S, lstO [.int big t0, .int mixed t1, .ref R] n) ∈ led ∧ 0 ≤ big ∧ 0 ≤ mixed ∧ mixed < 2147483647
  r : ∃ rvs ris k, (R, lstO rvs k) ∈ led ∧ IntsAre rvs ris ∧ ris.length < 100
  rs : ρ S = 2
  rr : ρ R = 3
structure RowSt (led : Led) (ρ : Addr → Nat) (RA : Addr) (rs : List Addr) (rows : List (List Int)) : Prop where
  ra : ∃ n, (RA, lstO (rs.map Value.ref) n) ∈ led
  rr : ρ RA = 4
  len : rs.length = rows.length
  row : ∀ (i : Nat) (r : Addr), rs[i]? = some r → ∃ us n, (r, lstO us n) ∈ led ∧ IntsAre us (rows.getD i []) ∧ ρ r = 8 + 3 * i
def WinAt (led : Led) (wt : Addr) (W : Win) : Prop := ∃ z1 z2 z3 z4, (wt, tupO [rowV W.row z1, .int W.b z2, .int W.l z3, .int W.r z4]) ∈ led
def PairAt (led : Led) (p : Addr) (W : Win) : Prop := ∃ v wt, (p, tupO [v, .ref wt]) ∈ led ∧ ToldAt led v W ∧ WinAt led wt W
structure SomeSt (led : Led) (ρ : Addr → Nat) (SA : Addr) (ps : List Addr) (Ws : List Win) : Prop where
  sa : ∃ n, (SA, lstO (ps.map Value.ref) n) ∈ led
  rr : ρ SA = 5
  len : ps.length = Ws.length
  pair : ∀ (i : Nat) (p : Addr) (W : Win), ps[i]? = some p → Ws[i]? = some W → PairAt led p W
theorem WinAt.mono {led led' : Led} {wt : Addr} {W : Win} (h : WinAt led wt W) (k : ∀ t vs, (t, tupO vs) ∈ led → (t, tupO vs) ∈ led') : WinAt led' wt W := by
  obtain ⟨z1, z2, z3, z4, q⟩ := h
  exact ⟨z1, z2, z3, z4, k _ _ q⟩
theorem PairAt.mono {led led' : Led} {wt : Addr} {W : Win} (h : PairAt led wt W) (k : ∀ t vs, (t, tupO vs) ∈ led → (t, tupO vs) ∈ led') : PairAt led' wt W := by
  obtain ⟨v, wt, q1, q2, q3⟩ := h
  exact ⟨v, wt, k _ _ q1, q2.mono k, q3.mono k⟩
section
variable {prog : Program} {w : World} {led led' : Led} {ρ ρ' : Addr → Nat} {H HD KD S R RA SA : Addr} {cells : List Cell} {h₀ h : Heap} {L : Addr} {J : Nat → Prop}
theorem HeapSt.keep (T : HeapSt prog w led ρ H HD KD cells) (kT : KeepT led led') (kR : KeepR J ρ led led') (hρ : ∀ p ∈ led, ρ' p.1 = ρ p.1) (j0 : ¬ J 0) (j1 : ¬ J 1) (j6 : ∀ i : Nat, ¬ J (6 + 3 * i)) (j7 : ∀ i : Nat, ¬ J (7 + 3 * i)) : HeapSt prog w led' ρ' H HD KD cells := by
  obtain ⟨a, ⟨z1, z2, z3, z4, z5, z6, z7, b⟩, ⟨o, c1, c2⟩, d, e, f, g⟩ := T
  refine ⟨kT.k _ a (by simp) (by simp), ⟨z1, z2, z3, z4, z5, z6, z7, kR _ b (by rw [show ρ (HD, heapD w.params KD cells.length z1 z2 z3 z4 z5 z6 z7).1 = 0 from e]; exact j0)⟩, ⟨o, kR _ c1 (by rw [show ρ (KD, o).1 = 1 from f]; exact j1), c2⟩, d, (hρ _ b).trans e, (hρ _ c1).trans f, fun i c hc => ?_⟩
  obtain ⟨g1, ⟨y1, y2, y3, y4, y5, g2⟩, ⟨vs, n, g3, g4⟩, g5, g6, g7⟩ := g i c hc
  exact ⟨kT.k _ g1 (by simp) (by simp), ⟨y1, y2, y3, y4, y5, kR _ g2 (by rw [show ρ (c.dx, keptD w.params c.c y1 y2 y3 y4 y5).1 = _ from g5]; exact j6 i)⟩, ⟨vs, n, kR _ g3 (by rw [show ρ (c.c, lstO vs n).1 = _ from g6]; exact j7 i), g4⟩, (hρ _ g2).trans g5, (hρ _ g3).trans g6, g7⟩
theorem SrcSt.keep (T : SrcSt led ρ S R) (kR : KeepR J ρ led led') (hρ : ∀ p ∈ led, ρ' p.1 = ρ p.1) (j2 : ¬ J 2) (j3 : ¬ J 3) : SrcSt led' ρ' S R := by
  obtain ⟨⟨big, mixed, t0, t1, n, a, b⟩, ⟨rvs, ris, k, c, d⟩, e, f⟩ := T
  exact ⟨⟨big, mixed, t0, t1, n, kR _ a (by rw [show ρ (S, _).1 = 2 from e]; exact j2), b⟩, ⟨rvs, ris, k, kR _ c (by rw [show ρ (R, lstO rvs k).1 = 3 from f]; exact j3), d⟩, (hρ _ a).trans e, (hρ _ c).trans f⟩
theorem RowSt.keep {rs : List Addr} {rows : List (List Int)} (T : RowSt led ρ RA rs rows) (kR : KeepR J ρ led led') (hρ : ∀ p ∈ led, ρ' p.1 = ρ p.1) (j4 : ¬ J 4) (j8 : ∀ i : Nat, ¬ J (8 + 3 * i)) : RowSt led' ρ' RA rs rows := by
  obtain ⟨⟨n, a⟩, b, c, d⟩ := T
  refine ⟨⟨n, kR _ a (by rw [show ρ (RA, _).1 = 4 from b]; exact j4)⟩, (hρ _ a).trans b, c, fun i r hr => ?_⟩
  obtain ⟨us, k, g1, g2, g3⟩ := d i r hr
  exact ⟨us, k, kR _ g1 (by rw [show ρ (r, lstO us k).1 = _ from g3]; exact j8 i), g2, (hρ _ g1).trans g3⟩
theorem SomeSt.keep {ps : List Addr} {Ws : List Win} (T : SomeSt led ρ SA ps Ws) (kT : KeepT led led') (kR : KeepR J ρ led led') (hρ : ∀ p ∈ led, ρ' p.1 = ρ p.1) (j5 : ¬ J 5) : SomeSt led' ρ' SA ps Ws := by
  obtain ⟨⟨n, a⟩, b, c, d⟩ := T
  exact ⟨⟨n, kR _ a (by rw [show ρ (SA, _).1 = 5 from b]; exact j5)⟩, (hρ _ a).trans b, c, fun i q W h1 h2 => (d i q W h1 h2).mono fun t vs => kT.tup⟩
theorem ne_obj {a : Addr} {o o' : Obj} (N : News h₀ L h led) (ha : (a, o) ∈ led) (hb : (a, o') ∈ led) : o = o' := Option.some.inj ((N _ ha).1.symm.trans (N _ hb).1)
theorem keepT_but {ds : List Addr} (N : News h₀ L h led) (k : KeepBut ds led led') (hd : ∀ d ∈ ds, ∃ o : Obj, (d, o) ∈ led ∧ ∃ vs n, o = lstO vs n) : KeepT led led' := by
  refine ⟨fun q hq h1 h2 => k q hq fun hc => ?_, fun q hq h1 => k q hq fun hc => ?_⟩
  · obtain ⟨o, ho, vs, n, e⟩ := hd _ hc
    have e' := ne_obj (a := q.1) N hq ho
    rw [e', e] at h1
    exact h1 rfl
  · obtain ⟨o, ho, vs, n, e⟩ := hd _ hc
    have e' := ne_obj (a := q.1) N hq ho
    obtain ⟨v, h1⟩ := h1
    rw [e', e] at h1
    cases h1
theorem keepR_but {ds : List Addr} (k : KeepBut ds led led') (hd : ∀ d ∈ ds, J (ρ d)) : KeepR J ρ led led' := fun q hq h1 => k q hq fun hc => h1 (hd _ hc)
theorem keepT_foot (T : HeapSt prog w led ρ H HD KD cells) (N : News h₀ L h led) (k : KeepF HD KD cells led led') : KeepT led led' := by
  obtain ⟨a, ⟨z1, z2, z3, z4, z5, z6, z7, b⟩, ⟨o, c1, c2⟩, d, e, f, g⟩ := T
  obtain ⟨es, ep, hx, hy, _⟩ := c2
  refine ⟨fun q hq h1 h2 => k q hq fun hc => ?_, fun q hq h1 => k q hq fun hc => ?_⟩
  · rcases hc with hc | hc | ⟨i, c, hi, hc⟩
    · exact ne_cls N (a := q.1) hq b h2 hc
    · exact ne_cls N (a := q.1) hq c1 (by rw [hx.1]; exact h2) hc
    · obtain ⟨_, _, ⟨vs, n, g3, g4⟩, _⟩ := g i c hi
      exact ne_cls N (a := q.1) hq g3 h1 hc
  · obtain ⟨v, h1⟩ := h1
    obtain ⟨qa, qo⟩ := q
    rcases hc with hc | hc | ⟨i, c, hi, hc⟩
    · have hc' : qa = HD := hc
      subst hc'
      have e' : qo = _ := ne_obj N hq b
      subst e'
      cases h1
    · have hc' : qa = KD := hc
      subst hc'
      have e' : qo = o := ne_obj N hq c1
      subst e'
      have h1' : qo.data = .cell v := h1
      rw [hy] at h1'
      cases h1'
    · obtain ⟨_, _, ⟨vs, n, g3, g4⟩, _⟩ := g i c hi
      have hc' : qa = c.c := hc
      subst hc'
      have e' : qo = lstO vs n := ne_obj N hq g3
      subst e'
      cases h1
theorem keepR_foot (T : HeapSt prog w led ρ H HD KD cells) (k : KeepF HD KD cells led led') : KeepR (fun k => k = 0 ∨ k = 1 ∨ ∃ i : Nat, k = 7 + 3 * i) ρ led led' := fun q hq h1 => k q hq fun hc => by
  obtain ⟨a, ⟨z1, z2, z3, z4, z5, z6, z7, b⟩, ⟨o, c1, c2⟩, d, e, f, g⟩ := T
  apply h1
  rcases hc with hc | hc | ⟨i, c, hi, hc⟩
  · rw [hc]; exact .inl e
  · rw [hc]; exact .inr (.inl f)
  · obtain ⟨_, _, ⟨vs, n, g3, g4⟩, g5, g6, g7⟩ := g i c hi
    rw [hc, g6]; exact .inr (.inr ⟨i, rfl⟩)
theorem RowSt.set {rs : List Addr} {rows : List (List Int)} {i n : Nat} {r : Addr} {us : List Value} {ns : List Int} (T : RowSt led ρ RA rs rows) (hr : rs[i]? = some r) (hm : (r, lstO us n) ∈ led') (hi : IntsAre us ns) (k : KeepBut [r] led led') : RowSt led' ρ RA rs (rows.set i ns) := by
  obtain ⟨⟨n, a⟩, b, c, d⟩ := T
  obtain ⟨_, _, q1, q2, q3⟩ := d i r hr
  have hil : i < rows.length := by rw [← c]; exact (List.getElem?_eq_some_iff.mp hr).1
  refine ⟨⟨n, k _ a ?_⟩, b, by rw [List.length_set]; exact c, fun j r' hr' => ?_⟩
  · rw [List.mem_singleton]
    intro e
    have e' : RA = r := e
    rw [e', q3] at b
    omega
  · by_cases e : j = i
    · subst e
      rw [hr] at hr'
      cases hr'
      refine ⟨us, _, hm, ?_, q3⟩
      rw [List.getD_eq_getElem?_getD, List.getElem?_set_self hil]
      exact hi
    · obtain ⟨us', n', g1, g2, g3⟩ := d j r' hr'
      refine ⟨us', n', k _ g1 ?_, ?_, g3⟩
      · rw [List.mem_singleton]
        intro e'
        have e'' : r' = r := e'
        rw [e'', q3] at g3
        omega
      · rw [List.getD_eq_getElem?_getD, List.getElem?_set_ne (Ne.symm e), ← List.getD_eq_getElem?_getD]
        exact g2
theorem RowSt.push {rs : List Addr} {rows : List (List Int)} {n n2 : Nat} {d : Addr} {us : List Value} {ns : List Int} (T : RowSt led ρ RA rs rows) (hra : (RA, lstO (rs.map Value.ref ++ [.ref d]) n2) ∈ led') (hm : (d, lstO us n) ∈ led') (hi : IntsAre us ns) (k : KeepBut [RA] led led') (hlt : ∀ p ∈ led, p.1 < d) :
    RowSt led' (fun a => if a = d then 8 + 3 * rows.length else ρ a) RA (rs ++ [d]) (rows ++ [ns]) := by
  obtain ⟨⟨n, a⟩, b, c, e⟩ := T
  refine ⟨⟨n2, by rw [List.map_append]; exact hra⟩, ?_, by simp [c], fun j r hr => ?_⟩
  · have : RA ≠ d := Nat.ne_of_lt (hlt _ a)
    rw [if_neg this]; exact b
  · by_cases h : j < rs.length
    · rw [List.getElem?_append_left h] at hr
      obtain ⟨us', n', g1, g2, g3⟩ := e j r hr
      refine ⟨us', n', k _ g1 ?_, ?_, ?_⟩
      · rw [List.mem_singleton]
        intro e'
        have e'' : r = RA := e'
        rw [e'', b] at g3
        omega
      · rw [List.getD_eq_getElem?_getD, List.getElem?_append_left (by omega), ← List.getD_eq_getElem?_getD]
        exact g2
      · have : r ≠ d := Nat.ne_of_lt (hlt _ g1)
        rw [if_neg this]; exact g3
    · have hj : j = rs.length := by
        have := (List.getElem?_eq_some_iff.mp hr).1
        rw [List.length_append, List.length_singleton] at this
        omega
      subst hj
      rw [List.getElem?_append_right (Nat.le_refl _), Nat.sub_self] at hr
      cases hr
      refine ⟨us, _, hm, ?_, ?_⟩
      · rw [List.getD_eq_getElem?_getD, c, List.getElem?_append_right (Nat.le_refl _), Nat.sub_self]
        exact hi
      · rw [if_pos rfl, c]
end

-- PW: _law_take, _law_put, _law_copy, _law_shown in the words of the states
theorem start_PW : True := by
  w_top off
  trivial
theorem fmod_lt {x top : Int} (h : 0 < top) : 0 ≤ Int.fmod x top ∧ Int.fmod x top < top := ⟨Int.fmod_nonneg_of_pos _ h, Int.fmod_lt_of_pos _ h⟩
section
variable {prog : Program} {w : World} {dp un : Nat} {gd : Option (List Code)} {cn : Str} {cs : Scope} {a : Addr} {ccd : Value} {cl : List (Str × Addr)} {outer : List Env} {A₀ : Around} {base h₀ : Heap} {L : Addr} {m : Str → Option Value} {led : Led} {s : Shared} {Q E : Value → Shared → Prop} {p : Program} {loose : List Str} {mean : ExcName → Option Value} {mg mb : Str → Option Value}
theorem take_spec {ρ : Addr → Nat} {S R : Addr} {top : Int} {zt : Tok} (B : Below A₀ base outer h₀) (F : Fr h₀ L s.heap m) (X : (hd.heap_39 w.params).In h₀) (N : News h₀ L s.heap led) (T : Top p loose mean mg mb h₀) (hk : cs.kind = .function)
   (hdp : dp + 1 < recursionLimit) (hu : un + 100 < cLine) (K : SrcSt led ρ S R) (h0 : 0 < top) (h1 : top < 1000000)
   (ret : ∀ h' tk' led' v z, Fr h₀ L h' m → News h₀ L h' led' → SrcSt led' ρ S R → KeepBut [S, R] led led' → KeepT led led' → KeepR (fun k => k = 2 ∨ k = 3) ρ led led' → 0 ≤ v ∧ v < top → Q (.int v z) { s with heap := h', toks := tk' }) :
    wpAny (model prog w) (ktrTop dp un gd cn cs L a ccd cl outer) (call (.ref 394) [.ref S, .int top zt]) Q E s := by
  obtain ⟨⟨big, mixed, t0, t1, n, a1, a2, a3, a4⟩, ⟨rvs, ris, k, b1, b2, b3⟩, e2, e3⟩ := K
  have hSR : S ≠ R := fun e => by rw [e, e3] at e2; omega
  have kT : ∀ {l2 : Led}, KeepBut [S, R] led l2 → KeepT led l2 := fun q => keepT_but N q (by
    intro d hd
    simp only [List.mem_cons, List.not_mem_nil, or_false] at hd
    rcases hd with rfl | rfl
    · exact ⟨_, a1, _, _, rfl⟩
    · exact ⟨_, b1, _, _, rfl⟩)
  have kR : ∀ {l2 : Led}, KeepBut [S, R] led l2 → KeepR (fun k => k = 2 ∨ k = 3) ρ led l2 := fun q => keepR_but q (by
    intro d hd
    simp only [List.mem_cons, List.not_mem_nil, or_false] at hd
    rcases hd with rfl | rfl
    · exact .inl e2
    · exact .inr e3)
  have kB : ∀ {o1 o2 : Obj}, KeepBut [S, R] led ((S, o1) :: (R, o2) :: wo [S, R] led) := fun p hp hd => List.mem_cons_of_mem _ (List.mem_cons_of_mem _ (mem_wo.mpr ⟨hp, hd⟩))
  have N' : News h₀ L s.heap ((S, lstO [.int big t0, .int mixed t1, .ref R] n) :: (R, lstO rvs k) :: wo [S, R] led) := cb_drop N fun p hp => by
    rcases List.mem_cons.mp hp with rfl | hp
    · exact a1
    · rcases List.mem_cons.mp hp with rfl | hp
      · exact b1
      · exact (mem_wo.mp hp).1
  have r1 : ∀ p ∈ wo [S, R] led, p.1 ≠ S := wo_off (by simp)
  have r2 : ∀ p ∈ wo [S, R] led, p.1 ≠ R := wo_off (by simp)
  cases b2 with
  | cons x tx hi =>
    rename_i vs2 is2
    refine take_pop B F X N' T hk hdp hu hSR (Ne.symm hSR) r1 r2 hi (by simp only [List.length_cons] at b3; omega) h0 h1 fun h' tk' z k' F' N2 => ret h' tk' _ _ z F' N2 ⟨⟨_, _, _, _, _, List.mem_cons_self .., a2, a3, a4⟩, ⟨_, _, _, List.mem_cons_of_mem _ (List.mem_cons_self ..), hi, by simp only [List.length_cons] at b3; omega⟩, e2, e3⟩ kB (kT kB) (kR kB) (fmod_lt h0)
  | nil =>
    by_cases hb : 0 < big
    · refine take_big B F X N' T hk hdp hu hSR (Ne.symm hSR) r1 r2 h0 h1 hb fun h' tk' z z2 F' N2 => ret h' tk' _ _ z F' N2 ⟨⟨_, _, _, _, _, List.mem_cons_self .., ?_, a3, a4⟩, ⟨_, _, _, List.mem_cons_of_mem _ (List.mem_cons_self ..), .nil, b3⟩, e2, e3⟩ kB (kT kB) (kR kB) (fmod_lt h0)
      rw [Int.fdiv_eq_ediv_of_nonneg _ (by omega)]
      exact Int.ediv_nonneg (by omega) (by omega)
    · have e : big = 0 := by omega
      subst e
      refine take_mix B F X N' T hk hdp hu hSR (Ne.symm hSR) r1 r2 h0 h1 a3 a4 fun h' tk' z z2 v F' N2 => ret h' tk' _ _ z F' N2 ⟨⟨_, _, _, _, _, List.mem_cons_self .., a2, ?_, ?_⟩, ⟨_, _, _, List.mem_cons_of_mem _ (List.mem_cons_self ..), .nil, b3⟩, e2, e3⟩ kB (kT kB) (kR kB) (fmod_lt h0)
      · exact (fmod_lt (by decide)).1
      · exact (fmod_lt (by decide)).2
theorem law_put_spec {ρ : Addr → Nat} {RA wt ml : Addr} {rs : List Addr} {rows : List (List Int)} {W : Win} {mvs : List Value} {ms : List Int} {k : Nat} (B : Below A₀ base outer h₀) (F : Fr h₀ L s.heap m) (X : (hd.heap_39 w.params).In h₀) (N : News h₀ L s.heap led) (T : Top p loose mean mg mb h₀) (hk : cs.kind = .function)
   (hdp : dp + 3 < recursionLimit) (hu : un + 200 < cLine) (K : RowSt led ρ RA rs rows) (hw : WinAt led wt W) (hW : WinR rows W) (hm : (ml, lstO mvs k) ∈ led) (hms : IntsAre mvs ms)
   (hml : ∀ (i : Nat) (r : Addr), rs[i]? = some r → ml ≠ r) (hml2 : ml ≠ RA) (hlen : W.l + ms.length < 1000) (hr : W.r < 1000) (hrl : rows.length < 1000) (hbig : ∀ i, (rows.getD i []).length < 100000)
   (ret : ∀ h' tk' led' ρ' rs' wt', Fr h₀ L h' m → News h₀ L h' led' → RowSt led' ρ' RA rs' (putM rows W ms).2 → WinAt led' wt' (putM rows W ms).1 → KeepT led led' → KeepR (fun k => k = 4 ∨ ∃ i : Nat, k = 8 + 3 * i) ρ led led' → (∀ p ∈ led, ρ' p.1 = ρ p.1) → Q (.ref wt') { s with heap := h', toks := tk' }) :
    wpAny (model prog w) (ktrTop dp un gd cn cs L a ccd cl outer) (call (.ref 422) [.ref wt, .ref RA, .ref ml]) Q E s := by
  obtain ⟨⟨nR, a1⟩, a2, a3, a4⟩ := id K
  have hw0 := hw
  obtain ⟨row, b, l, r⟩ := W
  obtain ⟨z1, z2, z3, z4, hw1⟩ := hw
  dsimp only at hw1 hlen hr
  have nn := winR_nn hW
  dsimp only at nn
  by_cases hnil : ms = []
  · subst hnil
    cases hms
    refine law_put_nil B F X N T hk (by omega) (by omega) hw1 hm fun h' tk' F' N' => ret h' tk' led ρ rs wt F' N' ?_ ?_ (.of fun p hp => hp) (.of fun p hp => hp) (fun p hp => rfl)
    · unfold putM; rw [if_pos rfl]; exact K
    · unfold putM; rw [if_pos rfl]; exact hw0
  · have hpos : 0 < ms.length := by
      cases ms with
      | nil => exact absurd rfl hnil
      | cons x r => simp
    by_cases hfit : l + ms.length ≤ r
    · cases row with
      | none =>
        obtain ⟨h1, h2, h3⟩ := hW
        dsimp only at h1 h2 h3
        omega
      | some i =>
        obtain ⟨h1, h2, h3, h4, h5, h6, h7⟩ := hW
        dsimp only at h1 h2 h3 h4 h5 h6 h7
        obtain ⟨r1, hr1⟩ : ∃ r1, rs[i.toNat]? = some r1 := ⟨_, List.getElem?_eq_getElem (by rw [a3]; exact h6)⟩
        obtain ⟨us, n1, g1, g2, g3⟩ := a4 _ _ hr1
        have hsm := hbig i.toNat
        have kB : ∀ {x1 : Addr × Obj} {o1 : Obj}, KeepBut [r1] led (x1 :: (r1, o1) :: wo [r1] led) := fun p hp hd => List.mem_cons_of_mem _ (List.mem_cons_of_mem _ (mem_wo.mpr ⟨hp, hd⟩))
        have hRA : RA ≠ r1 := fun e => by rw [e, g3] at a2; omega
        refine law_put_room (n1 := n1) (rest := wo [r1] led) (rvs := rs.map Value.ref) B F X (cb_drop N fun p hp => ?_) T hk (by omega) (by omega) (wo_off (by simp)) (mem_wo.mpr ⟨hw1, ?_⟩) (mem_wo.mpr ⟨a1, ?_⟩) ?_ h1 (by omega) g2 (mem_wo.mpr ⟨hm, ?_⟩) (Ne.symm (hml _ _ hr1)) hms hnil (by omega) h2 h3 hfit h7 (by omega)
          fun h' tk' t us' z1 z2 z3 z4 F' N' hI => ret h' tk' _ ρ rs t F' N' ?_ ?_ (keepT_but N kB ?_) (keepR_but kB ?_) (fun p hp => rfl)
        · rcases List.mem_cons.mp hp with rfl | hp
          · exact g1
          · exact (mem_wo.mp hp).1
        · rw [List.mem_singleton]; exact ne_cls N hw1 g1 (by simp)
        · rw [List.mem_singleton]; exact hRA
        · rw [List.getElem?_map, hr1]; rfl
        · rw [List.mem_singleton]; exact hml _ _ hr1
        · unfold putM
          rw [if_neg hnil, if_pos hfit]
          dsimp only
          refine K.set hr1 (List.mem_cons_of_mem _ (List.mem_cons_self ..)) ?_ kB
          rw [ovr_three _ _ _ (by omega)]
          rw [show (b + l).toNat + ms.length = (b + (l + (ms.length : Int))).toNat by omega]
          exact hI
        · unfold putM
          rw [if_neg hnil, if_pos hfit]
          exact ⟨_, _, _, _, List.mem_cons_self ..⟩
        · intro d hd
          rw [List.mem_singleton] at hd
          subst hd
          exact ⟨_, g1, _, _, rfl⟩
        · intro d hd
          rw [List.mem_singleton] at hd
          subst hd
          exact .inr ⟨_, g3⟩
    · have NR : News h₀ L s.heap ((RA, lstO (rs.map Value.ref) nR) :: wo [RA] led) := cb_drop N fun p hp => by
        rcases List.mem_cons.mp hp with rfl | hp
        · exact a1
        · exact (mem_wo.mp hp).1
      have kB : ∀ {x1 x2 : Addr × Obj} {o1 : Obj}, KeepBut [RA] led (x1 :: x2 :: (RA, o1) :: wo [RA] led) := fun p hp hd => List.mem_cons_of_mem _ (List.mem_cons_of_mem _ (List.mem_cons_of_mem _ (mem_wo.mpr ⟨hp, hd⟩)))
      have kT : ∀ {l2 : Led}, KeepBut [RA] led l2 → KeepT led l2 := fun q => keepT_but N q (by
        intro d hd
        rw [List.mem_singleton] at hd
        subst hd
        exact ⟨_, a1, _, _, rfl⟩)
      have kR : ∀ {l2 : Led}, KeepBut [RA] led l2 → KeepR (fun k => k = 4 ∨ ∃ i : Nat, k = 8 + 3 * i) ρ led l2 := fun q => keepR_but q (by
        intro d hd
        rw [List.mem_singleton] at hd
        subst hd
        exact .inl a2)
      have lt : ∀ {d : Addr}, (∀ p ∈ (RA, lstO (rs.map Value.ref) nR) :: wo [RA] led, p.1 < d) → ∀ p ∈ led, p.1 < d := fun q p hp => by
        by_cases e : p.1 = RA
        · rw [e]; exact q _ (List.mem_cons_self ..)
        · exact q p (List.mem_cons_of_mem _ (mem_wo.mpr ⟨hp, by rw [List.mem_singleton]; exact e⟩))
      have hrl' : (rs.map Value.ref).length = rows.length := by rw [List.length_map, a3]
      have wRA : wt ∉ [RA] := by rw [List.mem_singleton]; exact ne_cls N hw1 a1 (by simp)
      cases row with
      | none =>
        obtain ⟨h1, h2, h3⟩ := hW
        dsimp only at h1 h2 h3
        refine law_put_grow_none (y1 := z1) (nR := nR) (rest := wo [RA] led) B F X NR T hk (by omega) (by omega) (wo_off (by simp)) (mem_wo.mpr ⟨hw1, wRA⟩) (mem_wo.mpr ⟨hm, by rw [List.mem_singleton]; exact hml2⟩) hms hnil (by omega) (by rw [hrl']; exact hrl) h1 h2 h3
          fun h' tk' t d us' n' n2 z1 z2 z3 z4 F' N' hI hlt => ret h' tk' _ (fun a => if a = d then 8 + 3 * rows.length else ρ a) (rs ++ [d]) t F' N' ?_ ?_ (kT kB) (kR kB) fun p hp => if_neg (Nat.ne_of_lt (lt hlt p hp))
        · unfold putM
          rw [if_neg hnil, if_neg hfit]
          dsimp only
          refine K.push (List.mem_cons_of_mem _ (List.mem_cons_of_mem _ (List.mem_cons_self ..))) (List.mem_cons_of_mem _ (List.mem_cons_self ..)) ?_ kB (lt hlt)
          exact hI
        · unfold putM
          rw [if_neg hnil, if_neg hfit]
          rw [hrl'] at N'
          exact ⟨z1, z2, z3, z4, by rw [hrl']; exact List.mem_cons_self ..⟩
      | some i =>
        have hW2 := hW
        obtain ⟨h1, h2, h3, h4, h5, h6, h7⟩ := hW
        dsimp only at h1 h2 h3 h4 h5 h6 h7
        obtain ⟨r1, hr1⟩ : ∃ r1, rs[i.toNat]? = some r1 := ⟨_, List.getElem?_eq_getElem (by rw [a3]; exact h6)⟩
        obtain ⟨us, n1, g1, g2, g3⟩ := a4 _ _ hr1
        have hsm := hbig i.toNat
        have hRA : r1 ≠ RA := fun e => by rw [← e, g3] at a2; omega
        refine law_put_grow_some (n1 := n1) (nR := nR) (rest := wo [RA] led) B F X NR T hk (by omega) (by omega) (wo_off (by simp)) (mem_wo.mpr ⟨hw1, wRA⟩) (mem_wo.mpr ⟨g1, by rw [List.mem_singleton]; exact hRA⟩) (by rw [List.getElem?_map, hr1]; rfl) h1 (by omega) g2 (mem_wo.mpr ⟨hm, by rw [List.mem_singleton]; exact hml2⟩) hms hnil (by omega) (by rw [hrl']; exact hrl) h2 h3 (by omega) hr h4 hfit h7 (by omega)
          fun h' tk' t d us' n' n2 z1 z2 z3 z4 F' N' hI hlt => ret h' tk' _ (fun a => if a = d then 8 + 3 * rows.length else ρ a) (rs ++ [d]) t F' N' ?_ ?_ (kT kB) (kR kB) fun p hp => if_neg (Nat.ne_of_lt (lt hlt p hp))
        · unfold putM
          rw [if_neg hnil, if_neg hfit]
          dsimp only
          refine K.push (List.mem_cons_of_mem _ (List.mem_cons_of_mem _ (List.mem_cons_self ..))) (List.mem_cons_of_mem _ (List.mem_cons_self ..)) ?_ kB (lt hlt)
          exact hI
        · unfold putM
          rw [if_neg hnil, if_neg hfit]
          exact ⟨z1, z2, z3, z4, by rw [hrl']; exact List.mem_cons_self ..⟩
theorem law_copy_spec {ρ : Addr → Nat} {RA wa wb : Addr} {rs : List Addr} {rows : List (List Int)} {W W2 : Win} (B : Below A₀ base outer h₀) (F : Fr h₀ L s.heap m) (X : (hd.heap_39 w.params).In h₀) (N : News h₀ L s.heap led) (T : Top p loose mean mg mb h₀) (hk : cs.kind = .function)
   (hdp : dp + 2 < recursionLimit) (hu : un + 100 < cLine) (K : RowSt led ρ RA rs rows) (hwa : WinAt led wa W) (hwb : WinAt led wb W2) (hW : WinR rows W) (hW2 : WinR rows W2) (hrl : rows.length < 1000) (hbig : ∀ i, (rows.getD i []).length < 100000)
   (ret : ∀ h' tk' led' z, Fr h₀ L h' m → News h₀ L h' led' → RowSt led' ρ RA rs (copyM rows W (segR rows ⟨W2.row, W2.b, min W.l W2.l, W2.r⟩)) → KeepT led led' → KeepR (fun k => k = 4 ∨ ∃ i : Nat, k = 8 + 3 * i) ρ led led' → Q (.int (min W.l W2.l) z) { s with heap := h', toks := tk' }) :
    wpAny (model prog w) (ktrTop dp un gd cn cs L a ccd cl outer) (call (.ref 429) [.ref wa, .ref wb, .ref RA]) Q E s := by
  obtain ⟨⟨nR, a1⟩, a2, a3, a4⟩ := id K
  have nn := winR_nn hW
  have nn2 := winR_nn hW2
  obtain ⟨row, b, l, r⟩ := W
  obtain ⟨row2, b2, l2, r2⟩ := W2
  obtain ⟨z1, z2, z3, z4, hw1⟩ := hwa
  obtain ⟨q1, q2, q3, q4, hw2⟩ := hwb
  dsimp only at hw1 hw2 nn nn2 ret ⊢
  by_cases hz : min l l2 ≤ 0
  · refine law_copy_zero B F X N T hk hdp hu hw1 hw2 hz fun h' tk' z F' N' => ret h' tk' led z F' N' ?_ (.of fun p hp => hp) (.of fun p hp => hp)
    cases row with
    | none => exact K
    | some i =>
      have e : segR rows ⟨row2, b2, min l l2, r2⟩ = [] := by
        unfold segR
        cases row2 with
        | none => rfl
        | some j =>
          dsimp only
          rw [show (min l l2).toNat = 0 by omega]
          rfl
      rw [e]
      unfold copyM
      dsimp only
      rw [List.take_nil]
      show RowSt led ρ RA rs (rows.set i.toNat (rows.getD i.toNat []))
      rw [set_getD]
      exact K
  · cases row with
    | none =>
      obtain ⟨h1, h2, h3⟩ := hW
      dsimp only at h1 h2 h3
      omega
    | some i =>
      cases row2 with
      | none =>
        obtain ⟨h1, h2, h3⟩ := hW2
        dsimp only at h1 h2 h3
        omega
      | some j =>
        obtain ⟨h1, h2, h3, h4, h5, h6, h7⟩ := hW
        dsimp only at h1 h2 h3 h4 h5 h6 h7
        obtain ⟨k1, k2, k3, k4, k5, k6, k7⟩ := hW2
        dsimp only at k1 k2 k3 k4 k5 k6 k7
        obtain ⟨r1, hr1⟩ : ∃ r1, rs[i.toNat]? = some r1 := ⟨_, List.getElem?_eq_getElem (by rw [a3]; exact h6)⟩
        obtain ⟨us, n1, g1, g2, g3⟩ := a4 _ _ hr1
        obtain ⟨r2', hr2⟩ : ∃ r2, rs[j.toNat]? = some r2 := ⟨_, List.getElem?_eq_getElem (by rw [a3]; exact k6)⟩
        obtain ⟨us2, n2, g4, g5, g6⟩ := a4 _ _ hr2
        have hsm := hbig i.toNat
        have hsm2 := hbig j.toNat
        have hRA : RA ≠ r1 := fun e => by rw [e, g3] at a2; omega
        have kB : ∀ {o1 : Obj}, KeepBut [r1] led ((r1, o1) :: wo [r1] led) := fun p hp hd => List.mem_cons_of_mem _ (mem_wo.mpr ⟨hp, hd⟩)
        have h2m : (r2', lstO us2 n2) ∈ (r1, lstO us n1) :: wo [r1] led := by
          by_cases e : r2' = r1
          · subst e
            have e1 := (N _ g1).1
            have e2 := (N _ g4).1
            rw [e1] at e2
            have e3 : lstO us2 n2 = lstO us n1 := (Option.some.inj e2).symm
            rw [e3]
            exact List.mem_cons_self ..
          · exact List.mem_cons_of_mem _ (mem_wo.mpr ⟨g4, by rw [List.mem_singleton]; exact e⟩)
        refine law_copy_pos (n1 := n1) (n2 := n2) (nR := nR) (rest := wo [r1] led) (rvs := rs.map Value.ref) B F X (cb_drop N fun p hp => ?_) T hk hdp hu (wo_off (by simp)) (mem_wo.mpr ⟨hw1, ?_⟩) (mem_wo.mpr ⟨hw2, ?_⟩) (mem_wo.mpr ⟨a1, ?_⟩) ?_ ?_ h1 k1 (by omega) (by omega) h2m g2 g5 h2 k2 (by omega) (by omega) (by omega) (by omega) hsm hsm2
          fun h' tk' z us' F' N' hI => ret h' tk' _ z F' N' ?_ (keepT_but N kB ?_) (keepR_but kB ?_)
        · rcases List.mem_cons.mp hp with rfl | hp
          · exact g1
          · exact (mem_wo.mp hp).1
        · rw [List.mem_singleton]; exact ne_cls N hw1 g1 (by simp)
        · rw [List.mem_singleton]; exact ne_cls N hw2 g1 (by simp)
        · rw [List.mem_singleton]; exact hRA
        · rw [List.getElem?_map, hr1]; rfl
        · rw [List.getElem?_map, hr2]; rfl
        · unfold copyM segR
          dsimp only
          refine K.set hr1 (List.mem_cons_self ..) ?_ kB
          have el : ((rows.getD j.toNat []).drop b2.toNat).length ≥ (min l l2).toNat := by rw [List.length_drop]; omega
          have el2 : (((rows.getD j.toNat []).drop b2.toNat).take (min l l2).toNat).length = (min l l2).toNat := by rw [List.length_take]; omega
          rw [el2, List.take_of_length_le (by rw [el2]; omega), ovr_three _ _ _ (by rw [el2]; omega), el2]
          rw [show b.toNat + (min l l2).toNat = (b + min l l2).toNat by omega]
          exact hI
        · intro d hd
          rw [List.mem_singleton] at hd
          subst hd
          exact ⟨_, g1, _, _, rfl⟩
        · intro d hd
          rw [List.mem_singleton] at hd
          subst hd
          exact .inr ⟨_, g3⟩
theorem law_shown_spec {ρ : Addr → Nat} {H HD KD RA wt : Addr} {cells : List Cell} {rs : List Addr} {v : Value} {W : Win} (B : Below A₀ base outer h₀) (F : Fr h₀ L s.heap m) (X : (hd.heap_39 w.params).In h₀) (N : News h₀ L s.heap led) (T : Top p loose mean mg mb h₀) (hk : cs.kind = .function)
   (hdp : dp + 9 < recursionLimit) (hu : un + 400 < cLine) (S : HeapSt prog w led ρ H HD KD cells) (K : RowSt led ρ RA rs (rowsOf cells)) (hv : ToldAt led v W) (hw : WinAt led wt W) (hW : WinR (rowsOf cells) W) (hrl : cells.length < 1000) (hbig : ∀ i, ((rowsOf cells).getD i []).length < 100000)
   (ret : ∀ h' tk', Fr h₀ L h' m → News h₀ L h' led → Q (.bool true) { s with heap := h', toks := tk' }) :
    wpAny (model prog w) (ktrTop dp un gd cn cs L a ccd cl outer) (call (.ref 415) [.ref H, v, .ref wt, .ref RA]) Q E s := by
  obtain ⟨⟨nR, a1⟩, a2, a3, a4⟩ := id K
  have hO := winOk_of hW
  have hsg := seg_rows hW
  obtain ⟨row, b, l, r⟩ := W
  obtain ⟨z1, z2, z3, z4, hw1⟩ := hw
  dsimp only at hw1
  cases row with
  | none => exact shown_none B F X N T hk hdp hu S hv hO hw1 ret
  | some i =>
    obtain ⟨h1, h2, h3, h4, h5, h6, h7⟩ := hW
    dsimp only at h1 h2 h3 h4 h5 h6 h7
    obtain ⟨r1, hr1⟩ : ∃ r1, rs[i.toNat]? = some r1 := ⟨_, List.getElem?_eq_getElem (by rw [a3]; exact h6)⟩
    obtain ⟨us, n1, g1, g2, g3⟩ := a4 _ _ hr1
    have hsm := hbig i.toNat
    rw [rowsOf_length] at h6
    exact shown_some (n1 := n1) (nR := nR) B F X N T hk hdp hu S hv hO hw1 a1 (by rw [List.getElem?_map, hr1]; rfl) g1 g2 h1 (by omega) h2 h3 (by omega) hsm hsg ret
end

-- PX: St: all states in one; writes of some and of the rows
theorem start_PX : True := by
  w_top off
  trivial
structure St (prog : Program) (w : World) (led : Led) (ρ : Addr → Nat) (H HD KD S R RA SA : Addr) (cells : List Cell) (rs : List Addr) (rows : List (List Int)) (ps : List Addr) (Ws : List Win) : Prop where
  heap : HeapSt prog w led ρ H HD KD cells
  src : SrcSt led ρ S R
  row : RowSt led ρ RA rs rows
  som : SomeSt led ρ SA ps Ws
section
variable {prog : Program} {w : World} {led led' : Led} {ρ ρ' : Addr → Nat} {H HD KD S R RA SA ml : Addr} {cells cells' : List Cell} {rs : List Addr} {rows rows' : List (List Int)} {ps : List Addr} {Ws : List Win} {h₀ h : Heap} {L : Addr} {J : Nat → Prop}
theorem St.grow (K : St prog w led ρ H HD KD S R RA SA cells rs rows ps Ws) (k : ∀ p ∈ led, p ∈ led') : St prog w led' ρ H HD KD S R RA SA cells rs rows ps Ws :=
  ⟨K.heap.grow k, K.src.keep (J := fun _ => False) (.of k) (fun _ _ => rfl) id id, K.row.keep (J := fun _ => False) (.of k) (fun _ _ => rfl) id (fun _ => id), K.som.keep (J := fun _ => False) (.of k) (.of k) (fun _ _ => rfl) id⟩
theorem St.fresh (K : St prog w led ρ H HD KD S R RA SA cells rs rows ps Ws) (hlt : ∀ p ∈ led, p.1 < ml) : (∀ (i : Nat) (c : Cell), cells[i]? = some c → ml ≠ c.c) ∧ (∀ (i : Nat) (r : Addr), rs[i]? = some r → ml ≠ r) ∧ ml ≠ RA ∧ ml ≠ S ∧ ml ≠ R ∧ ml ≠ SA := by
  have ne : ∀ {q : Addr} {o : Obj}, (q, o) ∈ led → ml ≠ q := fun hq e => absurd e.symm (Nat.ne_of_lt (hlt _ hq))
  obtain ⟨⟨_, _, _, _, _, _, g⟩, ⟨⟨_, _, _, _, _, a1, _⟩, ⟨_, _, _, a2, _⟩, _, _⟩, ⟨⟨_, a3⟩, _, _, g2⟩, ⟨⟨_, a4⟩, _, _, _⟩⟩ := K
  refine ⟨fun i c hc => ?_, fun i r hr => ?_, ne a3, ne a1, ne a2, ne a4⟩
  · obtain ⟨_, _, ⟨_, _, q, _⟩, _⟩ := g i c hc
    exact ne q
  · obtain ⟨_, _, q, _⟩ := g2 i r hr
    exact ne q
theorem rebase {d : Addr} {o : Obj} (N : News h₀ L h led) (hm : (d, o) ∈ led) : News h₀ L h ((d, o) :: wo [d] led) := cb_drop N fun p hp => by
  rcases List.mem_cons.mp hp with rfl | hp
  · exact hm
  · exact (mem_wo.mp hp).1
theorem wo_front {d : Addr} {o : Obj} : KeepBut [d] led ((d, o) :: wo [d] led) := fun p hp hd => List.mem_cons_of_mem _ (mem_wo.mpr ⟨hp, hd⟩)
theorem keepT_one {d : Addr} {o : Obj} (N : News h₀ L h led) (hm : (d, o) ∈ led) (hc : ∃ vs n, o = lstO vs n) (k : KeepBut [d] led led') : KeepT led led' := keepT_but N k fun d' hd => by
  rw [List.mem_singleton] at hd
  subst hd
  exact ⟨_, hm, hc⟩
theorem keepR_one {d : Addr} (k : KeepBut [d] led led') (hj : J (ρ d)) : KeepR J ρ led led' := keepR_but k fun d' hd => by
  rw [List.mem_singleton] at hd
  subst hd
  exact hj
theorem St.other (K : St prog w led ρ H HD KD S R RA SA cells rs rows ps Ws) {ps' : List Addr} {Ws' : List Win} {n n' : Nat} (N : News h₀ L h led) (hm : (SA, lstO (ps.map Value.ref) n) ∈ led) (hl : ps'.length = Ws'.length)
    (hp : ∀ (i : Nat) (p : Addr) (W : Win), ps'[i]? = some p → Ws'[i]? = some W → PairAt led p W) : St prog w ((SA, lstO (ps'.map Value.ref) n') :: wo [SA] led) ρ H HD KD S R RA SA cells rs rows ps' Ws' := by
  have kT := keepT_one N hm ⟨_, _, rfl⟩ (wo_front (o := lstO (ps'.map Value.ref) n'))
  have kR : KeepR (fun k => k = 5) ρ led ((SA, lstO (ps'.map Value.ref) n') :: wo [SA] led) := keepR_one wo_front K.som.rr
  exact ⟨K.heap.keep kT kR (fun _ _ => rfl) (by omega) (by omega) (fun i => by omega) (fun i => by omega), K.src.keep kR (fun _ _ => rfl) (by omega) (by omega), K.row.keep kR (fun _ _ => rfl) (by omega) (fun i => by omega),
    ⟨⟨_, List.mem_cons_self ..⟩, K.som.rr, hl, fun i p W h1 h2 => (hp i p W h1 h2).mono fun t vs => kT.tup⟩⟩
theorem St.rowSet (K : St prog w led ρ H HD KD S R RA SA cells rs rows ps Ws) {i n : Nat} {r : Addr} {us us' : List Value} {ns : List Int} (N : News h₀ L h led) (hr : rs[i]? = some r) (hm : (r, lstO us n) ∈ led) (hi : IntsAre us' ns) : St prog w ((r, lstO us' n) :: wo [r] led) ρ H HD KD S R RA SA cells rs (rows.set i ns) ps Ws := by
  have kT := keepT_one N hm ⟨_, _, rfl⟩ (wo_front (o := lstO us' n))
  obtain ⟨_, _, _, _, g3⟩ := K.row.row i r hr
  have kR : KeepR (fun k => ∃ i : Nat, k = 8 + 3 * i) ρ led ((r, lstO us' n) :: wo [r] led) := keepR_one wo_front ⟨_, g3⟩
  exact ⟨K.heap.keep kT kR (fun _ _ => rfl) (by omega) (by omega) (fun i => by omega) (fun i => by omega), K.src.keep kR (fun _ _ => rfl) (by omega) (by omega), K.row.set hr (List.mem_cons_self ..) hi wo_front, K.som.keep kT kR (fun _ _ => rfl) (by omega)⟩
/-- the kept rows' code has run -/
theorem St.heapTo (K : St prog w led ρ H HD KD S R RA SA cells rs rows ps Ws) (N : News h₀ L h led) (k : KeepF HD KD cells led led') (hρ : ∀ p ∈ led, ρ' p.1 = ρ p.1) (S' : HeapSt prog w led' ρ' H HD KD cells') : St prog w led' ρ' H HD KD S R RA SA cells' rs rows ps Ws := by
  have kT := keepT_foot K.heap N k
  have kR := keepR_foot K.heap k
  exact ⟨S', K.src.keep kR hρ (by omega) (by omega), K.row.keep kR hρ (by omega) (fun i => by omega), K.som.keep kT kR hρ (by omega)⟩
theorem St.rowTo (K : St prog w led ρ H HD KD S R RA SA cells rs rows ps Ws) {rs' : List Addr} (kT : KeepT led led') (kR : KeepR (fun k => k = 4 ∨ ∃ i : Nat, k = 8 + 3 * i) ρ led led') (hρ : ∀ p ∈ led, ρ' p.1 = ρ p.1) (R' : RowSt led' ρ' RA rs' rows') : St prog w led' ρ' H HD KD S R RA SA cells rs' rows' ps Ws :=
  ⟨K.heap.keep kT kR hρ (by omega) (by omega) (fun i => by omega) (fun i => by omega), K.src.keep kR hρ (by omega) (by omega), R', K.som.keep kT kR hρ (by omega)⟩
theorem St.srcTo (K : St prog w led ρ H HD KD S R RA SA cells rs rows ps Ws) (kT : KeepT led led') (kR : KeepR (fun k => k = 2 ∨ k = 3) ρ led led') (S' : SrcSt led' ρ S R) : St prog w led' ρ H HD KD S R RA SA cells rs rows ps Ws :=
  ⟨K.heap.keep kT kR (fun _ _ => rfl) (by omega) (by omega) (fun i => by omega) (fun i => by omega), S', K.row.keep kR (fun _ _ => rfl) (by omega) (fun i => by omega), K.som.keep kT kR (fun _ _ => rfl) (by omega)⟩
end
section
variable {prog : Program} {w : World} {A : Around} {E : Value → Shared → Prop} {s : Shared} {h₀ : Heap} {L l : Addr} {m : Str → Option Value} {led : Led} {vs : List Value} {n : Nat}
theorem app_abs {x : Value} {Q : Value → Shared → Prop} (F : Fr h₀ L s.heap m) (N : News h₀ L s.heap led) (hm : (l, lstO vs n) ∈ led) (hz : vs.length ≤ 100000) (h : ∀ h', Fr h₀ L h' m → News h₀ L h' ((l, lstO (vs ++ [x]) (n + 1)) :: wo [l] led) → Q .none { s with heap := h' }) :
    wpAny (model prog w) A (call (.builtin "list.append") [.ref l, x]) Q E s :=
  append_K F (rebase N hm) (.head (wo_off (by simp))) (fun h' F' N' => h h' F' (by rw [List.push_toArray] at N'; exact N')) (by rw [List.size_toArray, sizeLine_eq]; omega)
theorem ins_abs {x : Value} {u : Tok} {Q : Value → Shared → Prop} (F : Fr h₀ L s.heap m) (N : News h₀ L s.heap led) (hm : (l, lstO vs n) ∈ led) (hz : vs.length ≤ 100000) (h : ∀ h', Fr h₀ L h' m → News h₀ L h' ((l, lstO (x :: vs) (n + 1)) :: wo [l] led) → Q .none { s with heap := h' }) :
    wpAny (model prog w) A (call (.builtin "list.insert") [.ref l, .int 0 u, x]) Q E s :=
  kl_insert (l := x :: vs) F (rebase N hm) rfl (by simp [kl_ins]) (.head (wo_off (by simp))) (by rw [List.toList_toArray, sizeLine_eq]; omega) h
theorem setat_abs {k : Int} {t : Tok} {v : Value} {Q : Unit → Shared → Prop} (F : Fr h₀ L s.heap m) (N : News h₀ L s.heap led) (hm : (l, lstO vs n) ∈ led) (h0 : 0 ≤ k) (hk : k < vs.length) (hz : vs.length ≤ 100000) (h : ∀ h', Fr h₀ L h' m → News h₀ L h' ((l, lstO (vs.set k.toNat v) n) :: wo [l] led) → Q () { s with heap := h' }) :
    wpAny (model prog w) A (setItem (.ref l) (.int k t) v) Q E s := by
  have N0 := rebase N hm
  have z := N0 _ (List.mem_cons_self ..)
  refine ki_setAt z.1 h0 (by omega) (by rw [List.size_toArray]; exact hk) (h _ (F.change (Heap.SameBut.update ..) z.2.1 z.2.2) (ki_turn (pre := []) _ N0 (fun _ h => nomatch h) (wo_off (by simp)) ?_ ?_))
  · apply Array.toList_inj.mp
    simp
  · simp
theorem slice_abs {ml : Addr} {ms : List Value} {ns is : List Int} {k : Nat} {b e : Int} {tb te : Tok} {Q : Unit → Shared → Prop} (F : Fr h₀ L s.heap m) (N : News h₀ L s.heap led) (hm : (l, lstO vs n) ∈ led) (hm2 : (ml, lstO ms k) ∈ led) (hne : l ≠ ml)
    (hv : IntsAre vs ns) (hi : IntsAre ms is) (h0 : 0 ≤ b) (h1 : b ≤ e) (h2 : e ≤ ns.length) (h3 : e - b = is.length) (hsz : ns.length < 100000)
    (h : ∀ h' us', Fr h₀ L h' m → News h₀ L h' ((l, lstO us' n) :: wo [l] led) → IntsAre us' (ovr ns b.toNat is) → Q () { s with heap := h' }) : wpAny (model prog w) A (setItem (.ref l) (.ref s.heap.objs.size) (.ref ml)) Q E { s with heap := s.heap.push { cls := .type "slice", data := .fields #[.int b tb, .int e te, .none] } } :=
  setItem_sliceP F (rebase N hm) (.head (wo_off (by simp))) (List.mem_cons_of_mem _ (mem_wo.mpr ⟨hm2, by rw [List.mem_singleton]; exact Ne.symm hne⟩)) hne hv hi h0 h1 h2 h3 hsz
    fun h' F' N' hI => h h' _ F' N' (by rw [ovr_three _ _ _ (by omega), show b.toNat + is.length = e.toNat by omega]; exact hI)
end
section
variable {prog : Program} {w : World} {A : Around} {E : Value → Shared → Prop} {s : Shared} {h₀ : Heap} {L : Addr} {m : Str → Option Value} {led : Led} {ρ : Addr → Nat} {H HD KD S R RA SA : Addr} {cells : List Cell} {rs : List Addr} {rows : List (List Int)} {ps : List Addr} {Ws : List Win}
theorem append_some {p : Addr} {W : Win} {Q : Value → Shared → Prop} (F : Fr h₀ L s.heap m) (N : News h₀ L s.heap led) (K : St prog w led ρ H HD KD S R RA SA cells rs rows ps Ws) (hp : PairAt led p W) (hz : Ws.length < 1000)
    (ret : ∀ h' led', Fr h₀ L h' m → News h₀ L h' led' → KeepT led led' → St prog w led' ρ H HD KD S R RA SA cells rs rows (ps ++ [p]) (Ws ++ [W]) → Q .none { s with heap := h' }) : wpAny (model prog w) A (call (.builtin "list.append") [.ref SA, .ref p]) Q E s := by
  obtain ⟨⟨n, a⟩, b, c, d⟩ := K.som
  refine app_abs F N a (by rw [List.length_map]; omega) fun h' F' N' => ?_
  have e : ps.map Value.ref ++ [Value.ref p] = (ps ++ [p]).map Value.ref := by rw [List.map_append]; rfl
  rw [e] at N'
  refine ret h' _ F' N' (keepT_one N a ⟨_, _, rfl⟩ wo_front) (K.other N a (by simp [c]) fun i q W' h1 h2 => ?_)
  by_cases hi : i < ps.length
  · rw [List.getElem?_append_left hi] at h1
    rw [List.getElem?_append_left (by omega)] at h2
    exact d i q W' h1 h2
  · have hj : i = ps.length := by
      have := (List.getElem?_eq_some_iff.mp h1).1
      rw [List.length_append, List.length_singleton] at this
      omega
    subst hj
    rw [List.getElem?_append_right (Nat.le_refl _), Nat.sub_self] at h1
    rw [c, List.getElem?_append_right (Nat.le_refl _), Nat.sub_self] at h2
    cases h1
    cases h2
    exact hp
theorem insert_some {p : Addr} {W : Win} {u : Tok} {Q : Value → Shared → Prop} (F : Fr h₀ L s.heap m) (N : News h₀ L s.heap led) (K : St prog w led ρ H HD KD S R RA SA cells rs rows ps Ws) (hp : PairAt led p W) (hz : Ws.length < 1000)
    (ret : ∀ h' led', Fr h₀ L h' m → News h₀ L h' led' → KeepT led led' → St prog w led' ρ H HD KD S R RA SA cells rs rows (p :: ps) (W :: Ws) → Q .none { s with heap := h' }) : wpAny (model prog w) A (call (.builtin "list.insert") [.ref SA, .int 0 u, .ref p]) Q E s := by
  obtain ⟨⟨n, a⟩, b, c, d⟩ := K.som
  refine ins_abs F N a (by rw [List.length_map]; omega) fun h' F' N' => ?_
  refine ret h' _ F' N' (keepT_one N a ⟨_, _, rfl⟩ wo_front) (K.other (ps' := p :: ps) N a (by simp [c]) fun i q W' h1 h2 => ?_)
  cases i with
  | zero =>
    cases h1
    cases h2
    exact hp
  | succ i => exact d i q W' (by simpa using h1) (by simpa using h2)
theorem set_some {p : Addr} {W : Win} {k : Int} {t : Tok} {Q : Unit → Shared → Prop} (F : Fr h₀ L s.heap m) (N : News h₀ L s.heap led) (K : St prog w led ρ H HD KD S R RA SA cells rs rows ps Ws) (hp : PairAt led p W) (h0 : 0 ≤ k) (h1 : k < Ws.length) (hz : Ws.length < 1000)
    (ret : ∀ h' led', Fr h₀ L h' m → News h₀ L h' led' → KeepT led led' → St prog w led' ρ H HD KD S R RA SA cells rs rows (ps.set k.toNat p) (Ws.set k.toNat W) → Q () { s with heap := h' }) : wpAny (model prog w) A (setItem (.ref SA) (.int k t) (.ref p)) Q E s := by
  obtain ⟨⟨n, a⟩, b, c, d⟩ := K.som
  refine setat_abs F N a h0 (by rw [List.length_map]; omega) (by rw [List.length_map]; omega) fun h' F' N' => ?_
  have e : (ps.map Value.ref).set k.toNat (Value.ref p) = (ps.set k.toNat p).map Value.ref := by rw [List.map_set]
  rw [e] at N'
  refine ret h' _ F' N' (keepT_one N a ⟨_, _, rfl⟩ wo_front) (K.other N a (by simp [c]) fun i q W' g1 g2 => ?_)
  by_cases hi : k.toNat = i
  · subst hi
    rw [List.getElem?_set_self (by omega)] at g1
    rw [List.getElem?_set_self (by omega)] at g2
    cases g1
    cases g2
    exact hp
  · rw [List.getElem?_set_ne hi] at g1 g2
    exact d i q W' g1 g2
theorem set_cell {r : Addr} {i k x : Int} {t u : Tok} {Q : Unit → Shared → Prop} (F : Fr h₀ L s.heap m) (N : News h₀ L s.heap led) (K : St prog w led ρ H HD KD S R RA SA cells rs rows ps Ws) (hr : rs[i.toNat]? = some r) (h0 : 0 ≤ k) (h1 : k < (rows.getD i.toNat []).length) (hz : (rows.getD i.toNat []).length < 100000)
    (ret : ∀ h' led', Fr h₀ L h' m → News h₀ L h' led' → KeepT led led' → St prog w led' ρ H HD KD S R RA SA cells rs (rows.set i.toNat ((rows.getD i.toNat []).set k.toNat x)) ps Ws → Q () { s with heap := h' }) : wpAny (model prog w) A (setItem (.ref r) (.int k t) (.int x u)) Q E s := by
  obtain ⟨us, n, g1, g2, g3⟩ := K.row.row _ _ hr
  have hl := g2.length
  refine setat_abs F N g1 h0 (by omega) (by omega) fun h' F' N' => ?_
  exact ret h' _ F' N' (keepT_one N g1 ⟨_, _, rfl⟩ wo_front) (K.rowSet N hr g1 (ints_set g2 _))
theorem set_slice {r ml : Addr} {i b e : Int} {ms : List Value} {is : List Int} {k : Nat} {tb te : Tok} {Q : Unit → Shared → Prop} (F : Fr h₀ L s.heap m) (N : News h₀ L s.heap led) (K : St prog w led ρ H HD KD S R RA SA cells rs rows ps Ws) (hr : rs[i.toNat]? = some r) (hm2 : (ml, lstO ms k) ∈ led) (hne : ml ≠ r) (hi : IntsAre ms is)
    (h0 : 0 ≤ b) (h1 : b ≤ e) (h2 : e ≤ (rows.getD i.toNat []).length) (h3 : e - b = is.length) (hz : (rows.getD i.toNat []).length < 100000)
    (ret : ∀ h' led', Fr h₀ L h' m → News h₀ L h' led' → KeepS [r] led led' → KeepT led led' → St prog w led' ρ H HD KD S R RA SA cells rs (rows.set i.toNat (ovr (rows.getD i.toNat []) b.toNat is)) ps Ws → Q () { s with heap := h' }) :
    wpAny (model prog w) A (setItem (.ref r) (.ref s.heap.objs.size) (.ref ml)) Q E { s with heap := s.heap.push { cls := .type "slice", data := .fields #[.int b tb, .int e te, .none] } } := by
  obtain ⟨us, n, g1, g2, g3⟩ := K.row.row _ _ hr
  exact slice_abs F N g1 hm2 (Ne.symm hne) g2 hi h0 h1 h2 h3 hz fun h' us' F' N' hI => ret h' _ F' N' ⟨wo_front⟩ (keepT_one N g1 ⟨_, _, rfl⟩ wo_front) (K.rowSet N hr g1 hI)
end

-- PY: the contracts upon St; _law_one
theorem start_PY : True := by
  w_top off
  trivial
section
variable {prog : Program} {w : World} {dp un : Nat} {gd : Option (List Code)} {cn : Str} {cs : Scope} {a : Addr} {ccd : Value} {cl : List (Str × Addr)} {outer : List Env} {A₀ : Around} {base h₀ : Heap} {L : Addr} {m : Str → Option Value} {led : Led} {s : Shared} {Q E : Value → Shared → Prop} {p : Program} {loose : List Str} {mean : ExcName → Option Value} {mg mb : Str → Option Value}
theorem take_St {ρ : Addr → Nat} {H HD KD S R RA SA : Addr} {cells : List Cell} {rs ps : List Addr} {rows : List (List Int)} {Ws : List Win} {top : Int} {zt : Tok} (B : Below A₀ base outer h₀) (F : Fr h₀ L s.heap m) (X : (hd.heap_39 w.params).In h₀) (N : News h₀ L s.heap led) (T : Top p loose mean mg mb h₀) (hk : cs.kind = .function)
   (hdp : dp + 1 < recursionLimit) (hu : un + 100 < cLine) (K : St prog w led ρ H HD KD S R RA SA cells rs rows ps Ws) (h0 : 0 < top) (h1 : top < 1000000)
   (ret : ∀ h' tk' led' v z, Fr h₀ L h' m → News h₀ L h' led' → KeepT led led' → KeepS [S, R] led led' → St prog w led' ρ H HD KD S R RA SA cells rs rows ps Ws → 0 ≤ v ∧ v < top → Q (.int v z) { s with heap := h', toks := tk' }) :
    wpAny (model prog w) (ktrTop dp un gd cn cs L a ccd cl outer) (call (.ref 394) [.ref S, .int top zt]) Q E s :=
  take_spec B F X N T hk hdp hu K.src h0 h1 fun h' tk' led' v z F' N' S' kB kT kR hv => ret h' tk' led' v z F' N' kT ⟨kB⟩ (K.srcTo kT kR S') hv
theorem appended_St {ρ : Addr → Nat} {H HD KD S R RA SA ml : Addr} {cells : List Cell} {rs ps : List Addr} {Ws : List Win} {v : Value} {W : Win} {mvs : List Value} {ms : List Int} {k : Nat} {z0 zh : Tok} (B : Below A₀ base outer h₀) (F : Fr h₀ L s.heap m) (X : (hd.heap_39 w.params).In h₀) (N : News h₀ L s.heap led) (T : Top p loose mean mg mb h₀) (hk : cs.kind = .function)
   (hdp : dp + 9 < recursionLimit) (hu : un + 300 < cLine) (K : St prog w led ρ H HD KD S R RA SA cells rs (rowsOf cells) ps Ws) (hcl : cells.length < 1000) (hv : ToldAt led v W) (hW : WinR (rowsOf cells) W)
   (hm : (ml, lstO mvs k) ∈ led) (hms : IntsAre mvs ms) (hml : ∀ (i : Nat) (c : Cell), cells[i]? = some c → ml ≠ c.c) (hlen : W.l + ms.length < 1000) (hr : W.r < 1000)
   (ret : ∀ h' tk' led' ρ' v' cells', Fr h₀ L h' m → News h₀ L h' led' → KeepT led led' → (ml, lstO mvs k) ∈ led' → St prog w led' ρ' H HD KD S R RA SA cells' rs (rowsOf cells) ps Ws → rowsOf cells' = (putM (rowsOf cells) W ms).2 → ToldAt led' v' (putM (rowsOf cells) W ms).1 → Q v' { s with heap := h', toks := tk' }) :
    wpAny (model prog w) (ktrTop dp un gd cn cs L a ccd cl outer) (call (.ref 182) [.ref H, v, .ref ml, .int 0 z0, .str (Str.ofString "heap") zh]) Q E s := by
  refine appended_spec B F X N T hk hdp hu K.heap hcl hv hW hm hms hml hlen hr fun h' tk' led' ρ' v' cells' F' N' kF hρ S' hr' t' => ret h' tk' led' ρ' v' cells' F' N' (keepT_foot K.heap N kF) (kF _ hm ?_) (K.heapTo N kF hρ S') hr' t'
  obtain ⟨a, ⟨z1, z2, z3, z4, z5, z6, z7, b⟩, ⟨o, c1, c2⟩, d, e, f, g⟩ := K.heap
  have c3 : o.cls = .type "dict" := by obtain ⟨es, ep, hx, _⟩ := c2; exact hx.1
  rintro (e | e | ⟨i, c, hi, e⟩)
  · exact ne_cls N hm b (by simp) e
  · exact ne_cls N hm c1 (by rw [c3]; simp) e
  · exact hml i c hi e
theorem put_St {ρ : Addr → Nat} {H HD KD S R RA SA wt ml : Addr} {cells : List Cell} {rs ps : List Addr} {rows : List (List Int)} {Ws : List Win} {W : Win} {mvs : List Value} {ms : List Int} {k : Nat} (B : Below A₀ base outer h₀) (F : Fr h₀ L s.heap m) (X : (hd.heap_39 w.params).In h₀) (N : News h₀ L s.heap led) (T : Top p loose mean mg mb h₀) (hk : cs.kind = .function)
   (hdp : dp + 3 < recursionLimit) (hu : un + 200 < cLine) (K : St prog w led ρ H HD KD S R RA SA cells rs rows ps Ws) (hw : WinAt led wt W) (hW : WinR rows W) (hm : (ml, lstO mvs k) ∈ led) (hms : IntsAre mvs ms)
   (hml : ∀ (i : Nat) (r : Addr), rs[i]? = some r → ml ≠ r) (hml2 : ml ≠ RA) (hlen : W.l + ms.length < 1000) (hr : W.r < 1000) (hrl : rows.length < 1000) (hbig : ∀ i, (rows.getD i []).length < 100000)
   (ret : ∀ h' tk' led' ρ' rs' wt', Fr h₀ L h' m → News h₀ L h' led' → KeepT led led' → St prog w led' ρ' H HD KD S R RA SA cells rs' (putM rows W ms).2 ps Ws → WinAt led' wt' (putM rows W ms).1 → Q (.ref wt') { s with heap := h', toks := tk' }) :
    wpAny (model prog w) (ktrTop dp un gd cn cs L a ccd cl outer) (call (.ref 422) [.ref wt, .ref RA, .ref ml]) Q E s :=
  law_put_spec B F X N T hk hdp hu K.row hw hW hm hms hml hml2 hlen hr hrl hbig fun h' tk' led' ρ' rs' wt' F' N' R' w' kT kR hρ => ret h' tk' led' ρ' rs' wt' F' N' kT (K.rowTo kT kR hρ R') w'
theorem copied_slice_St {ρ : Addr → Nat} {H HD KD S R RA SA : Addr} {cells : List Cell} {rs ps : List Addr} {rows : List (List Int)} {Ws : List Win} {v v2 : Value} {W W2 : Win} (B : Below A₀ base outer h₀) (F : Fr h₀ L s.heap m) (X : (hd.heap_39 w.params).In h₀) (N : News h₀ L s.heap led) (T : Top p loose mean mg mb h₀) (hk : cs.kind = .function)
   (hdp : dp + 11 < recursionLimit) (hu : un + 400 < cLine) (K : St prog w led ρ H HD KD S R RA SA cells rs rows ps Ws) (hv : ToldAt led v W) (hv2 : ToldAt led v2 W2) (hW : WinR (rowsOf cells) W) (hW2 : WinR (rowsOf cells) W2)
   (hlen : W.l < 1000) (hlen2 : W2.l < 1000)
   (ret : ∀ h' tk' led' cells' z, Fr h₀ L h' m → News h₀ L h' led' → KeepT led led' → St prog w led' ρ H HD KD S R RA SA cells' rs rows ps Ws → rowsOf cells' = copyM (rowsOf cells) W (segR (rowsOf cells) ⟨W2.row, W2.b, min W.l W2.l, W2.r⟩) → Q (.int (min W.l W2.l) z) { s with heap := h', toks := tk' }) :
    wpAny (model prog w) (ktrTop dp un gd cn cs L a ccd cl outer) (call (.ref 196) [.ref H, v, v2]) Q E s :=
  copied_slice_spec B F X N T hk hdp hu K.heap hv hv2 hW hW2 hlen hlen2 fun h' tk' led' cells' z F' N' kF S' hr' => ret h' tk' led' cells' z F' N' (keepT_foot K.heap N kF) (K.heapTo N kF (fun _ _ => rfl) S') hr'
theorem law_copy_St {ρ : Addr → Nat} {H HD KD S R RA SA wa wb : Addr} {cells : List Cell} {rs ps : List Addr} {rows : List (List Int)} {Ws : List Win} {W W2 : Win} (B : Below A₀ base outer h₀) (F : Fr h₀ L s.heap m) (X : (hd.heap_39 w.params).In h₀) (N : News h₀ L s.heap led) (T : Top p loose mean mg mb h₀) (hk : cs.kind = .function)
   (hdp : dp + 2 < recursionLimit) (hu : un + 100 < cLine) (K : St prog w led ρ H HD KD S R RA SA cells rs rows ps Ws) (hwa : WinAt led wa W) (hwb : WinAt led wb W2) (hW : WinR rows W) (hW2 : WinR rows W2) (hrl : rows.length < 1000) (hbig : ∀ i, (rows.getD i []).length < 100000)
   (ret : ∀ h' tk' led' z, Fr h₀ L h' m → News h₀ L h' led' → KeepT led led' → St prog w led' ρ H HD KD S R RA SA cells rs (copyM rows W (segR rows ⟨W2.row, W2.b, min W.l W2.l, W2.r⟩)) ps Ws → Q (.int (min W.l W2.l) z) { s with heap := h', toks := tk' }) :
    wpAny (model prog w) (ktrTop dp un gd cn cs L a ccd cl outer) (call (.ref 429) [.ref wa, .ref wb, .ref RA]) Q E s :=
  law_copy_spec B F X N T hk hdp hu K.row hwa hwb hW hW2 hrl hbig fun h' tk' led' z F' N' R' kT kR => ret h' tk' led' z F' N' kT (K.rowTo kT kR (fun _ _ => rfl) R')
theorem copied_values_St {ρ : Addr → Nat} {H HD KD S R RA SA ml : Addr} {cells : List Cell} {rs ps : List Addr} {rows : List (List Int)} {Ws : List Win} {v : Value} {W : Win} {mvs : List Value} {ms : List Int} {k : Nat} (B : Below A₀ base outer h₀) (F : Fr h₀ L s.heap m) (X : (hd.heap_39 w.params).In h₀) (N : News h₀ L s.heap led) (T : Top p loose mean mg mb h₀) (hk : cs.kind = .function)
   (hdp : dp + 9 < recursionLimit) (hu : un + 300 < cLine) (K : St prog w led ρ H HD KD S R RA SA cells rs rows ps Ws) (hv : ToldAt led v W) (hW : WinR (rowsOf cells) W)
   (hm : (ml, lstO mvs k) ∈ led) (hms : IntsAre mvs ms) (hlen : ms.length < 1000)
   (ret : ∀ h' tk' led' cells' z, Fr h₀ L h' m → News h₀ L h' led' → KeepT led led' → St prog w led' ρ H HD KD S R RA SA cells' rs rows ps Ws → rowsOf cells' = copyM (rowsOf cells) W ms → Q (.int (min W.l ms.length) z) { s with heap := h', toks := tk' }) :
    wpAny (model prog w) (ktrTop dp un gd cn cs L a ccd cl outer) (call (.ref 189) [.ref H, v, .ref ml]) Q E s :=
  copied_values_spec B F X N T hk hdp hu K.heap hv hW hm hms hlen fun h' tk' led' cells' z F' N' kF S' hr' => ret h' tk' led' cells' z F' N' (keepT_foot K.heap N kF) (K.heapTo N kF (fun _ _ => rfl) S') hr'
theorem made_St {ρ : Addr → Nat} {H HD KD S R RA SA : Addr} {cells : List Cell} {rs ps : List Addr} {rows : List (List Int)} {Ws : List Win} {l r : Int} {zl zr z0 zh : Tok} (B : Below A₀ base outer h₀) (F : Fr h₀ L s.heap m) (X : (hd.heap_39 w.params).In h₀) (N : News h₀ L s.heap led) (T : Top p loose mean mg mb h₀) (hk : cs.kind = .function)
   (hdp : dp + 8 < recursionLimit) (hu : un + 200 < cLine) (K : St prog w led ρ H HD KD S R RA SA cells rs rows ps Ws) (hcl : cells.length < 1000) (h0 : 0 ≤ l) (h1 : l ≤ r) (h2 : r < 100)
   (ret : ∀ h' tk' led' ρ' v' cells', Fr h₀ L h' m → News h₀ L h' led' → KeepT led led' → St prog w led' ρ' H HD KD S R RA SA cells' rs rows ps Ws → rowsOf cells' = rowsOf cells ++ [List.replicate r.toNat 0] → ToldAt led' v' ⟨some cells.length, 0, l, r⟩ → Q v' { s with heap := h', toks := tk' }) :
    wpAny (model prog w) (ktrTop dp un gd cn cs L a ccd cl outer) (call (.ref 156) [.ref H, .int l zl, .int r zr, .int 0 z0, .str (Str.ofString "heap") zh]) Q E s :=
  made_slice_spec B F X N T hk hdp hu K.heap hcl h0 h1 h2 fun h' tk' led' ρ' v' cell F' N' kF hρ S' hns t' => ret h' tk' led' ρ' v' _ F' N' (keepT_foot K.heap N kF) (K.heapTo N kF hρ S') (by unfold rowsOf; rw [List.map_append, List.map_singleton, hns]) t'
theorem store_St {ρ : Addr → Nat} {H HD KD S R RA SA loc pth : Addr} {cells : List Cell} {rs ps : List Addr} {rows : List (List Int)} {Ws : List Win} {i : Int} {j u : Int} {zk zj zu : Tok} (B : Below A₀ base outer h₀) (F : Fr h₀ L s.heap m) (X : (hd.heap_39 w.params).In h₀) (N : News h₀ L s.heap led) (T : Top p loose mean mg mb h₀) (hk : cs.kind = .function)
   (hdp : dp + 6 < recursionLimit) (hu : un + 100 < cLine) (K : St prog w led ρ H HD KD S R RA SA cells rs rows ps Ws) (hi : 0 ≤ i) (hc : i.toNat < (rowsOf cells).length)
   (hloc : (loc, tupO [.int (i + 1) zk, .ref pth]) ∈ led) (hpth : (pth, tupO [.int j zj]) ∈ led) (h0 : 0 ≤ j) (hj : j < ((rowsOf cells).getD i.toNat []).length)
   (ret : ∀ h' tk' led' cells', Fr h₀ L h' m → News h₀ L h' led' → KeepT led led' → St prog w led' ρ H HD KD S R RA SA cells' rs rows ps Ws → rowsOf cells' = (rowsOf cells).set i.toNat (((rowsOf cells).getD i.toNat []).set j.toNat u) → Q .none { s with heap := h', toks := tk' }) :
    wpAny (model prog w) (ktrTop dp un gd cn cs L a ccd cl outer) (call (.ref 373) [.ref H, .ref loc, .int u zu]) Q E s := by
  obtain ⟨c, hc', e⟩ := rowsOf_cell hc
  rw [e] at hj ret
  exact storeH_spec B F X N T hk hdp hu K.heap hi hc' hloc hpth h0 hj fun h' tk' led' F' N' kB S' => ret h' tk' led' _ F' N' (keepT_foot K.heap N (keepF_cell hc' kB)) (K.heapTo N (keepF_cell hc' kB) (fun _ _ => rfl) S') rowsOf_set
end
theorem line_35 : True := by
  k_with "call ref" => (k_here; (with_reducible show wpAny _ _ (call (Value.ref 394) [Value.ref _, Value.int _ _]) _ _ _); k_dflt (refine' take_St (by k_asm) (by k_asm) (by k_asm) (by k_asm) (by k_asm) (by first | exact rfl | assumption) (by k_room) (by k_units) (by first | assumption | exact St.grow (by assumption) (fun _ hm => by k_mem)) (by first | assumption | omega | (dsimp only; omega)) (by first | assumption | omega | (dsimp only; omega)) ?_; k_whole); intro h'q tk'q led'q v'q z'q F'q N'q kT'q kB'q S'q ⟨hv1'q, hv2'q⟩; (try k_sweep); (try k_fold))
  trivial
theorem getD_mem (l : List Int) (n : Nat) (h : n < l.length) : l.getD n 0 ∈ l := by
  rw [List.getD_eq_getElem?_getD, List.getElem?_eq_getElem h]
  exact List.getElem_mem h
section
variable {prog : Program} {w : World} {dp un : Nat} {gd : Option (List Code)} {cn : Str} {cs : Scope} {a : Addr} {ccd : Value} {cl : List (Str × Addr)} {outer : List Env} {A₀ : Around} {base h₀ : Heap} {L : Addr} {m : Str → Option Value} {led : Led} {s : Shared} {Q E : Value → Shared → Prop} {p : Program} {loose : List Str} {mean : ExcName → Option Value} {mg mb : Str → Option Value}
theorem law_one_St {ρ : Addr → Nat} {H HD KD S R RA SA th : Addr} {cells : List Cell} {rs ps : List Addr} {rows : List (List Int)} {Ws : List Win} {tvs : List Value} {tis : List Int} {n : Nat} (B : Below A₀ base outer h₀) (F : Fr h₀ L s.heap m) (X : (hd.heap_39 w.params).In h₀) (N : News h₀ L s.heap led) (T : Top p loose mean mg mb h₀) (hk : cs.kind = .function)
   (hdp : dp + 2 < recursionLimit) (hu : un + 200 < cLine) (K : St prog w led ρ H HD KD S R RA SA cells rs rows ps Ws) (hm : (th, lstO tvs n) ∈ led) (hi : IntsAre tvs tis) (hl : 0 < tis.length) (hl2 : tis.length < 1000) (h1 : th ≠ S) (h2 : th ≠ R) (hall : ∀ x ∈ tis, 0 ≤ x ∧ x ≤ 5)
   (ret : ∀ h' tk' led' v z, Fr h₀ L h' m → News h₀ L h' led' → KeepT led led' → St prog w led' ρ H HD KD S R RA SA cells rs rows ps Ws → 0 ≤ v ∧ v ≤ 5 → Q (.int v z) { s with heap := h', toks := tk' }) :
    wpAny (model prog w) (ktrTop dp un gd cn cs L a ccd cl outer) (call (.ref 401) [.ref S, .ref th]) Q E s := by
  have kL : ∀ l2 : Led, KeepS [S, R] led l2 → (th, lstO tvs n) ∈ l2 := fun l2 k => k.k _ hm (by simp [h1, h2])
  k_steps
  (rename KeepS _ _ _ => k9)
  have hm9 := kL _ k9
  k_steps
  refine ret _ _ _ _ _ (by k_asm) (by k_asm) (by assumption) (by assumption) (hall _ (getD_mem _ _ ?_))
  omega
end

-- QA: plain lemmas: the bounds by turn, and what a deed does to windows and rows
theorem start_QA : True := by
  w_top off
  trivial
theorem getD_set (rows : List (List Int)) (i j : Nat) (ns : List Int) : (rows.set i ns).getD j [] = if i = j ∧ i < rows.length then ns else rows.getD j [] := by
  by_cases e : i = j
  · subst e
    by_cases h : i < rows.length
    · rw [if_pos ⟨rfl, h⟩, List.getD_eq_getElem?_getD, List.getElem?_set_self h]; rfl
    · rw [if_neg (fun q => h q.2), List.getD_eq_getElem?_getD, List.getD_eq_getElem?_getD, List.getElem?_eq_none (by rw [List.length_set]; omega), List.getElem?_eq_none (by omega)]
  · rw [if_neg (fun q => e q.1), List.getD_eq_getElem?_getD, List.getElem?_set_ne e, ← List.getD_eq_getElem?_getD]
structure LawOk (rows : List (List Int)) (Ws : List Win) (t : Nat) : Prop where
  win : ∀ W ∈ Ws, WinR rows W ∧ W.l ≤ 3 + 5 * t ∧ W.r ≤ 6 + 10 * t
  cl : rows.length ≤ 2 + t
  wl : Ws.length ≤ 3 + t
  w0 : 0 < Ws.length
  big : ∀ i, (rows.getD i []).length < 1000
structure Ext (rows rows' : List (List Int)) : Prop where
  le : rows.length ≤ rows'.length
  le1 : rows'.length ≤ rows.length + 1
  old : ∀ i, i < rows.length → (rows'.getD i []).length = (rows.getD i []).length
  big : ∀ i, (rows'.getD i []).length < 1000
theorem Ext.win {rows rows' : List (List Int)} {W : Win} (e : Ext rows rows') (h : WinR rows W) : WinR rows' W := by
  obtain ⟨row, b, l, r⟩ := W
  cases row with
  | none => exact h
  | some i =>
    obtain ⟨h1, h2, h3, h4, h5, h6, h7⟩ := h
    have q := e.old _ h6
    have q2 := e.le
    refine ⟨h1, h2, h3, h4, h5, by omega, ?_⟩
    rw [q]
    exact h7
theorem Ext.refl {rows : List (List Int)} (hb : ∀ i, (rows.getD i []).length < 1000) : Ext rows rows := ⟨Nat.le_refl _, by omega, fun _ _ => rfl, hb⟩
theorem ext_set {rows : List (List Int)} (hb : ∀ i, (rows.getD i []).length < 1000) (i : Nat) {ns : List Int} (h : ns.length = (rows.getD i []).length) : Ext rows (rows.set i ns) := by
  have q : ∀ j, ((rows.set i ns).getD j []).length = (rows.getD j []).length := fun j => by
    rw [getD_set]
    split
    · rename_i c
      rw [h, c.1]
    · rfl
  exact ⟨by rw [List.length_set]; exact Nat.le_refl _, by rw [List.length_set]; omega, fun j _ => q j, fun j => by rw [q]; exact hb j⟩
theorem ext_copy {rows : List (List Int)} (hb : ∀ i, (rows.getD i []).length < 1000) (W : Win) (ms : List Int) : Ext rows (copyM rows W ms) := by
  obtain ⟨row, b, l, r⟩ := W
  cases row with
  | none => exact .refl hb
  | some i => exact ext_set hb _ (ovr_length _ _ _)
theorem put_all {rows : List (List Int)} {W : Win} {ms : List Int} (hb : ∀ i, (rows.getD i []).length < 1000) (hW : WinR rows W) (hr : W.r < 400) (hl : W.l + ms.length < 400) :
    Ext rows (putM rows W ms).2 ∧ WinR (putM rows W ms).2 (putM rows W ms).1 ∧ (putM rows W ms).1.l = W.l + ms.length ∧ ((putM rows W ms).1.r ≤ W.r ∨ (putM rows W ms).1.r ≤ 2 * (W.l + ms.length)) := by
  have nn := winR_nn hW
  have hs := segR_len hW
  unfold putM
  by_cases hnil : ms = []
  · subst hnil
    rw [if_pos rfl]
    exact ⟨.refl hb, hW, by simp, .inl (Int.le_refl _)⟩
  · rw [if_neg hnil]
    by_cases hf : W.l + ms.length ≤ W.r
    · rw [if_pos hf]
      obtain ⟨row, b, l, r⟩ := W
      dsimp only at nn hr hl hf ⊢
      cases row with
      | none =>
        obtain ⟨h1, h2, h3⟩ := hW
        dsimp only at h1 h2 h3
        have : 0 < ms.length := by
          cases ms with
          | nil => exact absurd rfl hnil
          | cons x r => simp
        omega
      | some i =>
        have e : Ext rows (rows.set i.toNat (ovr (rows.getD i.toNat []) (b + l).toNat ms)) := ext_set hb _ (ovr_length _ _ _)
        refine ⟨e, ?_, rfl, .inl (Int.le_refl _)⟩
        obtain ⟨h1, h2, h3, h4, h5, h6, h7⟩ := e.win hW
        exact ⟨h1, h2, by dsimp only; omega, hf, h5, h6, h7⟩
    · rw [if_neg hf]
      have gb := grow_bound (x := W.l + ms.length) (a := W.r) (by omega)
      have hlen : ((segR rows W ++ ms ++ List.replicate (grow (W.l + ms.length) W.r - (W.l + ms.length)).toNat 0).length : Int) = grow (W.l + ms.length) W.r := by
        simp only [List.length_append, List.length_replicate]
        omega
      have hlast : ∀ (ns : List Int), (rows ++ [ns]).getD rows.length [] = ns := fun ns => by
        rw [List.getD_eq_getElem?_getD, List.getElem?_append_right (Nat.le_refl _), Nat.sub_self]; rfl
      refine ⟨⟨by simp, by simp, fun i hi => ?_, fun i => ?_⟩, ?_, rfl, ?_⟩
      · rw [List.getD_eq_getElem?_getD, List.getElem?_append_left hi, ← List.getD_eq_getElem?_getD]
      · by_cases hi : i < rows.length
        · rw [List.getD_eq_getElem?_getD, List.getElem?_append_left hi, ← List.getD_eq_getElem?_getD]; exact hb i
        · by_cases he : i = rows.length
          · subst he
            rw [hlast]
            omega
          · rw [List.getD_eq_getElem?_getD, List.getElem?_eq_none (by simp; omega)]
            simp
      · refine ⟨Int.natCast_nonneg _, Int.le_refl _, ?_, gb.1, ?_, ?_, ?_⟩
        · show 0 ≤ W.l + (ms.length : Int); omega
        · show grow (W.l + (ms.length : Int)) W.r < 100000; omega
        · simp
        · dsimp only
          rw [Int.toNat_natCast, hlast, hlen]
          omega
      · dsimp only
        omega
theorem cut_win {rows : List (List Int)} {W : Win} {lo : Int} (h : WinR rows W) (h0 : 0 ≤ lo) (h1 : lo ≤ W.l) : WinR rows ⟨W.row, W.b + lo, W.l - lo, W.r - lo⟩ := by
  obtain ⟨row, b, l, r⟩ := W
  cases row with
  | none =>
    obtain ⟨a, c, d⟩ := h
    dsimp only at a c d h1
    exact ⟨by dsimp only; omega, by dsimp only; omega, by dsimp only; omega⟩
  | some i =>
    obtain ⟨a, c, d, e, f, g, k⟩ := h
    dsimp only at a c d e f g k h1
    exact ⟨a, by dsimp only; omega, by dsimp only; omega, by dsimp only; omega, by dsimp only; omega, g, by dsimp only; omega⟩
theorem LawOk.next {rows rows' : List (List Int)} {Ws Ws' : List Win} {t : Nat} (O : LawOk rows Ws t) (e : Ext rows rows') (hl : Ws'.length ≤ Ws.length + 1) (h0 : 0 < Ws'.length)
    (h : ∀ W ∈ Ws', W ∈ Ws ∨ (WinR rows' W ∧ W.l ≤ 3 + 5 * ((t + 1 : Nat) : Int) ∧ W.r ≤ 6 + 10 * ((t + 1 : Nat) : Int))) : LawOk rows' Ws' (t + 1) := by
  have q1 := O.cl
  have q2 := O.wl
  have q3 := e.le1
  refine ⟨fun W hW => ?_, by omega, by omega, h0, e.big⟩
  rcases h W hW with h | h
  · obtain ⟨a, b, c⟩ := O.win W h
    exact ⟨e.win a, by omega, by omega⟩
  · exact h
theorem mem_set_or {α : Type} {l : List α} {k : Nat} {x y : α} (h : y ∈ l.set k x) : y ∈ l ∨ y = x := List.mem_or_eq_of_mem_set h
theorem LawOk.at {rows : List (List Int)} {Ws : List Win} {t k : Nat} {W : Win} (O : LawOk rows Ws t) (h : Ws[k]? = some W) : WinR rows W ∧ 0 ≤ W.b ∧ 0 ≤ W.l ∧ W.l ≤ W.r ∧ W.l ≤ 3 + 5 * t ∧ W.r ≤ 6 + 10 * t := by
  obtain ⟨a, b, c⟩ := O.win W (List.mem_of_getElem? h)
  obtain ⟨d, e, f⟩ := winR_nn a
  exact ⟨a, d, e, f, b, c⟩

-- PZ: reads of some and rows upon St; where the walk is to stop
theorem start_PZ : True := by
  w_top off
  trivial
section
variable {prog : Program} {w : World} {A : Around} {E : Value → Shared → Prop} {s : Shared} {h₀ : Heap} {L : Addr} {m : Str → Option Value} {led : Led} {ρ : Addr → Nat} {H HD KD S R RA SA : Addr} {cells : List Cell} {rs : List Addr} {rows : List (List Int)} {ps : List Addr} {Ws : List Win}
theorem len_some {Q : Value → Shared → Prop} (N : News h₀ L s.heap led) (K : St prog w led ρ H HD KD S R RA SA cells rs rows ps Ws) (hz : Ws.length < 1000) (h : ∀ z tk, Q (.int Ws.length z) { s with toks := tk }) : wpAny (model prog w) A (call (.builtin "len") [.ref SA]) Q E s := by
  obtain ⟨⟨n, a⟩, b, c, d⟩ := K.som
  have e : (ps.map Value.ref).length = Ws.length := by rw [List.length_map, c]
  have q := len_refs (prog := prog) (w := w) (A := A) (E := E) (Q := Q) N a (by omega)
  rw [e] at q
  exact q h
theorem len_rows {Q : Value → Shared → Prop} (N : News h₀ L s.heap led) (K : St prog w led ρ H HD KD S R RA SA cells rs rows ps Ws) (hz : rows.length < 1000) (h : ∀ z tk, Q (.int rows.length z) { s with toks := tk }) : wpAny (model prog w) A (call (.builtin "len") [.ref RA]) Q E s := by
  obtain ⟨⟨n, a⟩, b, c, d⟩ := K.row
  have e : (rs.map Value.ref).length = rows.length := by rw [List.length_map, c]
  have q := len_refs (prog := prog) (w := w) (A := A) (E := E) (Q := Q) N a (by omega)
  rw [e] at q
  exact q h
theorem item_some {t : Nat} {value slice : PySem.Expr} {k : Int} {u : Tok} {Q : Value → Shared → Prop} (N : News h₀ L s.heap led) (K : St prog w led ρ H HD KD S R RA SA cells rs rows ps Ws) (O : LawOk rows Ws t) (h0 : 0 ≤ k) (h1 : k < Ws.length) (hz : Ws.length < 1000)
    (h : ∀ p v wt W z1 z2 z3 z4, Ws[k.toNat]? = some W → (p, tupO [v, .ref wt]) ∈ led → ToldAt led v W → WinAt led wt W → (wt, tupO [rowV W.row z1, .int W.b z2, .int W.l z3, .int W.r z4]) ∈ led → WinR rows W → 0 ≤ W.b → 0 ≤ W.l → W.l ≤ W.r → W.l ≤ 3 + 5 * t → W.r ≤ 6 + 10 * t → Q (.ref p) s)
    (hs : ∀ l, subscripted slice false (.ref l) (.int k u) = operate [.ref l, .int k u] (getItem (.ref l) (.int k u))) :
    wpAny (model prog w) A (subscriptTail value slice (.ref SA) (.int k u)) Q E s := by
  obtain ⟨⟨n, a⟩, b, c, d⟩ := K.som
  have hk : k.toNat < ps.length := by omega
  have hk2 : k.toNat < Ws.length := by omega
  have e := List.getElem?_eq_getElem hk2
  obtain ⟨v, wt, q1, q2, q3⟩ := d k.toNat _ _ (List.getElem?_eq_getElem hk) e
  obtain ⟨o1, o2, o3, o4, o5, o6⟩ := O.at e
  refine item_ref (v := .ref ps[k.toNat]) N a h0 (by omega) (by rw [List.getElem?_map, List.getElem?_eq_getElem hk]; rfl) ?_ (hs _)
  obtain ⟨z1, z2, z3, z4, q5⟩ := id q3
  exact h _ _ _ _ _ _ _ _ e q1 q2 q3 q5 o1 o2 o3 o4 o5 o6
theorem item_rows {value slice : PySem.Expr} {k : Int} {u : Tok} {Q : Value → Shared → Prop} (N : News h₀ L s.heap led) (K : St prog w led ρ H HD KD S R RA SA cells rs rows ps Ws) (h0 : 0 ≤ k) (h1 : k.toNat < rows.length) (hz : rows.length < 1000)
    (h : ∀ r, rs[k.toNat]? = some r → Q (.ref r) s)
    (hs : ∀ l, subscripted slice false (.ref l) (.int k u) = operate [.ref l, .int k u] (getItem (.ref l) (.int k u))) :
    wpAny (model prog w) A (subscriptTail value slice (.ref RA) (.int k u)) Q E s := by
  obtain ⟨⟨n, a⟩, b, c, d⟩ := K.row
  have hk : k.toNat < rs.length := by omega
  refine item_ref (v := .ref rs[k.toNat]) N a h0 (by omega) ?_ (h _ (List.getElem?_eq_getElem hk)) (hs _)
  rw [List.getElem?_map, List.getElem?_eq_getElem hk]
  rfl
end
theorem St.off {prog : Program} {w : World} {led : Led} {ρ : Addr → Nat} {H HD KD S R RA SA ml : Addr} {cells : List Cell} {rs : List Addr} {rows : List (List Int)} {ps : List Addr} {Ws : List Win} (K : St prog w led ρ H HD KD S R RA SA cells rs rows ps Ws) (hlt : ∀ p ∈ led, p.1 ≠ ml) : (∀ (i : Nat) (c : Cell), cells[i]? = some c → ml ≠ c.c) ∧ (∀ (i : Nat) (r : Addr), rs[i]? = some r → ml ≠ r) ∧ ml ≠ RA ∧ ml ≠ S ∧ ml ≠ R ∧ ml ≠ SA := by
  have ne : ∀ {q : Addr} {o : Obj}, (q, o) ∈ led → ml ≠ q := fun hq => Ne.symm (hlt _ hq)
  obtain ⟨⟨_, _, _, _, _, _, g⟩, ⟨⟨_, _, _, _, _, a1, _⟩, ⟨_, _, _, a2, _⟩, _, _⟩, ⟨⟨_, a3⟩, _, _, g2⟩, ⟨⟨_, a4⟩, _, _, _⟩⟩ := K
  refine ⟨fun i c hc => ?_, fun i r hr => ?_, ne a3, ne a1, ne a2, ne a4⟩
  · obtain ⟨_, _, ⟨_, _, q, _⟩, _⟩ := g i c hc
    exact ne q
  · obtain ⟨_, _, q, _⟩ := g2 i r hr
    exact ne q
section
variable {prog : Program} {w : World} {dp un : Nat} {gd : Option (List Code)} {cn : Str} {cs : Scope} {a : Addr} {ccd : Value} {cl : List (Str × Addr)} {outer : List Env} {A₀ : Around} {base h₀ : Heap} {L : Addr} {m : Str → Option Value} {led : Led} {s : Shared} {Q E : Value → Shared → Prop} {p : Program} {loose : List Str} {mean : ExcName → Option Value} {mg mb : Str → Option Value}
theorem cut_St {ρ : Addr → Nat} {H HD KD S R RA SA : Addr} {cells : List Cell} {rs ps : List Addr} {rows : List (List Int)} {Ws : List Win} {v : Value} {W : Win} {lo hi : Int} {zl zh : Tok} (B : Below A₀ base outer h₀) (F : Fr h₀ L s.heap m) (X : (hd.heap_39 w.params).In h₀) (N : News h₀ L s.heap led) (T : Top p loose mean mg mb h₀) (hk : cs.kind = .function)
   (hdp : dp + 9 < recursionLimit) (hu : un + 300 < cLine) (K : St prog w led ρ H HD KD S R RA SA cells rs rows ps Ws) (hv : ToldAt led v W) (h0 : 0 ≤ lo) (h1 : lo ≤ hi) (h2 : hi ≤ W.r)
   (ret : ∀ h' tk' led' v', Fr h₀ L h' m → News h₀ L h' led' → KeepT led led' → St prog w led' ρ H HD KD S R RA SA cells rs rows ps Ws → ToldAt led' v' ⟨W.row, W.b + lo, hi - lo, W.r - lo⟩ → Q v' { s with heap := h', toks := tk' }) :
    wpAny (model prog w) (ktrTop dp un gd cn cs L a ccd cl outer) (call (.ref 149) [v, .int lo zl, .int hi zh, .none]) Q E s :=
  cut_slice_spec B F X N T hk hdp hu hv h0 h1 h2 fun h' tk' led' v' F' N' k t' => ret h' tk' led' v' F' N' (.of k) (K.grow k) t'
end
def Stop (P : Prop) : Prop := P
theorem stopped {P : Prop} (h : Stop P) : P := h
theorem line_36 : True := by
  k_with "call ref" => (k_here; (first | (with_reducible show wpAny _ _ (call (Value.ref 394) _) _ _ _) | (with_reducible show wpAny _ _ (call (Value.ref 401) _) _ _ _) | (with_reducible show wpAny _ _ (call (Value.ref 182) _) _ _ _) | (with_reducible show wpAny _ _ (call (Value.ref 422) _) _ _ _) | (with_reducible show wpAny _ _ (call (Value.ref 149) _) _ _ _) | (with_reducible show wpAny _ _ (call (Value.ref 196) _) _ _ _) | (with_reducible show wpAny _ _ (call (Value.ref 429) _) _ _ _) | (with_reducible show wpAny _ _ (call (Value.ref 189) _) _ _ _) | (with_reducible show wpAny _ _ (call (Value.ref 135) _) _ _ _)); (refine stopped ?_))
  trivial
local macro_rules | `(tactic| walk_at "call ref") => `(tactic| (k_here; (with_reducible show wpAny _ _ (call (Value.ref 373) _) _ _ _); (refine stopped ?_)))
theorem line_38 : True := by
  k_with "call builtin:list.append" => (k_here; (with_reducible show wpAny _ _ (call (Value.builtin _) [Value.ref _, Value.ref _]) _ _ _); (refine stopped ?_))
  trivial
theorem line_39 : True := by
  k_with "call builtin:len" => (k_here; (with_reducible show wpAny _ _ (call (Value.builtin "len") [Value.ref _]) _ _ _); (refine stopped ?_))
  trivial
theorem line_40 : True := by
  k_with "setItem ref int ref" => (k_here; (with_reducible show wpAny _ _ (setItem (Value.ref _) (Value.int _ _) (Value.ref _)) _ _ _); (refine stopped ?_))
  trivial
theorem line_41 : True := by
  k_with "setItem ref int int" => (k_here; (with_reducible show wpAny _ _ (setItem (Value.ref _) (Value.int _ _) (Value.int _ _)) _ _ _); (refine stopped ?_))
  trivial
local macro_rules | `(tactic| walk_at "setItem ref ref ref") => `(tactic| (k_here; (with_reducible show wpAny _ _ (setItem (Value.ref _) (Value.ref _) (Value.ref _)) _ _ _); (refine stopped ?_)))
theorem line_43 : True := by
  k_with "subscriptTail Name Name ref int" => (k_here; (with_reducible show wpAny _ _ (subscriptTail _ _ (Value.ref _) (Value.int _ _)) _ _ _); (refine stopped ?_))
  trivial
theorem line_44 : True := by
  k_with "subscriptTail Name Call ref int" => (k_here; (with_reducible show wpAny _ _ (subscriptTail _ _ (Value.ref _) (Value.int _ _)) _ _ _); (refine stopped ?_))
  trivial
theorem line_45 : True := by
  k_with "subscriptTail Name Subscript ref int" => (k_here; (with_reducible show wpAny _ _ (subscriptTail _ _ (Value.ref _) (Value.int _ _)) _ _ _); (refine stopped ?_))
  trivial

-- QC: a list comprehension over pairs of a list whose test is never true
theorem start_QC : True := by
  w_top off
  trivial
section
variable {prog : Program} {w : World} {A : Around} {E : Value → Shared → Prop} {s : Shared} {h₀ : Heap} {L : Addr} {m : Str → Option Value} {env : Env}
/-- a list comprehension over pairs of the ledger whose test is never true: where its source stands -/
def NoneSrc (prog : Program) (w : World) (A : Around) (h₀ : Heap) (L : Addr) (m : Str → Option Value) (env : Env) (c : PySem.Expr) (a b : Str) (scope : Scope) (cl : List (Str × Addr)) (Q : Value → Shared → Prop) (xv : Value) (s₁ : Shared) : Prop :=
  ∃ (ax : Addr) (vs : List Value) (n : Nat) (led : Led), xv = .ref ax ∧ A.handled = none ∧ Fr h₀ L s₁.heap m ∧ News h₀ L s₁.heap led ∧ (ax, lstO vs n) ∈ led ∧ (∀ (i : Nat) (v : Value), vs[i]? = some v → ∃ p x y, v = Value.ref p ∧ (p, tupO [x, y]) ∈ led) ∧
    (∀ (i : Nat) (p : Addr) (x y : Value) I oI C oC D m₂ h tk (E' : Value → Shared → Prop), vs[i]? = some (Value.ref p) → (p, tupO [x, y]) ∈ led → LCg.NsObj oC m₂ → m₂ a = some x → m₂ b = some y → Fr h₀ L h m → News h₀ L h ((I, oI) :: (C, oC) :: (D, LCg.lst []) :: led) → LCg.Off3 I C D led →
      ((@Ne Nat I C) ∧ (@Ne Nat I D) ∧ (@Ne Nat C D)) →
      wpAny (model prog w) A (isTrue c (compEnvC scope cl C env) (eval c (compEnvC scope cl C env))) (fun okb s₃ => okb = false ∧ ∃ h' tk', s₃ = { s₁ with heap := h', toks := tk' } ∧ Fr h₀ L h' m ∧ News h₀ L h' ((I, oI) :: (C, oC) :: (D, LCg.lst []) :: led)) E' { s₁ with heap := h, toks := tk }) ∧
    (∀ D h tk, Fr h₀ L h m → News h₀ L h ((D, LCg.lst []) :: led) → (∀ p ∈ led, p.1 ≠ D) → Q (.ref D) { s₁ with heap := h, toks := tk })
theorem comp_none {elt iter c : PySem.Expr} {a b : Str} {pa pb tp : Pos} {kk : Nat} {scope : Scope} {cl : List (Str × Addr)} {pos : Pos} {Q : Value → Shared → Prop}
    (_F₀ : Fr h₀ L s.heap m) (hclos : closureFor scope env = pure cl) (hcell : ∀ y ∈ scope.names, y.2 ≠ .cell) (hkind : scope.kind = .function)
    (hnames : ∀ y ∈ scope.names, y.2 = .local → scope.names.lookup y.1 = some .local) (hxa : scope.names.lookup a = some .local) (hxb : scope.names.lookup b = some .local) (hab : ¬ a = b)
    (h : wpAny (model prog w) A (eval iter env) (NoneSrc prog w A h₀ L m env c a b scope cl Q) E s)
    (hs : ∀ x, foldedSetIterable iter env x = pure x := by intro _; rfl) :
    wpAny (model prog w) A (eval (.ListComp elt [⟨.Tuple [.Name a pa, .Name b pb] kk tp, iter, [c], 0⟩] scope pos) env) Q E s := by
  rw [eval_ListComp]
  refine wpAny_comprehension_free (use := none) rfl hs hclos hkind hnames (wpAny_mono h (fun xv s₁ h₁ => ?_) fun _ _ e => e)
  obtain ⟨ax, vs, n, led, rfl, hh, F, N, hm, hpair, turn, fin⟩ := h₁
  have hax := N _ hm
  have hl : s₁.heap.IsList ax vs.toArray := ⟨_, hax.1, rfl, n, rfl⟩
  have hlt : ax < s₁.heap.objs.size := Heap.lt_size hax.1
  refine wpAny_pyIter_list hl ?_
  generalize hH1 : s₁.heap.push { cls := .type "list_iterator", data := .fields #[.ref ax, .int 0 0] } = H1
  have up1 : ∀ b o, s₁.heap.get? b = some o → H1.get? b = some o := fun b o e => hH1 ▸ Heap.get?_push_of_some _ e
  have sz1 : H1.objs.size = s₁.heap.objs.size + 1 := by rw [← hH1, Heap.size_push]
  have F1 : Fr h₀ L H1 m := F.keeps up1
  have N1 : News h₀ L H1 led := N.grown up1
  have hI0 : h₀.get? s₁.heap.objs.size = none := next_is_new F
  have hLI : L ≠ s₁.heap.objs.size := Nat.ne_of_lt F.ns.lt
  have hit : H1.IsListIter s₁.heap.objs.size ax 0 := hH1 ▸ ⟨_, Heap.get?_push_size _ rfl, rfl, rfl⟩
  have offI : ∀ p ∈ led, p.1 ≠ s₁.heap.objs.size := fun p hp => Nat.ne_of_lt (Heap.lt_size (N p hp).1)
  have hIlt : s₁.heap.objs.size < H1.objs.size := by rw [sz1]; exact Nat.lt_succ_self _
  generalize hIe : s₁.heap.objs.size = I at *
  refine wpAny_newObj_type (wpAny_newFunctionEnv hcell (by intro y hy; simp at hy) (fun h₁ hns₁ hsb₁ => ?_) hkind)
  dsimp only at hns₁ hsb₁ ⊢
  generalize hH2 : H1.push { cls := .type "list", dict := none, data := .seq ([] : List Value).toArray } = H2 at hns₁ hsb₁ ⊢
  have hC : H2.objs.size = H1.objs.size + 1 := by rw [← hH2, Heap.size_push]
  have hDC : H1.objs.size ≠ H2.objs.size := by rw [hC]; exact Nat.ne_of_lt (Nat.lt_succ_self _)
  have below : ∀ b, b < H1.objs.size → b ≠ H2.objs.size ∧ b ≠ H1.objs.size := fun b hb => ⟨by rw [hC]; exact Nat.ne_of_lt (Nat.lt_succ_of_lt hb), Nat.ne_of_lt hb⟩
  have old : ∀ b o, H1.get? b = some o → h₁.get? b = some o := fun b o e => hsb₁.extBut b o (below b (Heap.lt_size e)).1 (Heap.get?_push_of_some _ (hH2 ▸ Heap.get?_push_of_some _ e))
  have hacc : h₁.get? H1.objs.size = some (LCg.lst []) := hsb₁.extBut _ _ hDC (Heap.get?_push_of_some _ (hH2 ▸ Heap.get?_push_size _ rfl))
  have fresh₀ : ∀ a, H1.objs.size ≤ a → h₀.get? a = none := fun a ha => by
    cases e : h₀.get? a with
    | none => rfl
    | some o' =>
      have := Heap.lt_size (F1.keep a o' e)
      exact absurd this (Nat.not_lt.mpr ha)
  have hD₀ : h₀.get? H1.objs.size = none := fresh₀ _ (Nat.le_refl _)
  have hC₀ : h₀.get? H2.objs.size = none := fresh₀ _ (by rw [hC]; exact Nat.le_succ _)
  have hLlt : L < H1.objs.size := F1.ns.lt
  have hDL : H1.objs.size ≠ L := Ne.symm (below L hLlt).2
  have hCL : H2.objs.size ≠ L := Ne.symm (below L hLlt).1
  have hCI : I ≠ H2.objs.size := (below I hIlt).1
  have hDI : I ≠ H1.objs.size := (below I hIlt).2
  have hneA : ax ≠ I := Nat.ne_of_lt hlt
  have off₀ : LCg.Off3 I H2.objs.size H1.objs.size led := LCg.Off3.of fun p hp => ⟨offI p hp, (below _ (Heap.lt_size (N1 p hp).1)).1, (below _ (Heap.lt_size (N1 p hp).1)).2⟩
  have off3 := off₀.mem
  have W := Walks.list (prog := prog) (w := w) hh I ax hneA vs.toArray
  have hit₁ : h₁.IsListIter I ax 0 := hit.at fun o e => old _ o e
  have loop : ∀ s₃ : Shared, s₃ = { s₁ with heap := h₁, toks := s₁.toks + ([] : List (Str × Value)).length } →
      codeAny (model prog w) A (.compLoop (.ListComp elt [⟨.Tuple [.Name a pa, .Name b pb] kk tp, iter, [c], 0⟩] scope pos) 0 (.ref I) (.ref H1.objs.size) (compEnvC scope cl H2.objs.size env))
        (compPost (model prog w) A E none Q (.ref H1.objs.size) H2.objs.size) s₃ := by
    rintro s₃ rfl
    refine kct_loop
      (fun k s' => ∃ h' tk i m', s' = { s₁ with heap := h', toks := tk } ∧ i ≤ vs.length ∧ k = vs.length + 1 - i ∧ h'.IsListIter I ax i ∧ Fr h₀ L h' m ∧ h'.Ns H2.objs.size m' ∧ News h₀ L h' ((H1.objs.size, LCg.lst []) :: led)) ?_ (vs.length + 1)
      ⟨h₁, _, 0, _, rfl, Nat.zero_le _, rfl, hit₁, F1.keeps old, hns₁, fun p hp => ?_⟩
    · rintro k s' ⟨h', tk, i, m', rfl, hi, rfl, hit', F', hn', N'⟩
      have hla : h'.IsList ax vs.toArray := ⟨_, (N' _ (List.mem_cons_of_mem _ hm)).1, rfl, n, rfl⟩
      by_cases hlt' : i < vs.length
      · refine W.item i _ _ _ (by simpa using hlt') ⟨hit', hla⟩ fun v h₂ tk₂ hP hst₂ hk₂ => ?_
        have hv : vs[i]? = some v := by
          have hP' : vs.toArray[i]? = some v := hP
          simpa using hP'
        refine letGo_listiter hst₂.1 ?_
        obtain ⟨p, x, y, rfl, hp⟩ := hpair i v hv
        have hpI : p ≠ I := offI _ hp
        have hT : h₂.IsTuple p #[x, y] := ⟨_, hk₂ _ _ (by simpa using hpI) (N' _ (List.mem_cons_of_mem _ hp)).1, rfl, _, rfl⟩
        refine kcp_assign (env := compEnvC scope cl H2.objs.size env) hh hT (lookup_relabel_local hxa) (lookup_relabel_local hxb) (by simp [compEnvC, relabel, hkind]) (hn'.at' fun o e => hk₂ _ o (by simpa using Ne.symm hCI) e) fun h₄ tk₄ hn₄ hs₄ => ?_
        have up : ∀ c o, c ≠ I → c ≠ H2.objs.size → h'.get? c = some o → h₄.get? c = some o := fun c o g1 g2 e => hs₄ c o g2 (hk₂ c o (by simpa using g1) e)
        have hI₄ : h₄.IsListIter I ax (i + 1) := hst₂.1.at fun o e => hs₄ I o hCI e
        obtain ⟨oI, heI, hoI⟩ : ∃ oI : Obj, h₄.get? I = some oI ∧ ∀ h : Heap, h.get? I = some oI → h.IsListIter I ax (i + 1) := by
          obtain ⟨o, e, r⟩ := hI₄
          exact ⟨o, e, fun h e' => ⟨o, e', r⟩⟩
        obtain ⟨oC, heC, hoC⟩ := LCg.ns_obj hn₄
        have F₄ : Fr h₀ L h₄ m := ⟨F'.ns.at' fun o e => up _ o hLI (Ne.symm hCL) e, fun c o e => up c o (fun q => by rw [q, hI0] at e; cases e) (fun q => by rw [q, hC₀] at e; cases e) (F'.keep c o e), F'.above⟩
        have N₄ : News h₀ L h₄ ((I, oI) :: (H2.objs.size, oC) :: (H1.objs.size, LCg.lst []) :: led) := fun q hq => by
          rcases List.mem_cons.mp hq with rfl | hq
          · exact ⟨heI, Ne.symm hLI, hI0⟩
          · rcases List.mem_cons.mp hq with rfl | hq
            · exact ⟨heC, hCL, hC₀⟩
            · have z := N' q hq
              refine ⟨up _ _ ?_ ?_ z.1, z.2⟩
              · rcases List.mem_cons.mp hq with rfl | hq
                · exact Ne.symm hDI
                · exact (off3 q hq).1
              · rcases List.mem_cons.mp hq with rfl | hq
                · exact hDC
                · exact (off3 q hq).2.1
        refine wpAny_mono (turn i p x y I oI H2.objs.size oC H1.objs.size _ h₄ _ _ hv hp hoC (by simp [hab]) (by simp) F₄ N₄ off₀ ⟨hCI, hDI, Ne.symm hDC⟩) (fun okb s₅ h₅ => ?_) fun _ _ e => e
        obtain ⟨rfl, h₅, tk₅, rfl, F₅, N₅⟩ := h₅
        simp only [Bool.false_eq_true, if_false]
        have zI := (N₅ (I, oI) List.mem_cons_self).1
        have zC := (N₅ (H2.objs.size, oC) (List.mem_cons_of_mem _ List.mem_cons_self)).1
        exact ⟨vs.length + 1 - (i + 1), by omega, h₅, tk₅, i + 1, _, rfl, hlt', rfl, hoI h₅ zI, F₅, hoC.ns zC, fun q hq => N₅ q (List.mem_cons_of_mem _ (List.mem_cons_of_mem _ hq))⟩
      · have hin : i = vs.length := Nat.le_antisymm hi (Nat.not_lt.mp hlt')
        subst hin
        refine W.done _ _ _ ⟨by simpa using hit', hla⟩ fun h₂ tk₂ hk₂ => ?_
        refine ⟨m', hn'.at' fun o e => hk₂ _ o (by simpa using Ne.symm hCI) e, fun h'' hs'' => fin H1.objs.size h'' tk₂ ((LCg.fr_but F' hk₂ hLI hI0).change hs'' hCL hC₀) (fun p hp => ?_) fun p hp => (off3 p hp).2.2⟩
        have z : h₂.get? p.1 = some p.2 := hk₂ _ _ ?_ (N' p hp).1
        · refine ⟨hs''.extBut _ _ ?_ z, (N' p hp).2⟩
          rcases List.mem_cons.mp hp with rfl | hp
          · exact hDC
          · exact (off3 p hp).2.1
        · rcases List.mem_cons.mp hp with rfl | hp
          · simpa using Ne.symm hDI
          · simpa using (off3 p hp).1
    · rcases List.mem_cons.mp hp with rfl | hp
      · exact ⟨hacc, hDL, hD₀⟩
      · exact ⟨old _ _ (N1 p hp).1, (N1 p hp).2⟩
  exact codeAny_compStart_list (loop _ rfl) (W.self 0 _ _ _ ⟨hit₁, ⟨_, old _ _ (N1 _ hm).1, rfl, n, rfl⟩⟩ (loop _ rfl))
end

-- QD: _law_pool; St at the start
theorem start_QD : True := by
  w_top off
  trivial
local macro_rules | `(tactic| is_list) => `(tactic| exact stays_list (Fr.keep (by k_asm)) (stays_list (Below.stays (by k_asm)) (by assumption)))
theorem pool_big (x : Int) : 0 ≤ (if -1 - x > x then -1 - x else x) * (if decide (10 ^ Int.toNat 18 ≤ if -1 - x > x then -1 - x else x) = true then 1 else 0) := by
  have h0 : 0 ≤ (if -1 - x > x then -1 - x else x) := by split <;> omega
  generalize (if -1 - x > x then -1 - x else x) = y at *
  by_cases h : decide (10 ^ Int.toNat 18 ≤ y) = true
  · rw [if_pos h]; omega
  · rw [if_neg h]; omega
section
variable {prog : Program} {w : World} {dp un : Nat} {gd : Option (List Code)} {cn : Str} {cs : Scope} {a : Addr} {ccd : Value} {cl : List (Str × Addr)} {outer : List Env} {A₀ : Around} {base h₀ : Heap} {L : Addr} {m : Str → Option Value} {led : Led} {s : Shared} {Q E : Value → Shared → Prop} {p : Program} {loose : List Str} {mean : ExcName → Option Value} {mg mb : Str → Option Value}
theorem pool_nil {sa row : Addr} {rvs : List Value} {ris : List Int} {k : Nat} (B : Below A₀ base outer h₀) (F : Fr h₀ L s.heap m) (X : (hd.heap_39 w.params).In h₀) (N : News h₀ L s.heap led) (T : Top p loose mean mg mb h₀) (hk : cs.kind = .function)
   (hdp : dp + 2 < recursionLimit) (hu : un + 200 < cLine) (hs : base.IsList sa ([] : List Value).toArray) (hi : IntsAre [] []) (hr : (row, lstO rvs k) ∈ led) (hri : IntsAre rvs ris) (hrl : ris.length < 100)
   (ret : ∀ h' tk' S big mixed t0 t1 n led', Fr h₀ L h' m → News h₀ L h' ((S, lstO [.int big t0, .int mixed t1, .ref row] n) :: led') → (∀ p ∈ led, p ∈ led') → 0 ≤ big → 0 ≤ mixed → mixed < 2147483647 → (∀ p ∈ led, p.1 < S) → Q (.ref S) { s with heap := h', toks := tk' }) :
    wpAny (model prog w) (ktrTop dp un gd cn cs L a ccd cl outer) (call (.ref 387) [.ref sa, .ref row]) Q E s := by
  k_steps
  (repeat (rename _ ∧ _ => hc9; obtain ⟨_, _⟩ := hc9))
  refine ret _ _ _ _ _ _ _ _ _ (by k_asm) (by k_asm) (fun p hp => .tail _ (.tail _ hp)) (pool_big _) ?_ ?_ (allLt_to (by assumption))
  · exact (fmod_lt (by omega)).1
  · exact (fmod_lt (by omega)).2
theorem pool_cons {sa row : Addr} {v0 : Value} {vs rvs : List Value} {i0 : Int} {is ris : List Int} {k : Nat} (B : Below A₀ base outer h₀) (F : Fr h₀ L s.heap m) (X : (hd.heap_39 w.params).In h₀) (N : News h₀ L s.heap led) (T : Top p loose mean mg mb h₀) (hk : cs.kind = .function)
   (hdp : dp + 2 < recursionLimit) (hu : un + 200 < cLine) (hs : base.IsList sa (v0 :: vs).toArray) (hi : IntsAre (v0 :: vs) (i0 :: is)) (hr : (row, lstO rvs k) ∈ led) (hri : IntsAre rvs ris) (hrl : ris.length < 100)
   (ret : ∀ h' tk' S R big mixed t0 t1 n led', Fr h₀ L h' m → News h₀ L h' ((S, lstO [.int big t0, .int mixed t1, .ref R] n) :: (R, lstO [] 0) :: led') → (∀ p ∈ led, p ∈ led') → 0 ≤ big → 0 ≤ mixed → mixed < 2147483647 → (∀ p ∈ led, p.1 < S) → R < S → (∀ p ∈ led, p.1 < R) → Q (.ref S) { s with heap := h', toks := tk' }) :
    wpAny (model prog w) (ktrTop dp un gd cn cs L a ccd cl outer) (call (.ref 387) [.ref sa, .ref row]) Q E s := by
  have hne : (!decide (i0 :: is = [])) = true := by simp
  k_steps
  · rename decide _ = _ => hx9
    exact absurd (of_decide_eq_true hx9) (by simp)
  (repeat (rename _ ∧ _ => hc9; obtain ⟨_, _⟩ := hc9))
  refine ret _ _ _ _ _ _ _ _ _ _ (by k_asm) (by k_asm) (fun p hp => .tail _ (.tail _ hp)) (pool_big _) (fmod_lt (by omega)).1 (fmod_lt (by omega)).2 (allLt_to (by assumption)) (by assumption) (allLt_to (by assumption))
end
section
variable {prog : Program} {w : World} {dp un : Nat} {gd : Option (List Code)} {cn : Str} {cs : Scope} {a : Addr} {ccd : Value} {cl : List (Str × Addr)} {outer : List Env} {A₀ : Around} {base h₀ : Heap} {L : Addr} {m : Str → Option Value} {led : Led} {s : Shared} {Q E : Value → Shared → Prop} {p : Program} {loose : List Str} {mean : ExcName → Option Value} {mg mb : Str → Option Value}
theorem pool_spec {sa row : Addr} {vs rvs : List Value} {is ris : List Int} {k : Nat} {rest : Led} (B : Below A₀ base outer h₀) (F : Fr h₀ L s.heap m) (X : (hd.heap_39 w.params).In h₀) (N : News h₀ L s.heap ((row, lstO rvs k) :: rest)) (T : Top p loose mean mg mb h₀) (hk : cs.kind = .function)
   (hdp : dp + 2 < recursionLimit) (hu : un + 200 < cLine) (hs : base.IsList sa vs.toArray) (hi : IntsAre vs is) (hri : IntsAre rvs ris) (hrl : ris.length < 100) (hrow : ∀ p ∈ rest, p.1 < row)
   (ret : ∀ h' tk' S R big mixed t0 t1 n rvs' ris' k', Fr h₀ L h' m → News h₀ L h' ((S, lstO [.int big t0, .int mixed t1, .ref R] n) :: (R, lstO rvs' k') :: rest) → IntsAre rvs' ris' → ris'.length < 100 →
      0 ≤ big → 0 ≤ mixed → mixed < 2147483647 → (∀ p ∈ (R, lstO rvs' k') :: rest, p.1 < S) → (∀ p ∈ rest, p.1 < R) → Q (.ref S) { s with heap := h', toks := tk' }) :
    wpAny (model prog w) (ktrTop dp un gd cn cs L a ccd cl outer) (call (.ref 387) [.ref sa, .ref row]) Q E s := by
  cases hi with
  | nil =>
    refine pool_nil B F X N T hk hdp hu hs .nil (.head _) hri hrl fun h' tk' S big mixed t0 t1 n led' F' N' k' b1 b2 b3 l => ret h' tk' S row big mixed t0 t1 n rvs ris k F' (cb_drop N' fun p hp => ?_) hri hrl b1 b2 b3 l hrow
    rcases List.mem_cons.mp hp with rfl | hp
    · exact .head _
    · exact .tail _ (k' _ hp)
  | cons z t r =>
    refine pool_cons B F X N T hk hdp hu hs (.cons z t r) (.head _) hri hrl fun h' tk' S R big mixed t0 t1 n led' F' N' k' b1 b2 b3 l l2 l3 => ret h' tk' S R big mixed t0 t1 n [] [] 0 F' (cb_drop N' fun p hp => ?_) .nil (by simp) b1 b2 b3 (fun p hp => ?_) fun p hp => l3 _ (.tail _ hp)
    · rcases List.mem_cons.mp hp with rfl | hp
      · exact .head _
      · rcases List.mem_cons.mp hp with rfl | hp
        · exact .tail _ (.head _)
        · exact .tail _ (.tail _ (k' _ (.tail _ hp)))
    · rcases List.mem_cons.mp hp with rfl | hp
      · exact l2
      · exact l _ (.tail _ hp)
end
theorem St.start {prog : Program} {w : World} {led : Led} {h₀ h : Heap} {L : Addr} {H HD KD S R RA SA p0 wt0 : Addr} {big mixed : Int} {t0 t1 : Tok} {n nA nS k : Nat} {rvs : List Value} {ris : List Int} {o : Obj} {z1 z2 z3 : Tok}
    (N : News h₀ L h led) (hS : (S, lstO [.int big t0, .int mixed t1, .ref R] n) ∈ led) (hb : 0 ≤ big) (hm1 : 0 ≤ mixed) (hm2 : mixed < 2147483647) (hR : (R, lstO rvs k) ∈ led) (hri : IntsAre rvs ris) (hrl : ris.length < 100)
    (hH : (H, instObj 376 HD) ∈ led) (hHD : ∃ z1 z2 z3 z4 z5 z6 z7, (HD, heapD w.params KD 0 z1 z2 z3 z4 z5 z6 z7) ∈ led) (hKD : (KD, o) ∈ led) (hK : o.IsDictOf (intKind prog w) []) (lo : (KD == sysModules) = false)
    (hRA : (RA, lstO [] nA) ∈ led) (hSA : (SA, lstO [.ref p0] nS) ∈ led) (hp0 : (p0, tupO [.none, .ref wt0]) ∈ led) (hwt0 : (wt0, tupO [.none, .int 0 z1, .int 0 z2, .int 0 z3]) ∈ led)
    (g1 : @LT.lt Nat _ R S) (g2 : @LT.lt Nat _ S HD) (g3 : @LT.lt Nat _ HD KD) (g4 : @LT.lt Nat _ KD RA) (g5 : @LT.lt Nat _ RA SA) :
    St prog w led (fun a => if @Eq Nat a HD then 0 else if @Eq Nat a KD then 1 else if @Eq Nat a S then 2 else if @Eq Nat a R then 3 else if @Eq Nat a RA then 4 else 5) H HD KD S R RA SA [] [] [] [p0] [⟨none, 0, 0, 0⟩] := by
  refine ⟨⟨hH, hHD, ⟨o, hKD, hK⟩, lo, ?_, ?_, fun i c h => by simp at h⟩, ⟨⟨_, _, _, _, _, hS, hb, hm1, hm2⟩, ⟨_, _, _, hR, hri, hrl⟩, ?_, ?_⟩, ⟨⟨_, hRA⟩, ?_, rfl, fun i c h => by simp at h⟩, ⟨⟨_, hSA⟩, ?_, rfl, fun i p W h1 h2 => ?_⟩⟩
  · rw [if_pos rfl]
  · rw [if_neg (by omega), if_pos rfl]
  · rw [if_neg (by omega), if_neg (by omega), if_pos rfl]
  · rw [if_neg (by omega), if_neg (by omega), if_neg (by omega), if_pos rfl]
  · rw [if_neg (by omega), if_neg (by omega), if_neg (by omega), if_neg (by omega), if_pos rfl]
  · rw [if_neg (by omega), if_neg (by omega), if_neg (by omega), if_neg (by omega), if_neg (by omega)]
  · cases i with
    | zero =>
      cases h1
      cases h2
      exact ⟨.none, wt0, hp0, ⟨rfl, rfl, rfl, rfl⟩, z1, z1, z2, z3, hwt0⟩
    | succ i => simp at h1

-- QE: the two loops of the law: for over range with St as invariant
theorem start_QE : True := by
  w_top off
  trivial
def rngO (x l : Int) : Obj := { cls := .type "range_iterator", dict := none, data := .fields #[rawInt x, rawInt l, rawInt 1], slots := #[] }
def RngEnd (h₀ : Heap) (L I : Addr) (oI : Obj) (J : (Str → Option Value) → Led → Prop) (s₁ s₂ : Shared) : Prop :=
  ∃ h' tk m' led2, s₂ = { s₁ with heap := h', toks := tk } ∧ Fr h₀ L h' m' ∧ News h₀ L h' led2 ∧ (I, oI) ∈ led2 ∧ J m' (wo [I] led2)
def RngPost (h₀ : Heap) (L I : Addr) (oI : Obj) (J : (Str → Option Value) → Led → Prop) (s₁ : Shared) (Q : Flow → Shared → Prop) (f : Flow) (s₂ : Shared) : Prop :=
  match f with
  | .ret v => Q (.ret v) s₂
  | .brk => Q .next s₂
  | _ => RngEnd h₀ L I oI J s₁ s₂
section
variable {prog : Program} {w : World} {A : Around} {E : Value → Shared → Prop} {s : Shared} {env : Env} {h₀ : Heap} {x : Str} {body : List Stmt} {L : Addr} {m : Str → Option Value} {led : Led}
theorem range_abs {n : Int} {t : Tok} {Q : Value → Shared → Prop} (F : Fr h₀ L s.heap m) (N : News h₀ L s.heap led)
    (h : ∀ h' r t₁ u₁ v₁ tk, Fr h₀ L h' m → News h₀ L h' led → IsRange h' r 0 n 1 t₁ u₁ v₁ → Q (.ref r) { s with heap := h', toks := tk }) : wpAny (model prog w) A (call (.type "range") [.int n t]) Q E s :=
  call_range_1 (h _ _ _ _ _ _ (F.push _) (fun p hp => ⟨Heap.get?_push_of_some _ (N p hp).1, (N p hp).2⟩) (IsRange.new ..))
theorem small_range {n : Int} (h0 : 0 ≤ n) (h1 : n < 1000) : Builtin.Range.small 0 n 1 = true := by
  unfold Builtin.Range.small Builtin.Range.rangeFitsLong
  rw [rangeSize_one]
  split
  all_goals simp
  all_goals omega
theorem loop_range {Q : Flow → Shared → Prop} {r : Addr} {n : Int} {t₀ u₀ v₀ : Tok} {m₀ : Str → Option Value} {news : Led} (J : Nat → (Str → Option Value) → Led → Prop)
    (hh : A.handled = none) (hr : IsRange s.heap r 0 n 1 t₀ u₀ v₀) (h0 : 0 ≤ n) (h1 : n < 1000) (F : Fr h₀ env.locals s.heap m₀) (N : News h₀ env.locals s.heap news) (hj : J 0 m₀ news)
    (turn : ∀ (i : Nat) t m₁ nx h tk I y l, (i : Int) < n → (∀ p ∈ nx, p.1 ≠ I) → J i m₁ nx → Fr h₀ env.locals h (fun y => if y = x then some (.int i t) else m₁ y) → News h₀ env.locals h ((I, rngO y l) :: nx) →
      wpAny (model prog w) A (execs body env) (RngPost h₀ env.locals I (rngO y l) (J (i + 1)) { s with heap := h, toks := tk } Q) E { s with heap := h, toks := tk })
    (done : ∀ m₁ nx h tk, J n.toNat m₁ nx → Fr h₀ env.locals h m₁ → News h₀ env.locals h nx → Q .next { s with heap := h, toks := tk }) :
    wpAny (model prog w) A (pyIter (.ref r)) (fun it s₂ => LoopAtV prog w A h₀ env x body Q E it s₂) E s := by
  have hn : Builtin.Range.rangeSize 0 n 1 = (n.toNat : Int) := by rw [rangeSize_one]; split <;> omega
  refine wpAny_pyIter_range hr (small_range h0 h1) ?_
  have W : Walks prog w A s.heap.objs.size [s.heap.objs.size] [s.heap.objs.size] n.toNat (fun i v => i < n.toNat ∧ ∃ t, v = .int (0 + i * 1) t)
      (fun i h => IsRangeIter h s.heap.objs.size (0 + (i : Nat) * 1) ((n.toNat : Int) - (i : Nat)) 1) := (Walks.range hh _ 0 1 n.toNat).bound
  have hIn : h₀.get? s.heap.objs.size = none := next_is_new F
  refine ⟨_, _, _, _, _, _, m₀, news, J, rfl, W, ?_, ?_, ?_, (by show IsRangeIter _ _ _ _ _; rw [hn]; simpa using Heap.get?_push_size _ rfl), F.push _, fun p hp => ⟨Heap.get?_push_of_some _ (N p hp).1, (N p hp).2⟩, hj, ?_, ?_⟩
  · intro hm
    exact absurd F.ns.lt ((List.mem_singleton.mp hm) ▸ Nat.lt_irrefl _)
  · intro b hb
    rw [List.mem_singleton.mp hb]
    exact hIn
  · intro p hp hI
    exact absurd (Heap.lt_size (N p hp).1) ((List.mem_singleton.mp hI) ▸ Nat.lt_irrefl _)
  · rintro i v m₁ news₁ s₁ own ⟨hh', tk', rfl⟩ hin hP hJ hoff hown hget hmem hst' F₁ N₁
    obtain ⟨hi2, t, rfl⟩ := hP
    have e1 : (0 : Int) + (i : Int) * 1 = (i : Int) := by omega
    rw [e1] at F₁
    have hst2 : hh'.get? s.heap.objs.size = some (rngO (0 + ((i + 1 : Nat) : Int) * 1) ((n.toNat : Int) - ((i + 1 : Nat) : Int))) := hst'
    have hoI := hmem _ (List.mem_singleton.mpr rfl) hIn _ hst2
    have off : ∀ p ∈ news₁, p.1 ≠ s.heap.objs.size := fun p hp e => hoff p hp (by rw [e]; exact List.mem_singleton.mpr rfl)
    have N₂ : News h₀ env.locals hh' ((s.heap.objs.size, rngO (0 + ((i + 1 : Nat) : Int) * 1) ((n.toNat : Int) - ((i + 1 : Nat) : Int))) :: news₁) := fun p hp => by
      rcases List.mem_cons.mp hp with rfl | hp
      · exact N₁ _ (List.mem_append_left _ hoI)
      · exact N₁ _ (List.mem_append_right _ hp)
    refine wpAny_mono (turn i t m₁ news₁ hh' tk' _ _ _ (by omega) off hJ F₁ N₂) (fun f s₂ p => ?_) fun _ _ e => e
    have fin : RngEnd h₀ env.locals s.heap.objs.size (rngO (0 + ((i + 1 : Nat) : Int) * 1) ((n.toNat : Int) - ((i + 1 : Nat) : Int))) (J (i + 1)) { s with heap := hh', toks := tk' } s₂ →
        LoopStepU h₀ env.locals [s.heap.objs.size] own (J (i + 1)) { s with heap := hh', toks := tk' } .next s₂ := by
      rintro ⟨h', tk, m', led2, e, F', N', hI2, hm⟩
      refine ⟨rfl, h', tk, m', wo [s.heap.objs.size] led2, e, F', ?_, fun p hp => (mem_wo.mp hp).2, hm⟩
      intro p hp
      rcases List.mem_append.mp hp with hp | hp
      · have h2 := hget p hp
        obtain ⟨pa, po⟩ := p
        have h3 : pa = s.heap.objs.size := by simpa using hown _ hp
        subst h3
        have h2' : hh'.get? s.heap.objs.size = some po := h2
        rw [hst2] at h2'
        have h4 := Option.some.inj h2'
        subst h4
        exact N' _ hI2
      · exact N' _ (mem_wo.mp hp).1
    cases f with
    | ret v => exact .ret p
    | brk => exact .brk p
    | next => exact .next (fin p)
    | cont => exact .cont (fin p)
  · rintro h' tk m' news' F' N' _ hJ
    exact done m' news' h' tk hJ F' N'
theorem St.wo {ρ : Addr → Nat} {H HD KD S R RA SA I : Addr} {cells : List Cell} {rs ps : List Addr} {rows : List (List Int)} {Ws : List Win} {y l : Int} (K : St prog w led ρ H HD KD S R RA SA cells rs rows ps Ws) {h : Heap} (N : News h₀ L h led) (hI : (I, rngO y l) ∈ led) :
    St prog w (Mine.wo [I] led) ρ H HD KD S R RA SA cells rs rows ps Ws := by
  have k : ∀ {a : Addr} {o : Obj}, (a, o) ∈ led → o.cls ≠ .type "range_iterator" → (a, o) ∈ Mine.wo [I] led := fun hm hne => mem_wo.mpr ⟨hm, by rw [List.mem_singleton]; exact ne_cls N hm hI hne⟩
  obtain ⟨H1, ⟨⟨big, mixed, t0, t1, n, a, b⟩, ⟨rvs, ris, kk, c, d⟩, e, f⟩, ⟨⟨n2, a2⟩, b2, c2, d2⟩, ⟨⟨n3, a3⟩, b3, c3, d3⟩⟩ := K
  refine ⟨H1.growP fun p hp h => k hp ?_, ⟨⟨big, mixed, t0, t1, n, k a (by simp), b⟩, ⟨rvs, ris, kk, k c (by simp), d⟩, e, f⟩, ⟨⟨n2, k a2 (by simp)⟩, b2, c2, fun i r hr => ?_⟩, ⟨⟨n3, k a3 (by simp)⟩, b3, c3, fun i p W h1 h2 => ?_⟩⟩
  · rcases h with h | h | ⟨_, h⟩ <;> (rw [h]; simp)
  · obtain ⟨us, n, g1, g2, g3⟩ := d2 i r hr
    exact ⟨us, n, k g1 (by simp), g2, g3⟩
  · exact (d3 i p W h1 h2).mono fun t vs hm => k hm (by simp)
theorem cell_wo {I a : Addr} {o : Obj} {v : Option Value} {y l : Int} {h : Heap} (N : News h₀ L h led) (hm : (a, o) ∈ led) (hd : o.data = .cell v) (hI : (I, rngO y l) ∈ led) : (a, o) ∈ Mine.wo [I] led := by
  refine mem_wo.mpr ⟨hm, ?_⟩
  rw [List.mem_singleton]
  intro e
  have e' : a = I := e
  subst e'
  have := ne_obj N hm hI
  rw [this] at hd
  cases hd
end
/-- the end of a turn of one of law's loops -/
def LawEnd (prog : Program) (w : World) (h₀ : Heap) (L : Addr) (H HD KD S R RA SA : Addr) (stored : List Str) (m₀ : Str → Option Value) (P : List Cell → List Win → Prop) (led : Led) (s₁ s₂ : Shared) : Prop :=
  ∃ h' tk m' led2 ρ cells rs ps Ws, s₂ = { s₁ with heap := h', toks := tk } ∧ Fr h₀ L h' m' ∧ (∀ z, stored.contains z = false → m' z = m₀ z) ∧ News h₀ L h' led2 ∧ KeepT led led2 ∧ St prog w led2 ρ H HD KD S R RA SA cells rs (rowsOf cells) ps Ws ∧ P cells Ws
def LawPost (prog : Program) (w : World) (h₀ : Heap) (L : Addr) (H HD KD S R RA SA : Addr) (stored : List Str) (m₀ : Str → Option Value) (P : List Cell → List Win → Prop) (led : Led) (s₁ : Shared) (Q : Flow → Shared → Prop) (f : Flow) (s₂ : Shared) : Prop :=
  match f with
  | .ret v => Q (.ret v) s₂
  | .brk => Q .next s₂
  | _ => LawEnd prog w h₀ L H HD KD S R RA SA stored m₀ P led s₁ s₂
section
variable {prog : Program} {w : World} {A : Around} {E : Value → Shared → Prop} {s : Shared} {env : Env} {h₀ : Heap} {x : Str} {body : List Stmt}
theorem law_loop {Q : Flow → Shared → Prop} {r : Addr} {n : Int} {t₀ u₀ v₀ : Tok} {m₀ : Str → Option Value} {led : Led} {ρ : Addr → Nat} {H HD KD S R RA SA aH aR : Addr} {oH oR : Obj} {vH vR : Option Value} {cells : List Cell} {rs ps : List Addr} {Ws : List Win} (P : Nat → List Cell → List Win → Prop) (stored : List Str) (hx : stored.contains x = true)
    (hh : A.handled = none) (hr : IsRange s.heap r 0 n 1 t₀ u₀ v₀) (h0 : 0 ≤ n) (h1 : n < 1000) (F : Fr h₀ env.locals s.heap m₀) (N : News h₀ env.locals s.heap led) (K : St prog w led ρ H HD KD S R RA SA cells rs (rowsOf cells) ps Ws)
    (hcH : (aH, oH) ∈ led) (hdH : oH.data = .cell vH) (hcR : (aR, oR) ∈ led) (hdR : oR.data = .cell vR) (p0 : P 0 cells Ws)
    (turn : ∀ (i : Nat) t (u : Str → Option Value) nx h tk I y l ρ cells rs ps Ws, (i : Int) < n → St prog w nx ρ H HD KD S R RA SA cells rs (rowsOf cells) ps Ws → P i cells Ws → (aH, oH) ∈ nx → (aR, oR) ∈ nx →
      Fr h₀ env.locals h (fun z => if z = x then some (.int i t) else if stored.contains z then u z else m₀ z) → News h₀ env.locals h ((I, rngO y l) :: nx) →
      wpAny (model prog w) A (execs body env) (LawPost prog w h₀ env.locals H HD KD S R RA SA stored m₀ (P (i + 1)) ((I, rngO y l) :: nx) { s with heap := h, toks := tk } Q) E { s with heap := h, toks := tk })
    (done : ∀ (u : Str → Option Value) nx h tk ρ cells rs ps Ws, St prog w nx ρ H HD KD S R RA SA cells rs (rowsOf cells) ps Ws → P n.toNat cells Ws → (aH, oH) ∈ nx → (aR, oR) ∈ nx → Fr h₀ env.locals h (fun z => if stored.contains z then u z else m₀ z) → News h₀ env.locals h nx → Q .next { s with heap := h, toks := tk }) :
    wpAny (model prog w) A (pyIter (.ref r)) (fun it s₂ => LoopAtV prog w A h₀ env x body Q E it s₂) E s := by
  have eta : ∀ (m' : Str → Option Value), (∀ z, stored.contains z = false → m' z = m₀ z) → m' = fun z => if stored.contains z then m' z else m₀ z := fun m' h => by
    funext z
    cases hz : stored.contains z with
    | true => rfl
    | false => exact h z hz
  refine loop_range (fun i m₁ nx => (∀ z, stored.contains z = false → m₁ z = m₀ z) ∧ ∃ ρ cells rs ps Ws, St prog w nx ρ H HD KD S R RA SA cells rs (rowsOf cells) ps Ws ∧ P i cells Ws ∧ (aH, oH) ∈ nx ∧ (aR, oR) ∈ nx) hh hr h0 h1 F N ⟨fun _ _ => rfl, _, _, _, _, _, K, p0, hcH, hcR⟩ ?_ ?_
  · rintro i t m₁ nx h tk I y l hi _ ⟨hm, ρ, cells, rs, ps, Ws, K, hp, c1, c2⟩ F₁ N₁
    rw [eta m₁ hm] at F₁
    refine wpAny_mono (turn i t m₁ nx h tk I y l ρ cells rs ps Ws hi K hp c1 c2 F₁ N₁) (fun f s₂ q => ?_) fun _ _ e => e
    have fin : LawEnd prog w h₀ env.locals H HD KD S R RA SA stored m₀ (P (i + 1)) ((I, rngO y l) :: nx) { s with heap := h, toks := tk } s₂ →
        RngEnd h₀ env.locals I (rngO y l) (fun m₁ nx => (∀ z, stored.contains z = false → m₁ z = m₀ z) ∧ ∃ ρ cells rs ps Ws, St prog w nx ρ H HD KD S R RA SA cells rs (rowsOf cells) ps Ws ∧ P (i + 1) cells Ws ∧ (aH, oH) ∈ nx ∧ (aR, oR) ∈ nx) { s with heap := h, toks := tk } s₂ := by
      rintro ⟨h', tk, m', led2, ρ', cells', rs', ps', Ws', e, F', hm', N', kT, K', hp'⟩
      have hI : (I, rngO y l) ∈ led2 := kT.k _ (List.mem_cons_self ..) (by simp [rngO]) (by simp [rngO])
      exact ⟨h', tk, m', led2, e, F', N', hI, hm', _, _, _, _, _, K'.wo N' hI, hp', cell_wo N' (kT.cell (List.mem_cons_of_mem _ c1) hdH) hdH hI, cell_wo N' (kT.cell (List.mem_cons_of_mem _ c2) hdR) hdR hI⟩
    cases f with
    | ret v => exact q
    | brk => exact q
    | next => exact fin q
    | cont => exact fin q
  · rintro m₁ nx h tk ⟨hm, ρ, cells, rs, ps, Ws, K, hp, c1, c2⟩ F₁ N₁
    rw [eta m₁ hm] at F₁
    exact done m₁ nx h tk ρ cells rs ps Ws K hp c1 c2 F₁ N₁
end
section
variable {prog : Program} {w : World} {A : Around} {E : Value → Shared → Prop} {s : Shared} {h₀ : Heap} {L : Addr} {m : Str → Option Value} {led : Led} {ρ : Addr → Nat} {H HD KD S R RA SA : Addr} {cells : List Cell} {rs : List Addr} {rows : List (List Int)} {ps : List Addr} {Ws : List Win}
theorem append_row {d : Addr} {us : List Value} {nd : Nat} {ns : List Int} {Q : Value → Shared → Prop} (F : Fr h₀ L s.heap m) (N : News h₀ L s.heap ((d, lstO us nd) :: led)) (K : St prog w led ρ H HD KD S R RA SA cells rs rows ps Ws) (hi : IntsAre us ns) (hlt : ∀ p ∈ led, p.1 < d) (hz : rows.length < 1000)
    (ret : ∀ h' led' ρ', Fr h₀ L h' m → News h₀ L h' led' → KeepT led led' → St prog w led' ρ' H HD KD S R RA SA cells (rs ++ [d]) (rows ++ [ns]) ps Ws → Q .none { s with heap := h' }) : wpAny (model prog w) A (call (.builtin "list.append") [.ref RA, .ref d]) Q E s := by
  obtain ⟨⟨n, a⟩, b, c, e⟩ := id K.row
  refine app_abs F N (List.mem_cons_of_mem _ a) (by rw [List.length_map]; omega) fun h' F' N' => ?_
  have hne : d ≠ RA := Ne.symm (Nat.ne_of_lt (hlt _ a))
  have kB : KeepBut [RA] led ((RA, lstO (rs.map Value.ref ++ [.ref d]) (n + 1)) :: wo [RA] ((d, lstO us nd) :: led)) := fun p hp hd => List.mem_cons_of_mem _ (mem_wo.mpr ⟨List.mem_cons_of_mem _ hp, hd⟩)
  have N0 : News h₀ L s.heap led := cb_drop N fun _ h9 => List.mem_cons_of_mem _ h9
  have kT := keepT_one N0 a ⟨_, _, rfl⟩ kB
  have kR : KeepR (fun k => k = 4 ∨ ∃ i : Nat, k = 8 + 3 * i) ρ led ((RA, lstO (rs.map Value.ref ++ [.ref d]) (n + 1)) :: wo [RA] ((d, lstO us nd) :: led)) := keepR_one kB (.inl b)
  exact ret h' _ _ F' N' kT (K.rowTo kT kR (fun p hp => if_neg (Nat.ne_of_lt (hlt _ hp))) (K.row.push (List.mem_cons_self ..) (List.mem_cons_of_mem _ (mem_wo.mpr ⟨List.mem_cons_self .., by rw [List.mem_singleton]; exact hne⟩)) hi kB hlt))
end
theorem ext_push {rows : List (List Int)} (hb : ∀ i, (rows.getD i []).length < 1000) {ns : List Int} (h : ns.length < 1000) : Ext rows (rows ++ [ns]) := by
  refine ⟨by simp, by simp, fun i hi => ?_, fun i => ?_⟩
  · rw [List.getD_eq_getElem?_getD, List.getElem?_append_left hi, ← List.getD_eq_getElem?_getD]
  · by_cases hi : i < rows.length
    · rw [List.getD_eq_getElem?_getD, List.getElem?_append_left hi, ← List.getD_eq_getElem?_getD]; exact hb i
    · by_cases he : i = rows.length
      · subst he
        rw [List.getD_eq_getElem?_getD, List.getElem?_append_right (Nat.le_refl _), Nat.sub_self]
        exact h
      · rw [List.getD_eq_getElem?_getD, List.getElem?_eq_none (by simp; omega)]
        simp
theorem win_push {rows : List (List Int)} {l r : Int} (h0 : 0 ≤ l) (h1 : l ≤ r) (h2 : r < 1000) : WinR (rows ++ [List.replicate r.toNat 0]) ⟨some (rows.length : Int), 0, l, r⟩ := by
  refine ⟨Int.natCast_nonneg _, Int.le_refl _, h0, h1, by dsimp only; omega, by simp, ?_⟩
  dsimp only
  rw [Int.toNat_natCast, List.getD_eq_getElem?_getD, List.getElem?_append_right (Nat.le_refl _), Nat.sub_self]
  simp
  omega

-- QB: _law_deed in all its ways
theorem start_QB : True := by
  w_top off
  trivial
section
variable {prog : Program} {w : World} {dp un : Nat} {gd : Option (List Code)} {cn : Str} {cs : Scope} {a : Addr} {ccd : Value} {cl : List (Str × Addr)} {outer : List Env} {A₀ : Around} {base h₀ : Heap} {L : Addr} {m : Str → Option Value} {led : Led} {s : Shared} {Q E : Value → Shared → Prop} {p : Program} {loose : List Str} {mean : ExcName → Option Value} {mg mb : Str → Option Value}
set_option maxHeartbeats 40000000 in
theorem deed_spec {ρ : Addr → Nat} {H HD KD S R RA SA : Addr} {cells : List Cell} {rs ps : List Addr} {Ws : List Win} {t : Nat} {turn : Int} {zt : Tok} (B : Below A₀ base outer h₀) (F : Fr h₀ L s.heap m) (X : (hd.heap_39 w.params).In h₀) (N : News h₀ L s.heap led) (T : Top p loose mean mg mb h₀) (hk : cs.kind = .function)
   (hdp : dp + 14 < recursionLimit) (hu : un + 700 < cLine) (K : St prog w led ρ H HD KD S R RA SA cells rs (rowsOf cells) ps Ws) (O : LawOk (rowsOf cells) Ws t) (ht : t ≤ 20)
   (ret : ∀ h' tk' led' ρ' cells' rs' ps' Ws', Fr h₀ L h' m → News h₀ L h' led' → KeepT led led' → St prog w led' ρ' H HD KD S R RA SA cells' rs' (rowsOf cells') ps' Ws' → LawOk (rowsOf cells') Ws' (t + 1) → Q (.bool true) { s with heap := h', toks := tk' }) :
    wpAny (model prog w) (ktrTop dp un gd cn cs L a ccd cl outer) (call (.ref 434) [.ref S, .ref H, .ref SA, .ref RA, .int turn zt]) Q E s := by
  have o1 := O.cl
  have o2 := O.wl
  have o3 := O.w0
  have o4 : cells.length = (rowsOf cells).length := rowsOf_length.symm
  have o5 := O.big
  have o6 : ∀ i, ((rowsOf cells).getD i []).length < 100000 := fun i => by have := o5 i; omega
  k_steps
  ((show wpAny _ _ _ _ _ _); k_dflt (refine' len_some ?N1z ?S1z ?f1z ?_; (case N1z => k_asm); (case S1z => first | assumption | exact St.grow (by assumption) (fun _ hm => by (repeat (first | exact hm | refine List.mem_cons_of_mem _ ?_)))); (case f1z => omega); k_whole))
  intro z0 tk0
  (try k_fold)
  k_steps
  ((show wpAny _ _ _ _ _ _); k_dflt (refine' take_St ?B2z ?F2z ?X2z ?N2z ?T2z ?K2z ?d2z ?u2z ?S2z ?o2z ?p2z ?_; (case B2z => k_asm); (case F2z => k_asm); (case X2z => k_asm); (case N2z => k_asm); (case T2z => k_asm); (case K2z => first | exact rfl | assumption); (case d2z => k_room); (case u2z => k_units); (case S2z => first | assumption | exact St.grow (by assumption) (fun _ hm => by (repeat (first | exact hm | refine List.mem_cons_of_mem _ ?_)))); (case o2z => first | omega | (dsimp only; omega) | assumption | (simp; done)); (case p2z => first | omega | (dsimp only; omega) | assumption | (simp; done)); k_whole))
  intro h1 tk1 led1 v1 z1 F1 N1 kT1 kB1 K1 hv1
  (try k_sweep); (try k_fold)
  clear kB1 K
  obtain ⟨hv1, hv1'⟩ := hv1
  k_steps
  ((show wpAny _ _ _ _ _ _); k_dflt (refine' take_St ?B3z ?F3z ?X3z ?N3z ?T3z ?K3z ?d3z ?u3z ?S3z ?o3z ?p3z ?_; (case B3z => k_asm); (case F3z => k_asm); (case X3z => k_asm); (case N3z => k_asm); (case T3z => k_asm); (case K3z => first | exact rfl | assumption); (case d3z => k_room); (case u3z => k_units); (case S3z => first | assumption | exact St.grow (by assumption) (fun _ hm => by (repeat (first | exact hm | refine List.mem_cons_of_mem _ ?_)))); (case o3z => first | omega | (dsimp only; omega) | assumption | (simp; done)); (case p3z => first | omega | (dsimp only; omega) | assumption | (simp; done)); k_whole))
  intro h2 tk2 led2 v2 z2 F2 N2 kT2 kB2 K2 hv2
  (try k_sweep); (try k_fold)
  clear kB2 K1
  obtain ⟨hv2, hv2'⟩ := hv2
  k_steps
  rename News _ _ _ _ => N9
  replace N9 : News _ _ _ led2 := cb_drop N9 fun _ h9 => List.mem_cons_of_mem _ h9
  ((show wpAny _ _ _ _ _ _); k_dflt (refine' item_some ?N4z ?S4z ?O4z ?a4z ?b4z ?z4z ?_ ?s4z; (case N4z => k_asm); (case S4z => first | assumption | exact St.grow (by assumption) (fun _ hm => by (repeat (first | exact hm | refine List.mem_cons_of_mem _ ?_)))); (case O4z => assumption); (case a4z => omega); (case b4z => omega); (case z4z => omega); (case s4z => (intro; with_unfolding_all rfl)); k_whole))
  intro p v wt W y1 y2 y3 y4 hW hp hT hw hw4 hO1 hO2 hO3 hO4 hO5 hO6
  (try k_fold)
  rename _ = PySem.Data.cell _ => hcd
  have hc2 := kT2.cell (kT1.cell (List.mem_cons_self ..) hcd) hcd
  have hway : v2 < 2 ∨ v2 = 2 ∨ v2 = 3 ∨ v2 = 4 ∨ v2 = 5 := by omega
  have k02 : KeepT led led2 := ((KeepT.of fun _ h9 => List.mem_cons_of_mem _ h9).trans kT1).trans kT2
  clear hv2' kT1 kT2
  rcases hway with hw2 | rfl | rfl | rfl | rfl
  ·
    k_steps
    obtain ⟨hfc, hfr, hfRA, hfS, hfR, hfSA⟩ := K2.fresh (by assumption)
    ((show wpAny _ _ _ _ _ _); k_dflt (refine' law_one_St ?B5z ?F5z ?X5z ?N5z ?T5z ?K5z ?d5z ?u5z ?S5z ?m5z ?i5z ?l5z ?l25z ?a5z ?b5z ?al5z ?_; (case B5z => k_asm); (case F5z => k_asm); (case X5z => k_asm); (case N5z => k_asm); (case T5z => k_asm); (case K5z => first | exact rfl | assumption); (case d5z => k_room); (case u5z => k_units); (case S5z => first | assumption | exact St.grow (by assumption) (fun _ hm => by (repeat (first | exact hm | refine List.mem_cons_of_mem _ ?_)))); (case m5z => k_mem); (case i5z => first | assumption | l_ints); (case l5z => decide); (case l25z => decide); (case a5z => assumption); (case b5z => assumption); (case al5z => (intro x9 hx9; simp only [List.mem_cons, List.not_mem_nil, or_false] at hx9; omega)); k_whole))
    intro h3 tk3 led3 v3 z3 F3 N3 kT3 K3 hv3
    obtain ⟨hv3, hv3'⟩ := hv3
    (try k_sweep); (try k_fold)
    have hT3 := hT.mono fun _ _ h9 => kT3.tup (List.mem_cons_of_mem _ h9)
    have hw3 := hw.mono fun _ _ h9 => kT3.tup (List.mem_cons_of_mem _ h9)
    have hc3 := kT3.cell (List.mem_cons_of_mem _ hc2) hcd
    have k03 := k02.trans ((KeepT.of fun _ h9 => List.mem_cons_of_mem _ h9).trans kT3)
    clear hT hw hw4 hc2 hp K2 kT3 k02 hfc hfr hfRA hfS hfR hfSA
    k_steps
    rename LCg.Off1 _ _ => l9
    obtain ⟨hfc, hfr, hfRA, hfS, hfR, hfSA⟩ := K3.off (off1_to l9)
    rename IntsAre _ _ => hI9
    have hlen9 : (List.map (fun k' => 10 * turn + k') (rangeKs 0 (v3 - 0).toNat)).length ≤ 5 := by
      simp only [List.length_map, rangeKs, List.length_range]
      omega
    generalize List.map (fun k' => 10 * turn + k') (rangeKs 0 (v3 - 0).toNat) = ms9 at *
    have hl9 : W.l + ms9.length < 1000 := by omega
    ((show wpAny _ _ _ _ _ _); k_dflt (refine' appended_St ?B6z ?F6z ?X6z ?N6z ?T6z ?K6z ?d6z ?u6z ?S6z ?c6z ?v6z ?w6z ?m6z ?i6z ?f6z ?l6z ?r6z ?_; (case B6z => k_asm); (case F6z => k_asm); (case X6z => k_asm); (case N6z => k_asm); (case T6z => k_asm); (case K6z => first | exact rfl | assumption); (case d6z => k_room); (case u6z => k_units); (case S6z => first | assumption | exact St.grow (by assumption) (fun _ hm => by (repeat (first | exact hm | refine List.mem_cons_of_mem _ ?_)))); (case c6z => first | omega | (dsimp only; omega) | assumption | (simp; done)); (case v6z => first | assumption | exact ToldAt.mono (by assumption) (fun _ _ hm => by (repeat (first | exact hm | refine List.mem_cons_of_mem _ ?_)))); (case w6z => assumption); (case m6z => k_mem); (case i6z => first | assumption | l_ints); (case f6z => assumption); (case l6z => assumption); (case r6z => first | omega | (dsimp only; omega) | assumption | (simp; done)); k_whole))
    intro h4 tk4 led4 ρ4 v4 cells4 F4 N4 kT4 hm4 K4 hr4 hT4
    (try k_sweep); (try k_fold)
    have hw4 := hw3.mono fun _ _ h9 => kT4.tup (List.mem_cons_of_mem _ h9)
    have k04 := k03.trans ((KeepT.of fun _ h9 => List.mem_cons_of_mem _ h9).trans kT4)
    clear hw3 hT3 K3 kT4 k03 hc3
    k_steps
    ((show wpAny _ _ _ _ _ _); k_dflt (refine' put_St ?B7z ?F7z ?X7z ?N7z ?T7z ?K7z ?d7z ?u7z ?S7z ?w7z ?W7z ?m7z ?i7z ?f7z ?f27z ?l7z ?r7z ?rl7z ?b7z ?_; (case B7z => k_asm); (case F7z => k_asm); (case X7z => k_asm); (case N7z => k_asm); (case T7z => k_asm); (case K7z => first | exact rfl | assumption); (case d7z => k_room); (case u7z => k_units); (case S7z => first | assumption | exact St.grow (by assumption) (fun _ hm => by (repeat (first | exact hm | refine List.mem_cons_of_mem _ ?_)))); (case w7z => first | assumption | exact WinAt.mono (by assumption) (fun _ _ hm => by (repeat (first | exact hm | refine List.mem_cons_of_mem _ ?_))) | exact ⟨_, _, _, _, by k_mem⟩); (case W7z => assumption); (case m7z => first | assumption | k_mem); (case i7z => assumption); (case f7z => assumption); (case f27z => assumption); (case l7z => assumption); (case r7z => first | omega | (dsimp only; omega) | assumption | (simp; done)); (case rl7z => first | omega | (dsimp only; omega) | assumption | (simp; done)); (case b7z => assumption); k_whole))
    intro h5 tk5 led5 ρ5 rs5 wt5 F5 N5 kT5 K5 hw5
    (try k_sweep); (try k_fold)
    have hT5 := hT4.mono fun _ _ h9 => kT5.tup h9
    have k05 := k04.trans kT5
    obtain ⟨n9, hS9⟩ := K5.som.sa
    clear hw4 hT4 K4 kT5 k04
    k_steps
    · ((show wpAny _ _ _ _ _ _); k_dflt (refine' append_some ?F8z ?N8z ?S8z ?p8z ?z8z ?_; (case F8z => k_asm); (case N8z => k_asm); (case S8z => first | assumption | exact St.grow (by assumption) (fun _ hm => by (repeat (first | exact hm | refine List.mem_cons_of_mem _ ?_)))); (case p8z => exact ⟨_, _, by k_mem, by (first | assumption | exact ToldAt.mono (by assumption) (fun _ _ hm => by (repeat (first | exact hm | refine List.mem_cons_of_mem _ ?_)))), by (first | assumption | exact WinAt.mono (by assumption) (fun _ _ hm => by (repeat (first | exact hm | refine List.mem_cons_of_mem _ ?_))) | exact ⟨_, _, _, _, by k_mem⟩)⟩); (case z8z => omega); k_whole))
      intro h6 led6 F6 N6 kT6 K6
      (try k_sweep)
      k_steps
      have pa := put_all O.big hO1 (by omega) (ms := ms9) (by omega)
      rw [← hr4] at pa K6
      obtain ⟨e1, e2, e3, e4⟩ := pa
      refine ret _ _ _ _ _ _ _ _ (by k_asm) (by k_asm) (k05.trans ((KeepT.of fun _ h9 => ?_).trans kT6)) K6 (O.next e1 (by simp) (by simp) fun X hX => ?_)
      · (repeat (first | exact h9 | refine List.mem_cons_of_mem _ ?_))
      · rcases List.mem_append.mp hX with hX | hX
        · exact .inl hX
        · rw [List.mem_singleton] at hX
          subst hX
          exact .inr ⟨e2, by rw [e3]; omega, by omega⟩
    · ((show wpAny _ _ _ _ _ _); k_dflt (refine' set_some ?F9z ?N9z ?S9z ?p9z ?a9z ?b9z ?z9z ?_; (case F9z => k_asm); (case N9z => k_asm); (case S9z => first | assumption | exact St.grow (by assumption) (fun _ hm => by (repeat (first | exact hm | refine List.mem_cons_of_mem _ ?_)))); (case p9z => exact ⟨_, _, by k_mem, by (first | assumption | exact ToldAt.mono (by assumption) (fun _ _ hm => by (repeat (first | exact hm | refine List.mem_cons_of_mem _ ?_)))), by (first | assumption | exact WinAt.mono (by assumption) (fun _ _ hm => by (repeat (first | exact hm | refine List.mem_cons_of_mem _ ?_))) | exact ⟨_, _, _, _, by k_mem⟩)⟩); (case a9z => omega); (case b9z => omega); (case z9z => omega); k_whole))
      intro h6 led6 F6 N6 kT6 K6
      (try k_sweep)
      k_steps
      have pa := put_all O.big hO1 (by omega) (ms := ms9) (by omega)
      rw [← hr4] at pa K6
      obtain ⟨e1, e2, e3, e4⟩ := pa
      refine ret _ _ _ _ _ _ _ _ (by k_asm) (by k_asm) (k05.trans ((KeepT.of fun _ h9 => ?_).trans kT6)) K6 (O.next e1 (by simp) (by simp; omega) fun X hX => ?_)
      · (repeat (first | exact h9 | refine List.mem_cons_of_mem _ ?_))
      · rcases mem_set_or hX with hX | hX
        · exact .inl hX
        · subst hX
          exact .inr ⟨e2, by rw [e3]; omega, by omega⟩
  ·
    k_steps
    ((show wpAny _ _ _ _ _ _); k_dflt (refine' take_St ?B10z ?F10z ?X10z ?N10z ?T10z ?K10z ?d10z ?u10z ?S10z ?o10z ?p10z ?_; (case B10z => k_asm); (case F10z => k_asm); (case X10z => k_asm); (case N10z => k_asm); (case T10z => k_asm); (case K10z => first | exact rfl | assumption); (case d10z => k_room); (case u10z => k_units); (case S10z => first | assumption | exact St.grow (by assumption) (fun _ hm => by (repeat (first | exact hm | refine List.mem_cons_of_mem _ ?_)))); (case o10z => first | omega | (dsimp only; omega) | assumption | (simp; done)); (case p10z => first | omega | (dsimp only; omega) | assumption | (simp; done)); k_whole))
    intro h3 tk3 led3 v3 z3 F3 N3 kT3 kB3 K3 hv3
    obtain ⟨hv3, hv3'⟩ := hv3
    (try k_sweep); (try k_fold)
    have hT3 := hT.mono fun _ _ h9 => kT3.tup h9
    have hw43 := kT3.tup hw4
    have k03 := k02.trans kT3
    obtain ⟨n9, hS9⟩ := K3.som.sa
    clear hT hw hw4 hc2 hp K2 kT3 kB3 k02
    k_steps
    clear hS9
    ((show wpAny _ _ _ _ _ _); k_dflt (refine' cut_St ?B11z ?F11z ?X11z ?N11z ?T11z ?K11z ?d11z ?u11z ?S11z ?v11z ?o11z ?p11z ?q11z ?_; (case B11z => k_asm); (case F11z => k_asm); (case X11z => k_asm); (case N11z => k_asm); (case T11z => k_asm); (case K11z => first | exact rfl | assumption); (case d11z => k_room); (case u11z => k_units); (case S11z => first | assumption | exact St.grow (by assumption) (fun _ hm => by (repeat (first | exact hm | refine List.mem_cons_of_mem _ ?_)))); (case v11z => first | assumption | exact ToldAt.mono (by assumption) (fun _ _ hm => by (repeat (first | exact hm | refine List.mem_cons_of_mem _ ?_)))); (case o11z => first | omega | (dsimp only; omega) | assumption | (simp; done)); (case p11z => first | omega | (dsimp only; omega) | assumption | (simp; done)); (case q11z => first | omega | (dsimp only; omega) | assumption | (simp; done)); k_whole))
    intro h4 tk4 led4 v4 F4 N4 kT4 K4 hT4
    (try k_sweep); (try k_fold)
    have k04 := k03.trans ((KeepT.of fun _ h9 => List.mem_cons_of_mem _ h9).trans kT4)
    clear hT3 hw43 K3 kT4 k03
    k_steps
    ((show wpAny _ _ _ _ _ _); k_dflt (refine' append_some ?F12z ?N12z ?S12z ?p12z ?z12z ?_; (case F12z => k_asm); (case N12z => k_asm); (case S12z => first | assumption | exact St.grow (by assumption) (fun _ hm => by (repeat (first | exact hm | refine List.mem_cons_of_mem _ ?_)))); (case p12z => exact ⟨_, _, by k_mem, by (first | assumption | exact ToldAt.mono (by assumption) (fun _ _ hm => by (repeat (first | exact hm | refine List.mem_cons_of_mem _ ?_)))), by (first | assumption | exact WinAt.mono (by assumption) (fun _ _ hm => by (repeat (first | exact hm | refine List.mem_cons_of_mem _ ?_))) | exact ⟨_, _, _, _, by k_mem⟩)⟩); (case z12z => omega); k_whole))
    intro h5 led5 F5 N5 kT5 K5
    (try k_sweep)
    k_steps
    refine ret _ _ _ _ _ _ _ _ (by k_asm) (by k_asm) (k04.trans ((KeepT.of fun _ h9 => ?_).trans kT5)) K5 (O.next (.refl O.big) (by simp) (by simp) fun X hX => ?_)
    · (repeat (first | exact h9 | refine List.mem_cons_of_mem _ ?_))
    · rcases List.mem_append.mp hX with hX | hX
      · exact .inl hX
      · rw [List.mem_singleton] at hX
        subst hX
        exact .inr ⟨cut_win hO1 hv3 (by omega), by dsimp only; omega, by dsimp only; omega⟩
  ·
    k_steps
    · ((show wpAny _ _ _ _ _ _); k_dflt (refine' take_St ?B13z ?F13z ?X13z ?N13z ?T13z ?K13z ?d13z ?u13z ?S13z ?o13z ?p13z ?_; (case B13z => k_asm); (case F13z => k_asm); (case X13z => k_asm); (case N13z => k_asm); (case T13z => k_asm); (case K13z => first | exact rfl | assumption); (case d13z => k_room); (case u13z => k_units); (case S13z => first | assumption | exact St.grow (by assumption) (fun _ hm => by (repeat (first | exact hm | refine List.mem_cons_of_mem _ ?_)))); (case o13z => first | omega | (dsimp only; omega) | assumption | (simp; done)); (case p13z => first | omega | (dsimp only; omega) | assumption | (simp; done)); k_whole))
      intro h3 tk3 led3 v3 z3 F3 N3 kT3 kB3 K3 hv3
      obtain ⟨hv3, hv3'⟩ := hv3
      (try k_sweep); (try k_fold)
      have hT3 := hT.mono fun _ _ h9 => kT3.tup h9
      have hw43 := kT3.tup hw4
      have hc3 := kT3.cell hc2 hcd
      have k03 := k02.trans kT3
      have hH1 := K3.heap.h
      obtain ⟨a1, a2, a3, a4, a5, a6, a7, hH2⟩ := K3.heap.hd
      clear hT hw hw4 hc2 hp K2 kT3 kB3 k02
      obtain ⟨row, b, l, r⟩ := W
      dsimp only at *
      cases row with
      | none => 
        exfalso
        obtain ⟨_, g2, _⟩ := hO1
        dsimp only at g2
        omega
      | some i =>
        have hO7 := hO1
        obtain ⟨g1, g2, g3, g4, g5, g6, g7⟩ := hO7
        dsimp only at g1 g2 g3 g4 g5 g6 g7
        k_steps
        clear hH1 hH2
        ((show wpAny _ _ _ _ _ _); k_dflt (refine' place_in_spec ?B14z ?F14z ?X14z ?N14z ?T14z ?K14z ?d14z ?u14z ?v14z ?i14z ?o14z ?p14z ?_; (case B14z => k_asm); (case F14z => k_asm); (case X14z => k_asm); (case N14z => k_asm); (case T14z => k_asm); (case K14z => first | exact rfl | assumption); (case d14z => k_room); (case u14z => k_units); (case v14z => first | assumption | exact ToldAt.mono (by assumption) (fun _ _ hm => by (repeat (first | exact hm | refine List.mem_cons_of_mem _ ?_)))); (case i14z => first | assumption | exact rfl); (case o14z => omega); (case p14z => first | omega | (dsimp only; omega)); k_whole))
        intro h4 tk4 t4 q4 z14 z24 F4 N4 l14 l24
        (try k_sweep); (try k_fold)
        k_steps
        ((show wpAny _ _ _ _ _ _); k_dflt (refine' store_St ?B15z ?F15z ?X15z ?N15z ?T15z ?K15z ?d15z ?u15z ?S15z ?i15z ?c15z ?l15z ?p15z ?o15z ?j15z ?_; (case B15z => k_asm); (case F15z => k_asm); (case X15z => k_asm); (case N15z => k_asm); (case T15z => k_asm); (case K15z => first | exact rfl | assumption); (case d15z => k_room); (case u15z => k_units); (case S15z => first | assumption | exact St.grow (by assumption) (fun _ hm => by (repeat (first | exact hm | refine List.mem_cons_of_mem _ ?_)))); (case l15z => k_mem); (case p15z => k_mem); (case i15z => first | omega | (dsimp only; omega) | assumption | (simp; done)); (case c15z => assumption); (case o15z => first | omega | (dsimp only; omega) | assumption | (simp; done)); (case j15z => first | omega | (dsimp only; omega) | assumption | (simp; done)); k_whole))
        intro h5 tk5 led5 cells5 F5 N5 kT5 K5 hr5
        (try k_sweep); (try k_fold)
        have k05 := k03.trans ((KeepT.of fun _ h9 => by (repeat (first | exact h9 | refine List.mem_cons_of_mem _ ?_))).trans kT5)
        have hw45 : (wt, tupO [.int i y1, .int b y2, .int l y3, .int r y4]) ∈ led5 := kT5.tup (by (repeat (first | exact hw43 | refine List.mem_cons_of_mem _ ?_)))
        have hc5 : (_, _) ∈ led5 := kT5.cell (by (repeat (first | exact hc3 | refine List.mem_cons_of_mem _ ?_))) hcd
        clear hT3 hw43 K3 k03 hc3
        k_steps
        ((show wpAny _ _ _ _ _ _); k_dflt (refine' item_rows ?N16z ?S16z ?a16z ?b16z ?z16z ?_ ?s16z; (case N16z => k_asm); (case S16z => first | assumption | exact St.grow (by assumption) (fun _ hm => by (repeat (first | exact hm | refine List.mem_cons_of_mem _ ?_)))); (case a16z => omega); (case b16z => first | assumption | omega); (case z16z => omega); (case s16z => (intro; with_unfolding_all rfl)); k_whole))
        intro r9 hr9
        (try k_fold)
        k_steps
        have o7 := o6 i.toNat
        ((show wpAny _ _ _ _ _ _); k_dflt (refine' set_cell ?F17z ?N17z ?S17z ?p17z ?a17z ?b17z ?z17z ?_; (case F17z => k_asm); (case N17z => k_asm); (case S17z => first | assumption | exact St.grow (by assumption) (fun _ hm => by (repeat (first | exact hm | refine List.mem_cons_of_mem _ ?_)))); (case p17z => assumption); (case a17z => first | omega | (dsimp only; omega) | assumption | (simp; done)); (case b17z => first | omega | (dsimp only; omega) | assumption | (simp; done)); (case z17z => first | omega | (dsimp only; omega) | assumption | (simp; done)); k_whole))
        intro h6 led6 F6 N6 kT6 K6
        (try k_sweep)
        k_steps
        rw [← hr5] at K6
        have e1 : Ext (rowsOf cells) (rowsOf cells5) := by
          rw [hr5]
          exact ext_set O.big _ (by rw [List.length_set])
        exact ret _ _ _ _ _ _ _ _ (by k_asm) (by k_asm) (k05.trans ((KeepT.of fun _ h9 => by (repeat (first | exact h9 | refine List.mem_cons_of_mem _ ?_))).trans kT6)) K6 (O.next e1 (by omega) (by omega) fun _ h9 => .inl h9)
    · exact ret _ _ _ _ _ _ _ _ (by k_asm) (by k_asm) k02 K2 (O.next (.refl O.big) (by omega) (by omega) fun _ h9 => .inl h9)
  ·
    k_steps
    ((show wpAny _ _ _ _ _ _); k_dflt (refine' len_some ?N18z ?S18z ?f18z ?_; (case N18z => k_asm); (case S18z => first | assumption | exact St.grow (by assumption) (fun _ hm => by (repeat (first | exact hm | refine List.mem_cons_of_mem _ ?_)))); (case f18z => omega); k_whole))
    intro z3 tk3
    (try k_fold)
    k_steps
    ((show wpAny _ _ _ _ _ _); k_dflt (refine' take_St ?B19z ?F19z ?X19z ?N19z ?T19z ?K19z ?d19z ?u19z ?S19z ?o19z ?p19z ?_; (case B19z => k_asm); (case F19z => k_asm); (case X19z => k_asm); (case N19z => k_asm); (case T19z => k_asm); (case K19z => first | exact rfl | assumption); (case d19z => k_room); (case u19z => k_units); (case S19z => first | assumption | exact St.grow (by assumption) (fun _ hm => by (repeat (first | exact hm | refine List.mem_cons_of_mem _ ?_)))); (case o19z => first | omega | (dsimp only; omega) | assumption | (simp; done)); (case p19z => first | omega | (dsimp only; omega) | assumption | (simp; done)); k_whole))
    intro h3 tk3 led3 v3 z3 F3 N3 kT3 kB3 K3 hv3
    obtain ⟨hv3, hv3'⟩ := hv3
    (try k_sweep); (try k_fold)
    have hT3 := hT.mono fun _ _ h9 => kT3.tup h9
    have hw3 := hw.mono fun _ _ h9 => kT3.tup h9
    have k03 := k02.trans kT3
    clear hT hw hw4 hc2 hp K2 kT3 kB3 k02
    k_steps
    ((show wpAny _ _ _ _ _ _); k_dflt (refine' item_some ?N20z ?S20z ?O20z ?a20z ?b20z ?z20z ?_ ?s20z; (case N20z => k_asm); (case S20z => first | assumption | exact St.grow (by assumption) (fun _ hm => by (repeat (first | exact hm | refine List.mem_cons_of_mem _ ?_)))); (case O20z => assumption); (case a20z => omega); (case b20z => omega); (case z20z => omega); (case s20z => (intro; with_unfolding_all rfl)); k_whole))
    intro p5 v5 wt5 W5 y51 y52 y53 y54 hW5 hp5 hT5 hw5 hw45 hO51 hO52 hO53 hO54 hO55 hO56
    (try k_fold)
    k_steps
    ((show wpAny _ _ _ _ _ _); k_dflt (refine' copied_slice_St ?B21z ?F21z ?X21z ?N21z ?T21z ?K21z ?d21z ?u21z ?S21z ?v21z ?v221z ?w21z ?w221z ?l21z ?l221z ?_; (case B21z => k_asm); (case F21z => k_asm); (case X21z => k_asm); (case N21z => k_asm); (case T21z => k_asm); (case K21z => first | exact rfl | assumption); (case d21z => k_room); (case u21z => k_units); (case S21z => first | assumption | exact St.grow (by assumption) (fun _ hm => by (repeat (first | exact hm | refine List.mem_cons_of_mem _ ?_)))); (case v21z => first | assumption | exact ToldAt.mono (by assumption) (fun _ _ hm => by (repeat (first | exact hm | refine List.mem_cons_of_mem _ ?_)))); (case v221z => first | assumption | exact ToldAt.mono (by assumption) (fun _ _ hm => by (repeat (first | exact hm | refine List.mem_cons_of_mem _ ?_)))); (case w21z => assumption); (case w221z => assumption); (case l21z => first | omega | (dsimp only; omega) | assumption | (simp; done)); (case l221z => first | omega | (dsimp only; omega) | assumption | (simp; done)); k_whole))
    intro h4 tk4 led4 cells4 z4 F4 N4 kT4 K4 hr4
    (try k_sweep); (try k_fold)
    have hw34 := hw3.mono fun _ _ h9 => kT4.tup h9
    have hw54 := hw5.mono fun _ _ h9 => kT4.tup h9
    have k04 := k03.trans kT4
    clear hT3 hw3 hT5 hw5 K3 kT4 k03
    k_steps
    ((show wpAny _ _ _ _ _ _); k_dflt (refine' law_copy_St ?B22z ?F22z ?X22z ?N22z ?T22z ?K22z ?d22z ?u22z ?S22z ?v22z ?v222z ?w22z ?w222z ?l22z ?l222z ?_; (case B22z => k_asm); (case F22z => k_asm); (case X22z => k_asm); (case N22z => k_asm); (case T22z => k_asm); (case K22z => first | exact rfl | assumption); (case d22z => k_room); (case u22z => k_units); (case S22z => first | assumption | exact St.grow (by assumption) (fun _ hm => by (repeat (first | exact hm | refine List.mem_cons_of_mem _ ?_)))); (case v22z => first | assumption | exact WinAt.mono (by assumption) (fun _ _ hm => by (repeat (first | exact hm | refine List.mem_cons_of_mem _ ?_))) | exact ⟨_, _, _, _, by k_mem⟩); (case v222z => first | assumption | exact WinAt.mono (by assumption) (fun _ _ hm => by (repeat (first | exact hm | refine List.mem_cons_of_mem _ ?_))) | exact ⟨_, _, _, _, by k_mem⟩); (case w22z => assumption); (case w222z => assumption); (case l22z => first | omega | (dsimp only; omega) | assumption | (simp; done)); (case l222z => assumption); k_whole))
    intro h6 tk6 led6 z6 F6 N6 kT6 K6
    (try k_sweep); (try k_fold)
    k_steps
    rw [← hr4] at K6
    have q9 := ext_copy O.big W (segR (rowsOf cells) ⟨W5.row, W5.b, min W.l W5.l, W5.r⟩)
    rw [← hr4] at q9
    rw [beq_self_eq_true]
    exact ret _ _ _ _ _ _ _ _ (by k_asm) (by k_asm) (k04.trans kT6) K6 (O.next q9 (by omega) (by omega) fun _ h9 => .inl h9)
  ·
    obtain ⟨row, b, l, r⟩ := W
    dsimp only at *
    cases row with
    | none => 
      obtain ⟨g1, g2, g3⟩ := id hO1
      dsimp only at g1 g2 g3
      subst g1 g2 g3
      k_steps
      ((show wpAny _ _ _ _ _ _); k_dflt (refine' copied_values_St ?B23z ?F23z ?X23z ?N23z ?T23z ?K23z ?d23z ?u23z ?S23z ?v23z ?w23z ?m23z ?i23z ?l23z ?_; (case B23z => k_asm); (case F23z => k_asm); (case X23z => k_asm); (case N23z => k_asm); (case T23z => k_asm); (case K23z => first | exact rfl | assumption); (case d23z => k_room); (case u23z => k_units); (case S23z => first | assumption | exact St.grow (by assumption) (fun _ hm => by (repeat (first | exact hm | refine List.mem_cons_of_mem _ ?_)))); (case v23z => first | assumption | exact ToldAt.mono (by assumption) (fun _ _ hm => by (repeat (first | exact hm | refine List.mem_cons_of_mem _ ?_)))); (case w23z => assumption); (case m23z => k_mem); (case i23z => first | assumption | l_ints); (case l23z => first | omega | (dsimp only; omega) | assumption | (simp; done)); k_whole))
      intro h4 tk4 led4 cells4 z4 F4 N4 kT4 K4 hr4
      (try k_sweep); (try k_fold)
      k_steps
      have e1 : rowsOf cells4 = rowsOf cells := hr4
      rw [← e1] at K4
      exact ret _ _ _ _ _ _ _ _ (by k_asm) (by k_asm) (k02.trans ((KeepT.of fun _ h9 => by (repeat (first | exact h9 | refine List.mem_cons_of_mem _ ?_))).trans kT4)) K4 (O.next (by rw [e1]; exact .refl O.big) (by omega) (by omega) fun _ h9 => .inl h9)
    | some i =>
      have hO7 := hO1
      obtain ⟨g1, g2, g3, g4, g5, g6, g7⟩ := hO7
      dsimp only at g1 g2 g3 g4 g5 g6 g7
      replace hw4 : (wt, tupO [.int i y1, .int b y2, .int l y3, .int r y4]) ∈ led2 := hw4
      have hq : (if l < 2 then l else 2) = min l 2 := by split <;> omega
      k_steps
      · ((show wpAny _ _ _ _ _ _); k_dflt (refine' item_rows ?N24z ?S24z ?a24z ?b24z ?z24z ?_ ?s24z; (case N24z => k_asm); (case S24z => first | assumption | exact St.grow (by assumption) (fun _ hm => by (repeat (first | exact hm | refine List.mem_cons_of_mem _ ?_)))); (case a24z => omega); (case b24z => first | assumption | omega); (case z24z => omega); (case s24z => (intro; with_unfolding_all rfl)); k_whole))
        intro r9 hr9
        (try k_fold)
        k_steps
        have o7 := o6 i.toNat
        obtain ⟨_, l8⟩ := ‹_ ∧ AllLt _ _›
        obtain ⟨_, fr1, _⟩ := K2.fresh (allLt_to l8)
        obtain ⟨_, fr2, _⟩ := K2.fresh (by assumption)
        have ne1 := fr1 _ _ hr9
        have ne2 := fr2 _ _ hr9
        rename List.length (List.take _ _) = _ => hC9
        rename IntsAre _ _ => hI9
        (show wpAny _ _ _ _ _ _)
        k_dflt (refine' set_slice (s := Shared.mk _ _ _ _ _) ?qF ?qN ?qS ?qp ?qm ?qn ?qi ?qa ?qb ?qe ?qg ?qz ?_; (case qF => k_asm); (case qN => k_asm); (case qS => exact St.grow K2 (fun _ hm => by (repeat (first | exact hm | refine List.mem_cons_of_mem _ ?_)))); (case qp => exact hr9); (case qm => k_mem); (case qn => exact ne1); (case qi => exact hI9); (case qa => omega); (case qb => (rw [hq]; omega)); (case qe => (rw [hq]; omega)); (case qg => (rw [hC9, hq]; simp only [List.length_cons, List.length_nil]; omega)); (case qz => exact o7); k_whole)
        intro h5 led5 F5 N5 kS5 kT5 K5
        (try k_sweep)
        have hm5 := kS5.k _ (show _ ∈ _ from List.mem_cons_of_mem _ (List.mem_cons_self ..)) (by rw [List.mem_singleton]; exact ne2)
        have hT5 := hT.mono fun _ _ h9 => kT5.tup (List.mem_cons_of_mem _ (List.mem_cons_of_mem _ h9))
        have k05 := k02.trans ((KeepT.of fun _ h9 => List.mem_cons_of_mem _ (List.mem_cons_of_mem _ h9)).trans kT5)
        clear hT K2 k02
        k_steps
        ((show wpAny _ _ _ _ _ _); k_dflt (refine' copied_values_St ?B25z ?F25z ?X25z ?N25z ?T25z ?K25z ?d25z ?u25z ?S25z ?v25z ?w25z ?m25z ?i25z ?l25z ?_; (case B25z => k_asm); (case F25z => k_asm); (case X25z => k_asm); (case N25z => k_asm); (case T25z => k_asm); (case K25z => first | exact rfl | assumption); (case d25z => k_room); (case u25z => k_units); (case S25z => first | assumption | exact St.grow (by assumption) (fun _ hm => by (repeat (first | exact hm | refine List.mem_cons_of_mem _ ?_)))); (case v25z => first | assumption | exact ToldAt.mono (by assumption) (fun _ _ hm => by (repeat (first | exact hm | refine List.mem_cons_of_mem _ ?_)))); (case w25z => assumption); (case m25z => k_mem); (case i25z => first | assumption | l_ints); (case l25z => first | omega | (dsimp only; omega) | assumption | (simp; done)); k_whole))
        intro h4 tk4 led4 cells4 z4 F4 N4 kT4 K4 hr4
        (try k_sweep); (try k_fold)
        k_steps
        have e1 : copyM (rowsOf cells) ⟨some i, b, l, r⟩ [70 + turn, 71 + turn] = (rowsOf cells).set i.toNat (ovr ((rowsOf cells).getD i.toNat []) b.toNat (List.take (if l < 2 then l else 2).toNat [70 + turn, 71 + turn])) := by
          unfold copyM
          rw [hq]
          rfl
        rw [← e1, ← hr4] at K4
        have e2 := ext_copy O.big ⟨some i, b, l, r⟩ [70 + turn, 71 + turn]
        rw [← hr4] at e2
        have e3 : (min l ([70 + turn, 71 + turn] : List Int).length == if l < 2 then l else 2) = true := by
          rw [hq]
          simp
        rw [e3]
        exact ret _ _ _ _ _ _ _ _ (by k_asm) (by k_asm) (k05.trans kT4) K4 (O.next e2 (by omega) (by omega) fun _ h9 => .inl h9)
      · ((show wpAny _ _ _ _ _ _); k_dflt (refine' copied_values_St ?B26z ?F26z ?X26z ?N26z ?T26z ?K26z ?d26z ?u26z ?S26z ?v26z ?w26z ?m26z ?i26z ?l26z ?_; (case B26z => k_asm); (case F26z => k_asm); (case X26z => k_asm); (case N26z => k_asm); (case T26z => k_asm); (case K26z => first | exact rfl | assumption); (case d26z => k_room); (case u26z => k_units); (case S26z => first | assumption | exact St.grow (by assumption) (fun _ hm => by (repeat (first | exact hm | refine List.mem_cons_of_mem _ ?_)))); (case v26z => first | assumption | exact ToldAt.mono (by assumption) (fun _ _ hm => by (repeat (first | exact hm | refine List.mem_cons_of_mem _ ?_)))); (case w26z => assumption); (case m26z => k_mem); (case i26z => first | assumption | l_ints); (case l26z => first | omega | (dsimp only; omega) | assumption | (simp; done)); k_whole))
        intro h4 tk4 led4 cells4 z4 F4 N4 kT4 K4 hr4
        (try k_sweep); (try k_fold)
        k_steps
        rename ¬ _ < _ => hq0
        have e0 : l = 0 := by rw [hq] at hq0; omega
        subst e0
        have e1 : rowsOf cells4 = rowsOf cells := hr4.trans (set_getD _ _)
        rw [← e1] at K4
        exact ret _ _ _ _ _ _ _ _ (by k_asm) (by k_asm) (k02.trans ((KeepT.of fun _ h9 => by (repeat (first | exact h9 | refine List.mem_cons_of_mem _ ?_))).trans kT4)) K4 (O.next (by rw [e1]; exact .refl O.big) (by omega) (by omega) fun _ h9 => .inl h9)
end

-- QF: the last comparisons
theorem start_QF : True := by
  w_top off
  trivial
section
variable {led led' : Led} {ρ : Addr → Nat} {SA : Addr} {ps : List Addr} {Ws : List Win} {h₀ h : Heap} {L : Addr}
theorem SomeSt.pairs (K : SomeSt led ρ SA ps Ws) (hk : ∀ p ∈ led, p ∈ led') (i : Nat) (v : Value) (hv : (ps.map Value.ref)[i]? = some v) : ∃ p x y, v = Value.ref p ∧ (p, tupO [x, y]) ∈ led' := by
  rw [List.getElem?_map, Option.map_eq_some_iff] at hv
  obtain ⟨p, hp, rfl⟩ := hv
  have hlt := (List.getElem?_eq_some_iff.mp hp).1
  obtain ⟨v, wt, q, _⟩ := K.pair i p _ hp (List.getElem?_eq_getElem (by rw [← K.len]; exact hlt))
  exact ⟨p, v, .ref wt, rfl, hk _ q⟩
theorem SomeSt.pairAt (K : SomeSt led ρ SA ps Ws) (hk : ∀ p ∈ led, p ∈ led') (N : News h₀ L h led') {i : Nat} {p : Addr} {x y : Value} (hv : (ps.map Value.ref)[i]? = some (.ref p)) (hp : (p, tupO [x, y]) ∈ led') :
    ∃ W wt, W ∈ Ws ∧ y = .ref wt ∧ ToldAt led x W ∧ WinAt led wt W := by
  rw [List.getElem?_map, Option.map_eq_some_iff] at hv
  obtain ⟨p', hp', e⟩ := hv
  have e' : p' = p := by cases e; rfl
  subst e'
  have hlt := (List.getElem?_eq_some_iff.mp hp').1
  have hlt2 : i < Ws.length := by rw [← K.len]; exact hlt
  obtain ⟨v, wt, q1, q2, q3⟩ := K.pair i p' _ hp' (List.getElem?_eq_getElem hlt2)
  have e := ne_obj N hp (hk _ q1)
  simp [tupO] at e
  obtain ⟨rfl, rfl⟩ := e
  exact ⟨_, _, List.getElem_mem hlt2, rfl, q2, q3⟩
end
section
variable {prog : Program} {w : World} {dp un : Nat} {gd : Option (List Code)} {cn : Str} {cs : Scope} {a : Addr} {ccd : Value} {cl : List (Str × Addr)} {outer : List Env} {A₀ : Around} {base h₀ : Heap} {L : Addr} {m : Str → Option Value} {led : Led} {s : Shared} {Q E : Value → Shared → Prop} {p : Program} {loose : List Str} {mean : ExcName → Option Value} {mg mb : Str → Option Value}
theorem told_ne {v : Value} {W : Win} (B : Below A₀ base outer h₀) (F : Fr h₀ L s.heap m) (X : (hd.heap_39 w.params).In h₀) (N : News h₀ L s.heap led) (T : Top p loose mean mg mb h₀) (hk : cs.kind = .function)
   (hT : ToldAt led v W) (hu : un + 200 < cLine) (hdp : dp + 3 < recursionLimit) (ret : Q (.bool false) s) :
    wpAny (model prog w) (ktrTop dp un gd cn cs L a ccd cl outer) (compareOp .NotEq v v) Q E s := by
  obtain ⟨row, b, l, r⟩ := W
  cases row with
  | none =>
    obtain ⟨rfl, _, _, _⟩ := hT
    k_steps
    exact ret
  | some i =>
    obtain ⟨t, z0, z1, z2, z3, z4, rfl, ht⟩ := hT
    k_steps
    exact ret
end
theorem putM_one {rows : List (List Int)} : putM rows ⟨none, 0, 0, 0⟩ [1] = (⟨some (rows.length : Int), 0, 1, 1⟩, rows ++ [[1]]) := by
  unfold putM
  rw [if_neg (by simp), if_neg (by simp)]
  have e : grow ((⟨none, 0, 0, 0⟩ : Win).l + (List.length [(1 : Int)] : Nat)) (⟨none, 0, 0, 0⟩ : Win).r = 1 := by decide
  rw [e]
  rfl
theorem rows_one {rows : List (List Int)} : (rows ++ [[1]]).getD ((rows.length : Int)).toNat [] = [1] := by
  rw [Int.toNat_natCast, List.getD_eq_getElem?_getD, List.getElem?_append_right (Nat.le_refl _), Nat.sub_self]
  rfl
theorem winR_one {rows : List (List Int)} : WinR (rows ++ [[1]]) ⟨some (rows.length : Int), 0, 1, 1⟩ := by
  refine ⟨Int.natCast_nonneg _, Int.le_refl _, (by decide : (0 : Int) ≤ 1), Int.le_refl _, (by decide : (1 : Int) < 100000), by simp, ?_⟩
  dsimp only
  rw [rows_one]
  decide
theorem segR_one {rows : List (List Int)} : segR (rows ++ [[1]]) ⟨some (rows.length : Int), 0, 1, 1⟩ = [1] := by
  unfold segR
  dsimp only
  rw [rows_one]
  rfl
section
variable {prog : Program} {w : World} {A : Around} {E : Value → Shared → Prop} {s : Shared} {h₀ : Heap} {L : Addr} {led : Led}
theorem law_eq {t1 t2 l1 l2 : Addr} {z1 z2 z3 z4 : Tok} {vs ws : List Value} {n1 n2 : Nat} {Q : Value → Shared → Prop} (N : News h₀ L s.heap led) (h1 : (t1, tupO [.int 1 z1, .int 1 z2, .ref l1]) ∈ led) (h2 : (l1, lstO vs n1) ∈ led) (i1 : IntsAre vs [1])
    (h3 : (t2, tupO [.int 1 z3, .int 1 z4, .ref l2]) ∈ led) (h4 : (l2, lstO ws n2) ∈ led) (i2 : IntsAre ws [1]) (hu : A.units + 64 < cLine) (ret : Q (.bool true) s) : wpAny (model prog w) A (compareOp .Eq (.ref t1) (.ref t2)) Q E s := by
  have a1 : s.heap.IsList l1 vs.toArray := ⟨_, (N _ h2).1, rfl, n1, rfl⟩
  have a2 : s.heap.IsList l2 ws.toArray := ⟨_, (N _ h4).1, rfl, n2, rfl⟩
  refine eq_dataH (reads_tuple_at (News.get N h1) rfl rfl (.cons (.int _ _) (.cons (.int _ _) (.cons (reads_newData a1 (ke_carried i1)) .nil)))) (reads_tuple_at (News.get N h3) rfl rfl (.cons (.int _ _) (.cons (.int _ _) (.cons (reads_newData a2 (ke_carried i2)) .nil)))) (by decide) (by decide) hu ?_
  have e : PyData.eqv (.tuple [.int 1, .int 1, .list ([(1 : Int)].map PyData.int)]) (.tuple [.int 1, .int 1, .list ([(1 : Int)].map PyData.int)]) = true := by decide
  rw [e]
  exact ret
end

-- QG: the law
theorem start_QG : True := by
  w_top off
  trivial
theorem line_47 : True := by
  k_with "call ref" => (k_here; (first | (with_reducible show wpAny _ _ (call (Value.ref 387) _) _ _ _) | (with_reducible show wpAny _ _ (call (Value.ref 156) _) _ _ _) | (with_reducible show wpAny _ _ (call (Value.ref 434) _) _ _ _) | (with_reducible show wpAny _ _ (call (Value.ref 415) _) _ _ _) | (with_reducible show wpAny _ _ (call (Value.ref 182) _) _ _ _)); (refine stopped ?_))
  trivial
theorem line_48 : True := by
  k_with "pyIter ref" => (k_here; (with_reducible show wpAny _ _ (pyIter (Value.ref _)) _ _ _); (refine stopped ?_))
  trivial
theorem line_49 : True := by
  k_with "call type:range" => (k_here; (with_reducible show wpAny _ _ (call (Value.type "range") [Value.int _ _]) _ _ _); (refine stopped ?_))
  trivial
theorem line_50 : True := by
  k_with "call builtin:list.insert" => (k_here; (with_reducible show wpAny _ _ (call (Value.builtin _) [Value.ref _, Value.int _ _, Value.ref _]) _ _ _); (refine stopped ?_))
  trivial
theorem line_51 : True := by
  k_with "eval ListComp" => (k_here; (with_reducible show wpAny _ _ (eval (Expr.ListComp _ _ _ _) _) _ _ _); (refine stopped ?_))
  trivial
theorem line_52 : True := by
  k_with "subscriptTail Name Constant ref int" => (k_here; (with_reducible show wpAny _ _ (subscriptTail _ _ (Value.ref _) (Value.int _ _)) _ _ _); (refine stopped ?_))
  trivial
theorem line_53 : True := by
  k_with "compareOp Eq ref ref" => (k_here; (with_reducible show wpAny _ _ (compareOp CmpOp.Eq (Value.ref _) (Value.ref _)) _ _ _); (refine stopped ?_))
  trivial
set_option maxHeartbeats 40000000 in
theorem law_holds : PySem.Challenge.rw_on0026_01.Holds := by
  refine hd ?_
  k_go0
  all_goals (try k_fold)
  k_steps
  rename IntsAre _ _ => hI0
  (show wpAny _ _ _ _ _ _)
  k_dflt (refine' pool_spec ?B ?F ?X ?N ?T ?K ?d ?u ?s ?i ?ri ?rl ?l ?_; (case B => k_asm); (case F => k_asm); (case X => k_asm); (case N => k_asm); (case T => k_asm); (case K => first | exact rfl | assumption); (case d => k_room); (case u => k_units); (case s => assumption); (case i => exact hI0); (case ri => l_ints); (case rl => decide); (case l => exact allLt_to (by simp only [AllLt, and_true]; assumption)); k_whole)
  intro h1 tk1 S R big mixed t0 t1 n1 rvs ris k1 F1 N1 hri hrl hb hm1 hm2 lS lR
  (try k_lt lS); (try k_lt lR)
  (try k_sweep); (try k_fold)
  k_steps
  rename News _ _ _ _ => N9
  obtain ⟨zz, K2⟩ : ∃ ρ, St _ _ _ ρ _ _ _ S R _ _ [] [] [] _ _ := ⟨_, St.start N9 (by k_mem) hb hm1 hm2 (by k_mem) hri hrl (by k_mem) ⟨_, _, _, _, _, _, _, by k_mem⟩ (by k_mem) (by assumption) (by assumption) (by k_mem) (by k_mem) (by k_mem) (by k_mem) (by omega) (by omega) (by omega) (by omega) (by omega)⟩
  rename _ = PySem.Data.cell (some _) => hdR
  revert hdR
  rename _ = PySem.Data.cell (some _) => hdH
  intro hdR
  ((show wpAny _ _ _ _ _ _); k_dflt (refine' take_St ?B27z ?F27z ?X27z ?N27z ?T27z ?K27z ?d27z ?u27z ?S27z ?o27z ?p27z ?_; (case B27z => k_asm); (case F27z => k_asm); (case X27z => k_asm); (case N27z => k_asm); (case T27z => k_asm); (case K27z => first | exact rfl | assumption); (case d27z => k_room); (case u27z => k_units); (case S27z => first | assumption | exact St.grow (by assumption) (fun _ hm => by (repeat (first | exact hm | refine List.mem_cons_of_mem _ ?_)))); (case o27z => first | omega | (dsimp only; omega) | assumption | (simp; done)); (case p27z => first | omega | (dsimp only; omega) | assumption | (simp; done)); k_whole))
  intro h2 tk2 led2 v2 z2 F2 N2 kT2 kB2 K3 hv2
  obtain ⟨hv2, hv2'⟩ := hv2
  (try k_sweep); (try k_fold)
  have hcR := kT2.cell (by k_mem) hdR
  have hcH := kT2.cell (by k_mem) hdH
  clear kT2 kB2 K2
  k_steps
  ((show wpAny _ _ _ _ _ _); k_dflt (refine' range_abs ?F28z ?N28z ?_; (case F28z => k_asm); (case N28z => k_asm); k_whole))
  intro h3 r3 t3 u3 w3 tk3 F3 N3 hr3
  (try k_sweep); (try k_fold)
  k_steps
  (show wpAny _ _ _ _ _ _)
  k_dflt (refine' law_loop (fun i cells Ws => cells.length = i ∧ Ws.length = i + 1 ∧ (∀ W ∈ Ws, WinR (rowsOf cells) W ∧ W.l ≤ 3 ∧ W.r ≤ 6) ∧ ∀ j, ((rowsOf cells).getD j []).length < 1000) [Str.ofString "turn", Str.ofString "length", Str.ofString "more"] ?qx ?qh ?qr ?q0 ?q1 ?qF ?qN ?qK ?qcH ?qdH ?qcR ?qdR ?qp ?qt ?qd; (case qx => exact rfl); (case qh => exact rfl); (case qr => exact hr3); (case q0 => omega); (case q1 => omega); (case qF => k_asm); (case qN => k_asm); (case qK => exact K3); (case qcH => exact hcH); (case qdH => exact hdH); (case qcR => exact hcR); (case qdR => exact hdR); (case qp => exact ⟨rfl, rfl, fun W hW => by rw [List.mem_singleton] at hW; subst hW; exact ⟨⟨rfl, rfl, rfl⟩, by decide, by decide⟩, fun j => by simp [rowsOf]⟩))
  · intro i t u nx h tk I y l ρ cells rs ps Ws hi K5 hP cH cR F5 N5
    obtain ⟨p1, p2, p3, p4⟩ := hP
    clear K3 hcR hcH hr3 N3 F3
    (try k_sweep); (try k_fold)
    k_steps
    ((show wpAny _ _ _ _ _ _); k_dflt (refine' take_St ?B29z ?F29z ?X29z ?N29z ?T29z ?K29z ?d29z ?u29z ?S29z ?o29z ?p29z ?_; (case B29z => k_asm); (case F29z => k_asm); (case X29z => k_asm); (case N29z => k_asm); (case T29z => k_asm); (case K29z => first | exact rfl | assumption); (case d29z => k_room); (case u29z => k_units); (case S29z => first | assumption | exact St.grow (by assumption) (fun _ hm => by (repeat (first | exact hm | refine List.mem_cons_of_mem _ ?_)))); (case o29z => first | omega | (dsimp only; omega) | assumption | (simp; done)); (case p29z => first | omega | (dsimp only; omega) | assumption | (simp; done)); k_whole))
    intro h6 tk6 led6 v6 z6 F6 N6 kT6 kB6 K6 hv6
    obtain ⟨hv6, hv6'⟩ := hv6
    (try k_sweep); (try k_fold)
    clear kB6 K5
    k_steps
    ((show wpAny _ _ _ _ _ _); k_dflt (refine' take_St ?B30z ?F30z ?X30z ?N30z ?T30z ?K30z ?d30z ?u30z ?S30z ?o30z ?p30z ?_; (case B30z => k_asm); (case F30z => k_asm); (case X30z => k_asm); (case N30z => k_asm); (case T30z => k_asm); (case K30z => first | exact rfl | assumption); (case d30z => k_room); (case u30z => k_units); (case S30z => first | assumption | exact St.grow (by assumption) (fun _ hm => by (repeat (first | exact hm | refine List.mem_cons_of_mem _ ?_)))); (case o30z => first | omega | (dsimp only; omega) | assumption | (simp; done)); (case p30z => first | omega | (dsimp only; omega) | assumption | (simp; done)); k_whole))
    intro h7 tk7 led7 v7 z7 F7 N7 kT7 kB7 K7 hv7
    obtain ⟨hv7, hv7'⟩ := hv7
    (try k_sweep); (try k_fold)
    have k07 := kT6.trans kT7
    obtain ⟨n9, hS9⟩ := K7.som.sa
    have cH7 := k07.cell (List.mem_cons_of_mem _ cH) hdH
    have cR7 := k07.cell (List.mem_cons_of_mem _ cR) hdR
    clear kB7 K6 kT6 kT7
    k_steps
    clear hS9
    ((show wpAny _ _ _ _ _ _); k_dflt (refine' made_St ?B31z ?F31z ?X31z ?N31z ?T31z ?K31z ?d31z ?u31z ?S31z ?c31z ?o31z ?p31z ?q31z ?_; (case B31z => k_asm); (case F31z => k_asm); (case X31z => k_asm); (case N31z => k_asm); (case T31z => k_asm); (case K31z => first | exact rfl | assumption); (case d31z => k_room); (case u31z => k_units); (case S31z => first | assumption | exact St.grow (by assumption) (fun _ hm => by (repeat (first | exact hm | refine List.mem_cons_of_mem _ ?_)))); (case c31z => first | omega | (dsimp only; omega) | assumption | (simp; done)); (case o31z => first | omega | (dsimp only; omega) | assumption | (simp; done)); (case p31z => first | omega | (dsimp only; omega) | assumption | (simp; done)); (case q31z => first | omega | (dsimp only; omega) | assumption | (simp; done)); k_whole))
    intro h8 tk8 led8 ρ8 v8 cells8 F8 N8 kT8 K8 hr8 hT8
    (try k_sweep); (try k_fold)
    rw [← rowsOf_length (cells := cells)] at hT8
    have k08 := k07.trans ((KeepT.of fun _ h9 => by (repeat (first | exact h9 | refine List.mem_cons_of_mem _ ?_))).trans kT8)
    have cR8 := k08.cell (List.mem_cons_of_mem _ cR) hdR
    obtain ⟨n9, hS9⟩ := K8.som.sa
    have p5 : (rowsOf cells).length = i := by rw [rowsOf_length]; exact p1
    clear K7 kT8 k07 cH7 cR7
    k_steps
    ((show wpAny _ _ _ _ _ _); k_dflt (refine' len_rows ?N32z ?S32z ?f32z ?_; (case N32z => k_asm); (case S32z => first | assumption | exact St.grow (by assumption) (fun _ hm => by (repeat (first | exact hm | refine List.mem_cons_of_mem _ ?_)))); (case f32z => omega); k_whole))
    intro z8 tk8'
    (try k_fold)
    k_steps
    clear hS9
    ((show wpAny _ _ _ _ _ _); k_dflt (refine' insert_some ?F33z ?N33z ?S33z ?p33z ?z33z ?_; (case F33z => k_asm); (case N33z => k_asm); (case S33z => first | assumption | exact St.grow (by assumption) (fun _ hm => by (repeat (first | exact hm | refine List.mem_cons_of_mem _ ?_)))); (case p33z => exact ⟨_, _, by k_mem, by (first | assumption | exact ToldAt.mono (by assumption) (fun _ _ hm => by (repeat (first | exact hm | refine List.mem_cons_of_mem _ ?_)))), by (first | assumption | exact WinAt.mono (by assumption) (fun _ _ hm => by (repeat (first | exact hm | refine List.mem_cons_of_mem _ ?_))) | exact ⟨_, _, _, _, by k_mem⟩)⟩); (case z33z => omega); k_whole))
    intro h9 led9 F9 N9 kT9 K9
    (try k_sweep)
    have k09 := k08.trans ((KeepT.of fun _ h9 => by (repeat (first | exact h9 | refine List.mem_cons_of_mem _ ?_))).trans kT9)
    have cR9 := k09.cell (List.mem_cons_of_mem _ cR) hdR
    obtain ⟨n9, hRA9⟩ := K9.row.ra
    clear K8 kT9 k08 cR8
    k_steps
    clear hRA9
    rename News _ _ _ _ => N10
    rename IntsAre _ _ => i10
    obtain ⟨_, l10⟩ := ‹_ ∧ AllLt _ _›
    have hlt10 := allLt_to l10
    (show wpAny _ _ _ _ _ _)
    k_dflt (refine' append_row (nd := 0) ?aF (cb_drop N10 ?as) K9 i10 hlt10 ?az ?_; (case aF => k_asm); (case as => (intro p9 hp9; rcases List.mem_cons.mp hp9 with rfl | hp9; exact List.mem_cons_self ..; exact List.mem_cons_of_mem _ (List.mem_cons_of_mem _ hp9))); (case az => omega); k_whole)
    intro h11 led11 ρ11 F11 N11 kT11 K11
    (try k_sweep)
    rw [flat_one, ← hr8] at K11
    have k11 := k09.trans kT11
    clear K9 kT11 k09 cR9
    k_steps
    refine ⟨_, _, _, led11, _, cells8, _, _, _, rfl, by k_asm, ?_, by k_asm, k11, K11, ?_, by simp only [List.length_cons]; omega, fun W' hW' => ?_, ?_⟩
    · intro z hz
      have e1 : z ≠ Str.ofString "turn" := fun e => by subst e; exact absurd hz (by decide)
      have e2 : z ≠ Str.ofString "length" := fun e => by subst e; exact absurd hz (by decide)
      have e3 : z ≠ Str.ofString "more" := fun e => by subst e; exact absurd hz (by decide)
      simp only [if_neg e1, if_neg e2, if_neg e3, hz, Bool.false_eq_true, if_false]
    · have := congrArg List.length hr8
      rw [rowsOf_length, List.length_append, p5] at this
      simpa using this
    · rw [hr8]
      rcases List.mem_cons.mp hW' with rfl | hW'
      · exact ⟨win_push hv6 (by omega) (by omega), by dsimp only; omega, by dsimp only; omega⟩
      · exact ⟨(ext_push p4 (by simp; omega)).win (p3 W' hW').1, (p3 W' hW').2⟩
    · rw [hr8]
      exact (ext_push p4 (by simp; omega)).big
  ·
    intro u nx h tk ρ cells rs ps Ws K5 hP cH cR F5 N5
    obtain ⟨p1, p2, p3, p4⟩ := hP
    clear K3 hcR hcH hr3 N3 F3
    (try k_sweep); (try k_fold)
    k_steps
    ((show wpAny _ _ _ _ _ _); k_dflt (refine' take_St ?B34z ?F34z ?X34z ?N34z ?T34z ?K34z ?d34z ?u34z ?S34z ?o34z ?p34z ?_; (case B34z => k_asm); (case F34z => k_asm); (case X34z => k_asm); (case N34z => k_asm); (case T34z => k_asm); (case K34z => first | exact rfl | assumption); (case d34z => k_room); (case u34z => k_units); (case S34z => first | assumption | exact St.grow (by assumption) (fun _ hm => by (repeat (first | exact hm | refine List.mem_cons_of_mem _ ?_)))); (case o34z => first | omega | (dsimp only; omega) | assumption | (simp; done)); (case p34z => first | omega | (dsimp only; omega) | assumption | (simp; done)); k_whole))
    intro h6 tk6 led6 v6 z6 F6 N6 kT6 kB6 K6 hv6
    obtain ⟨hv6, hv6'⟩ := hv6
    (try k_sweep); (try k_fold)
    have cH6 := kT6.cell cH hdH
    have cR6 := kT6.cell cR hdR
    clear kB6 K5 kT6 cH cR
    k_steps
    ((show wpAny _ _ _ _ _ _); k_dflt (refine' range_abs ?F35z ?N35z ?_; (case F35z => k_asm); (case N35z => k_asm); k_whole))
    intro h7 r7 t7 u7 w7 tk7 F7 N7 hr7
    (try k_sweep); (try k_fold)
    k_steps
    have O0 : LawOk (rowsOf cells) Ws 0 := ⟨fun W hW => ⟨(p3 W hW).1, by have := p3 W hW; omega, by have := p3 W hW; omega⟩, by rw [rowsOf_length]; omega, by omega, by omega, p4⟩
    (show wpAny _ _ _ _ _ _)
    k_dflt (refine' law_loop (fun i cells Ws => LawOk (rowsOf cells) Ws i) [Str.ofString "turn"] ?rx ?rh ?rr ?r0 ?r1 ?rF ?rN ?rK ?rcH ?rdH ?rcR ?rdR ?rp ?rt ?rd; (case rx => exact rfl); (case rh => exact rfl); (case rr => exact hr7); (case r0 => omega); (case r1 => omega); (case rF => k_asm); (case rN => k_asm); (case rK => exact K6); (case rcH => exact cH6); (case rdH => exact hdH); (case rcR => exact cR6); (case rdR => exact hdR); (case rp => exact O0))
    · clear K6 hr7 N7 F7 cH6 cR6 O0 p1 p2 p3 p4
      intro i t u nx h tk I y l ρ cells rs ps Ws hi K5 O5 cH cR F5 N5
      (try k_sweep); (try k_fold)
      k_steps
      ((show wpAny _ _ _ _ _ _); k_dflt (refine' deed_spec ?B36z ?F36z ?X36z ?N36z ?T36z ?K36z ?d36z ?u36z ?S36z ?O36z ?t36z ?_; (case B36z => k_asm); (case F36z => k_asm); (case X36z => k_asm); (case N36z => k_asm); (case T36z => k_asm); (case K36z => first | exact rfl | assumption); (case d36z => k_room); (case u36z => k_units); (case S36z => first | assumption | exact St.grow (by assumption) (fun _ hm => by (repeat (first | exact hm | refine List.mem_cons_of_mem _ ?_)))); (case O36z => assumption); (case t36z => omega); k_whole))
      intro h6 tk6 led6 ρ6 cells6 rs6 ps6 Ws6 F6 N6 kT6 K6 O6
      (try k_sweep); (try k_fold)
      have cH6 := kT6.cell (List.mem_cons_of_mem _ cH) hdH
      have cR6 := kT6.cell (List.mem_cons_of_mem _ cR) hdR
      clear K5 O5 cH cR
      k_steps
      obtain ⟨nS, hSA⟩ := K6.som.sa
      k_dflt (refine' comp_none ?hc0 ?hc1 ?hc2 ?hc3 ?hc4 ?hc5 ?hc6 ?hc7 ?_ ?hc8; (case hc0 => k_asm); (case hc1 => with_unfolding_all rfl); (case hc2 => decide); (case hc3 => rfl); (case hc4 => decide); (case hc5 => rfl); (case hc6 => rfl); (case hc7 => decide); (case hc8 => exact fun _ => rfl))
      k_steps
      rename News _ _ _ _ => N7
      refine ⟨_, _, _, _, rfl, rfl, by k_asm, N7, by k_mem, K6.som.pairs (fun _ h9 => by (repeat (first | exact h9 | refine List.mem_cons_of_mem _ ?_))), ?_, ?_⟩
      · intro i p x y I' oI' C' oC' D' m' h' tk' E' hv hp hC' ha' hb' F' N' off' ne'
        obtain ⟨W, wt, hW, rfl, hT, hw⟩ := K6.som.pairAt (fun _ h9 => by (repeat (first | exact h9 | refine List.mem_cons_of_mem _ ?_))) N7 hv hp
        have WR := (O6.win W hW).1
        have oc : cells6.length < 1000 := by have := O6.cl; rw [rowsOf_length] at this; omega
        k_steps
        (show wpAny _ _ _ _ _ _)
        k_dflt (refine' law_shown_spec ?sB ?sF ?sX ?sN ?sT ?sK ?sd ?su ?sS ?sR ?sv ?sw ?sW ?sc ?sb ?_; (case sB => k_asm); (case sF => k_asm); (case sX => k_asm); (case sN => k_asm); (case sT => k_asm); (case sK => first | exact rfl | assumption); (case sd => k_room); (case su => k_units); (case sS => exact K6.heap.grow (fun _ h9 => by (repeat (first | exact h9 | refine List.mem_cons_of_mem _ ?_)))); (case sR => exact (K6.grow (fun _ h9 => by (repeat (first | exact h9 | refine List.mem_cons_of_mem _ ?_)))).row); (case sv => exact hT.mono fun _ _ h9 => by (repeat (first | exact h9 | refine List.mem_cons_of_mem _ ?_))); (case sw => exact hw.mono fun _ _ h9 => by (repeat (first | exact h9 | refine List.mem_cons_of_mem _ ?_))); (case sW => exact WR); (case sc => exact oc); (case sb => exact fun i => by have := O6.big i; omega); k_whole)
        intro h7 tk7 F7 N7
        k_steps
        all_goals first | exact F7 | exact N7
      · intro D' h' tk' F' N' off'
        k_steps
        rename News _ _ _ _ => N9
        refine ⟨_, _, _, led6, _, cells6, _, _, _, rfl, by k_asm, ?_, cb_drop N9 fun _ h9 => by (repeat (first | exact h9 | refine List.mem_cons_of_mem _ ?_)), kT6, K6, O6⟩
        intro z hz
        have e1 : z ≠ Str.ofString "turn" := fun e => by subst e; exact absurd hz (by decide)
        simp only [if_neg e1, hz, Bool.false_eq_true, if_false]
    · clear K6 hr7 N7 F7 cH6 cR6 O0 p1 p2 p3 p4
      intro u nx h tk ρ cells rs ps Ws K5 O5 cH cR F5 N5
      (try k_sweep); (try k_fold)
      have o1 := O5.cl
      have o2 := O5.wl
      have o3 := O5.w0
      k_steps
      ((show wpAny _ _ _ _ _ _); k_dflt (refine' item_some ?N37z ?S37z ?O37z ?a37z ?b37z ?z37z ?_ ?s37z; (case N37z => k_asm); (case S37z => first | assumption | exact St.grow (by assumption) (fun _ hm => by (repeat (first | exact hm | refine List.mem_cons_of_mem _ ?_)))); (case O37z => assumption); (case a37z => omega); (case b37z => omega); (case z37z => omega); (case s37z => (intro; with_unfolding_all rfl)); k_whole))
      intro p v wt W y1 y2 y3 y4 hW hp hT hw hw4 hO1 hO2 hO3 hO4 hO5 hO6
      (try k_fold)
      k_steps
      (show wpAny _ _ _ _ _ _)
      k_dflt (refine' appended_nil (ρ := fun _ => 0) (HD := 0) (KD := 0) (cells := []) ?uB ?uF ?uX ?uN ?uT ?uK ?ud ?uu ?uv ?um ?_; (case uB => k_asm); (case uF => k_asm); (case uX => k_asm); (case uN => k_asm); (case uT => k_asm); (case uK => first | exact rfl | assumption); (case ud => k_room); (case uu => k_units); (case uv => exact hT.mono fun _ _ h9 => by (repeat (first | exact h9 | refine List.mem_cons_of_mem _ ?_))); (case um => k_mem); k_whole)
      intro h7 tk7 F7 N7
      (try k_sweep); (try k_fold)
      k_steps
      (show wpAny _ _ _ _ _ _)
      k_dflt (refine' told_ne ?vB ?vF ?vX ?vN ?vT ?vK ?vv ?vu ?vd ?_; (case vB => k_asm); (case vF => k_asm); (case vX => k_asm); (case vN => k_asm); (case vT => k_asm); (case vK => first | exact rfl | assumption); (case vd => k_room); (case vu => k_units); (case vv => exact hT.mono fun _ _ h9 => by (repeat (first | exact h9 | refine List.mem_cons_of_mem _ ?_))); k_whole)
      k_steps
      (show wpAny _ _ _ _ _ _)
      k_dflt (refine' appended_nil (ρ := fun _ => 0) (HD := 0) (KD := 0) (cells := []) (W := ⟨none, 0, 0, 0⟩) ?wB ?wF ?wX ?wN ?wT ?wK ?wd ?wu ?wv ?wm ?_; (case wB => k_asm); (case wF => k_asm); (case wX => k_asm); (case wN => k_asm); (case wT => k_asm); (case wK => first | exact rfl | assumption); (case wd => k_room); (case wu => k_units); (case wv => exact ⟨rfl, rfl, rfl, rfl⟩); (case wm => k_mem); k_whole)
      intro h8 tk8 F8 N8
      (try k_sweep); (try k_fold)
      k_steps
      obtain ⟨_, l8⟩ := ‹_ ∧ _ ∧ AllLt _ _›
      obtain ⟨_, l8⟩ := l8
      obtain ⟨fr1, _⟩ := K5.fresh (allLt_to l8)
      have oc : cells.length < 1000 := by rw [rowsOf_length] at o1; omega
      (show wpAny _ _ _ _ _ _)
      k_dflt (refine' appended_St (W := ⟨none, 0, 0, 0⟩) (ms := [1]) ?xB ?xF ?xX ?xN ?xT ?xK ?xd ?xu ?xS ?xc ?xv ?xw ?xm ?xi ?xf ?xl ?xr ?_; (case xB => k_asm); (case xF => k_asm); (case xX => k_asm); (case xN => k_asm); (case xT => k_asm); (case xK => first | exact rfl | assumption); (case xd => k_room); (case xu => k_units); (case xS => exact K5.grow (fun _ h9 => by (repeat (first | exact h9 | refine List.mem_cons_of_mem _ ?_)))); (case xc => exact oc); (case xv => exact ⟨rfl, rfl, rfl, rfl⟩); (case xw => exact ⟨rfl, rfl, rfl⟩); (case xm => k_mem); (case xi => l_ints); (case xf => exact fr1); (case xl => decide); (case xr => decide); k_whole)
      intro h9 tk9 led9 ρ9 v9 cells9 F9 N9 kT9 hm9 K9 hr9 hT9
      rw [putM_one] at hr9 hT9
      dsimp only at hr9 hT9
      have W9 : WinR (rowsOf cells9) ⟨some ((rowsOf cells).length : Int), 0, 1, 1⟩ := by rw [hr9]; exact winR_one
      have hs9 : seg cells9 ⟨some ((rowsOf cells).length : Int), 0, 1, 1⟩ = [1] := by rw [seg_rows W9, hr9]; exact segR_one
      have hH9 := K9.heap
      have hW9 := winOk_of W9
      have cH9 := kT9.cell (List.mem_cons_of_mem _ (List.mem_cons_of_mem _ (List.mem_cons_of_mem _ cH))) hdH
      (try k_sweep); (try k_fold)
      k_steps
      rename IntsAre _ (seg _ _) => hI9
      rw [hs9] at hI9
      (show wpAny _ _ _ _ _ _)
      k_dflt (refine' law_eq ?yN ?ya ?yb ?yc ?yd ?ye ?yf ?yu ?_; (case yN => k_asm); (case ya => k_mem); (case yb => k_mem); (case yc => exact hI9); (case yd => k_mem); (case ye => k_mem); (case yf => l_ints); (case yu => ke_room); k_whole)
      repeat (k_unfold; (try dsimp only))
      kc_close

end Mine
theorem PySem.Challenge.cw_on0026_01_holds : PySem.Challenge.rw_on0026_01.Holds := by
  exact Mine.law_holds
