import PyProof.Rows.All
import Wide.All
import OpenK.AllK
import Wide.FinOn
import PyProof.InstLoad
import Lean
import PySem.Challenge.RW_qd0141_01
open PySem PySem.W PyProof.Rows PySem.Spec PySem.Calls
set_option Elab.async false
set_option maxRecDepth 100000
set_option maxHeartbeats 8000000
set_option compiler.extract_closed false
set_option linter.all false
name_quick tw10007627690174824804 for S.findZ by S.findZ_eq
name_quick tw10010936943081839664 for S.findZ by S.findZ_eq
name_quick tw10029231156530900338 for S.findZ by S.findZ_eq
name_quick tw10073347824450446311 for S.findZ by S.findZ_eq
name_quick tw10132909190147918485 for S.findZ by S.findZ_eq
name_quick tw10205541121877940668 for S.findZ by S.findZ_eq
name_quick tw10227693086864044499 for S.findZ by S.findZ_eq
name_quick tw10314498396905981064 for S.findZ by S.findZ_eq
name_quick tw10317580896714288900 for S.findZ by S.findZ_eq
name_quick tw10323183001455561277 for S.findZ by S.findZ_eq
name_quick tw10424941004445345732 for S.findZ by S.findZ_eq
name_quick tw10454494479268063676 for S.findZ by S.findZ_eq
name_quick tw10470071008263537045 for S.findZ by S.findZ_eq
name_quick tw10528696920762540405 for S.findZ by S.findZ_eq
name_quick tw10706342367453228570 for S.findZ by S.findZ_eq
name_quick tw10804646723710106361 for S.findZ by S.findZ_eq
name_quick tw10833955939284561965 for S.findZ by S.findZ_eq
name_quick tw10887116778572429059 for S.findZ by S.findZ_eq
name_quick tw1092655722715705105 for S.findZ by S.findZ_eq
name_quick tw10942035263794033107 for S.findZ by S.findZ_eq
name_quick tw10948738476641704880 for S.findZ by S.findZ_eq
name_quick tw10996506086634736982 for S.findZ by S.findZ_eq
name_quick tw11013792430000457035 for S.findZ by S.findZ_eq
name_quick tw11015881713165817837 for S.findZ by S.findZ_eq
name_quick tw11130039905162102590 for S.findZ by S.findZ_eq
name_quick tw11161088081135249708 for S.findZ by S.findZ_eq
name_quick tw11186114360453789277 for S.findZ by S.findZ_eq
name_quick tw11270796479367742343 for S.findZ by S.findZ_eq
name_quick tw11306939235166856333 for S.findZ by S.findZ_eq
name_quick tw11310463157757771331 for S.findZ by S.findZ_eq
name_quick tw11317593695737139937 for S.findZ by S.findZ_eq
name_quick tw11333186260410459676 for S.findZ by S.findZ_eq
name_quick tw11445135464325071761 for S.findZ by S.findZ_eq
name_quick tw11452132507678324671 for S.findZ by S.findZ_eq
name_quick tw11462045893675790159 for S.findZ by S.findZ_eq
name_quick tw11543547407058413889 for S.findZ by S.findZ_eq
name_quick tw11588390666370768167 for S.findZ by S.findZ_eq
name_quick tw11625766737575182897 for S.findZ by S.findZ_eq
name_quick tw11636919720809706868 for S.findZ by S.findZ_eq
name_quick tw117213463901210413 for S.findZ by S.findZ_eq
name_quick tw11729385059970357855 for S.findZ by S.findZ_eq
name_quick tw11788150170368784547 for S.findZ by S.findZ_eq
name_quick tw11853533878840232495 for S.findZ by S.findZ_eq
name_quick tw11939915149646268982 for S.findZ by S.findZ_eq
name_quick tw11964429278604863157 for S.findZ by S.findZ_eq
name_quick tw11985326045990495214 for S.findZ by S.findZ_eq
name_quick tw11994158751524154303 for S.findZ by S.findZ_eq
name_quick tw12172078356533094185 for S.findZ by S.findZ_eq
name_quick tw1218959903707654005 for S.findZ by S.findZ_eq
name_quick tw12233582284571471492 for S.findZ by S.findZ_eq
name_quick tw12268644228514654432 for S.findZ by S.findZ_eq
name_quick tw12290603225136948437 for S.findZ by S.findZ_eq
name_quick tw12329403913580668285 for S.findZ by S.findZ_eq
name_quick tw12392613427281201732 for S.findZ by S.findZ_eq
name_quick tw1258299570235058372 for S.findZ by S.findZ_eq
name_quick tw1258717718454355964 for S.findZ by S.findZ_eq
name_quick tw12635813782599140982 for S.findZ by S.findZ_eq
name_quick tw12659028871203227004 for S.findZ by S.findZ_eq
name_quick tw12813236842856870187 for S.findZ by S.findZ_eq
name_quick tw12832477231654346042 for S.findZ by S.findZ_eq
name_quick tw12850107946570832962 for S.findZ by S.findZ_eq
name_quick tw12880600461018141596 for S.findZ by S.findZ_eq
name_quick tw1291980286583624508 for S.findZ by S.findZ_eq
name_quick tw12945451867199242903 for S.findZ by S.findZ_eq
name_quick tw13016732220969518872 for S.findZ by S.findZ_eq
name_quick tw13036272033356848781 for S.findZ by S.findZ_eq
name_quick tw13141144453892091621 for S.findZ by S.findZ_eq
name_quick tw13145125596335152023 for S.findZ by S.findZ_eq
name_quick tw13180171748994924942 for S.findZ by S.findZ_eq
name_quick tw13215998728584607739 for S.findZ by S.findZ_eq
name_quick tw13236226663087606529 for S.findZ by S.findZ_eq
name_quick tw13254397897704925713 for S.findZ by S.findZ_eq
name_quick tw13317431791736044220 for S.findZ by S.findZ_eq
name_quick tw13512673800721320934 for S.findZ by S.findZ_eq
name_quick tw1355338860687761863 for S.findZ by S.findZ_eq
name_quick tw13607416678640721797 for S.findZ by S.findZ_eq
name_quick tw13615603153576403970 for S.findZ by S.findZ_eq
name_quick tw13640514254501968386 for S.findZ by S.findZ_eq
name_quick tw136631920214876835 for S.findZ by S.findZ_eq
name_quick tw13678640442995254988 for S.findZ by S.findZ_eq
name_quick tw13759679279233594173 for S.findZ by S.findZ_eq
name_quick tw1377046205977697930 for S.findZ by S.findZ_eq
name_quick tw13789449189825218787 for S.findZ by S.findZ_eq
name_quick tw13900631225919944168 for S.findZ by S.findZ_eq
name_quick tw13912434898499826684 for S.findZ by S.findZ_eq
name_quick tw13981391230805400906 for S.findZ by S.findZ_eq
name_quick tw14023627001141898710 for S.findZ by S.findZ_eq
name_quick tw14073706353221006472 for S.findZ by S.findZ_eq
name_quick tw14108194823987119177 for S.findZ by S.findZ_eq
name_quick tw14126943448341045398 for S.findZ by S.findZ_eq
name_quick tw1414301608579184545 for S.findZ by S.findZ_eq
name_quick tw14168537005229113720 for S.findZ by S.findZ_eq
name_quick tw14223099787259518943 for S.findZ by S.findZ_eq
name_quick tw14224011070414065920 for S.findZ by S.findZ_eq
name_quick tw14311459727803291754 for S.findZ by S.findZ_eq
name_quick tw14326252917377295143 for S.findZ by S.findZ_eq
name_quick tw14333388528381170442 for S.findZ by S.findZ_eq
name_quick tw14386061602966655976 for S.findZ by S.findZ_eq
name_quick tw14391268981414578426 for S.findZ by S.findZ_eq
name_quick tw14433975572909055671 for S.findZ by S.findZ_eq
name_quick tw14530364306720264245 for S.findZ by S.findZ_eq
name_quick tw14537914154153760125 for S.findZ by S.findZ_eq
name_quick tw14553827428707814869 for S.findZ by S.findZ_eq
name_quick tw14821650378409806113 for S.findZ by S.findZ_eq
name_quick tw14834023430324568649 for S.findZ by S.findZ_eq
name_quick tw14884601019740666482 for S.findZ by S.findZ_eq
name_quick tw14896874001708588922 for S.findZ by S.findZ_eq
name_quick tw14979626087600564940 for S.findZ by S.findZ_eq
name_quick tw15007238320947547705 for S.findZ by S.findZ_eq
name_quick tw15066959818950650227 for S.findZ by S.findZ_eq
name_quick tw15112985482279097393 for S.findZ by S.findZ_eq
name_quick tw15168306246750427876 for S.findZ by S.findZ_eq
name_quick tw151948405760981731 for S.findZ by S.findZ_eq
name_quick tw15263041282635125899 for S.findZ by S.findZ_eq
name_quick tw15278061642289888581 for S.findZ by S.findZ_eq
name_quick tw15323854079317868165 for S.findZ by S.findZ_eq
name_quick tw1537898542681612871 for S.findZ by S.findZ_eq
name_quick tw15480198773659482676 for S.findZ by S.findZ_eq
name_quick tw15490439104401381959 for S.findZ by S.findZ_eq
name_quick tw15560500314895047343 for S.findZ by S.findZ_eq
name_quick tw15663404670287596823 for S.findZ by S.findZ_eq
name_quick tw15742981410569661332 for S.findZ by S.findZ_eq
name_quick tw15919542637913265678 for S.findZ by S.findZ_eq
name_quick tw15980859228951719591 for S.findZ by S.findZ_eq
name_quick tw16018607276475445134 for S.findZ by S.findZ_eq
name_quick tw16049961110935095269 for S.findZ by S.findZ_eq
name_quick tw16145008321745377990 for S.findZ by S.findZ_eq
name_quick tw1617757218408452269 for S.findZ by S.findZ_eq
name_quick tw1620339239838986703 for S.findZ by S.findZ_eq
name_quick tw16241802466949684156 for S.findZ by S.findZ_eq
name_quick tw16296994325663420285 for S.findZ by S.findZ_eq
name_quick tw16350708796919097252 for S.findZ by S.findZ_eq
name_quick tw16414604833108395602 for S.findZ by S.findZ_eq
name_quick tw16439824349840649037 for S.findZ by S.findZ_eq
name_quick tw16487347958798203451 for S.findZ by S.findZ_eq
name_quick tw16531745337717519161 for S.findZ by S.findZ_eq
name_quick tw16548257151911338427 for S.findZ by S.findZ_eq
name_quick tw16593013826814733010 for S.findZ by S.findZ_eq
name_quick tw16643379632663270332 for S.findZ by S.findZ_eq
name_quick tw16643706677886111943 for S.findZ by S.findZ_eq
name_quick tw16697116713213952808 for S.findZ by S.findZ_eq
name_quick tw16741492637210864865 for S.findZ by S.findZ_eq
name_quick tw16817318245366136608 for S.findZ by S.findZ_eq
name_quick tw16916688483869632129 for S.findZ by S.findZ_eq
name_quick tw16966814322356759819 for S.findZ by S.findZ_eq
name_quick tw17000155066101142889 for S.findZ by S.findZ_eq
name_quick tw17000458434675057986 for S.findZ by S.findZ_eq
name_quick tw17018628822417861297 for S.findZ by S.findZ_eq
name_quick tw17057272898397164401 for S.findZ by S.findZ_eq
name_quick tw1706496860858754268 for S.findZ by S.findZ_eq
name_quick tw17100903815162463580 for S.findZ by S.findZ_eq
name_quick tw17111948838632640456 for S.findZ by S.findZ_eq
name_quick tw17164873540382356111 for S.findZ by S.findZ_eq
name_quick tw17279654841073493023 for S.findZ by S.findZ_eq
name_quick tw17386159190761668373 for S.findZ by S.findZ_eq
name_quick tw17427319049150867212 for S.findZ by S.findZ_eq
name_quick tw17476080006546285661 for S.findZ by S.findZ_eq
name_quick tw17497748084772794779 for S.findZ by S.findZ_eq
name_quick tw17517737089405305841 for S.findZ by S.findZ_eq
name_quick tw17730428716208468724 for S.findZ by S.findZ_eq
name_quick tw17828083071136270317 for S.findZ by S.findZ_eq
name_quick tw17846936440860909165 for S.findZ by S.findZ_eq
name_quick tw17964007177503468958 for S.findZ by S.findZ_eq
name_quick tw17968720173961103018 for S.findZ by S.findZ_eq
name_quick tw17975652961387846372 for S.findZ by S.findZ_eq
name_quick tw17988542015724977305 for S.findZ by S.findZ_eq
name_quick tw18056578402003937789 for S.findZ by S.findZ_eq
name_quick tw18101931140130867144 for S.findZ by S.findZ_eq
name_quick tw18211773271919218964 for S.findZ by S.findZ_eq
name_quick tw18220123701641295943 for S.findZ by S.findZ_eq
name_quick tw18260038339965228139 for S.findZ by S.findZ_eq
name_quick tw1829445100760108279 for S.findZ by S.findZ_eq
name_quick tw18340240734955500558 for S.findZ by S.findZ_eq
name_quick tw18345786424863182364 for S.findZ by S.findZ_eq
name_quick tw18350330562280901221 for S.findZ by S.findZ_eq
name_quick tw183835017167291270 for S.findZ by S.findZ_eq
name_quick tw18416463498863911781 for S.findZ by S.findZ_eq
name_quick tw1962928258387122110 for S.findZ by S.findZ_eq
name_quick tw2039238271031011813 for S.findZ by S.findZ_eq
name_quick tw219737044198020058 for S.findZ by S.findZ_eq
name_quick tw2283851925072248500 for S.findZ by S.findZ_eq
name_quick tw2334299552400917057 for S.findZ by S.findZ_eq
name_quick tw2408619945344806742 for S.findZ by S.findZ_eq
name_quick tw2422670821966735624 for S.findZ by S.findZ_eq
name_quick tw2460228577881660442 for S.findZ by S.findZ_eq
name_quick tw2478078296215019888 for S.findZ by S.findZ_eq
name_quick tw2611137233208623240 for S.findZ by S.findZ_eq
name_quick tw2664551874359636763 for S.findZ by S.findZ_eq
name_quick tw2670528217467546775 for S.findZ by S.findZ_eq
name_quick tw2719445374943340272 for S.findZ by S.findZ_eq
name_quick tw282004115355043989 for S.findZ by S.findZ_eq
name_quick tw2862820112641550484 for S.findZ by S.findZ_eq
name_quick tw3039592710220408265 for S.findZ by S.findZ_eq
name_quick tw3093977132361051618 for S.findZ by S.findZ_eq
name_quick tw3094477031063562474 for S.findZ by S.findZ_eq
name_quick tw3129706707597842070 for S.findZ by S.findZ_eq
name_quick tw3131671291697673992 for S.findZ by S.findZ_eq
name_quick tw313226197891681235 for S.findZ by S.findZ_eq
name_quick tw3152983702415266003 for S.findZ by S.findZ_eq
name_quick tw3264259588550801142 for S.findZ by S.findZ_eq
name_quick tw3282434896037501709 for S.findZ by S.findZ_eq
name_quick tw3362959441861295915 for S.findZ by S.findZ_eq
name_quick tw3393014988767919139 for S.findZ by S.findZ_eq
name_quick tw3424931102881643321 for S.findZ by S.findZ_eq
name_quick tw347637069881736656 for S.findZ by S.findZ_eq
name_quick tw3577408171920636059 for S.findZ by S.findZ_eq
name_quick tw3636048126100218174 for S.findZ by S.findZ_eq
name_quick tw3698559305507148144 for S.findZ by S.findZ_eq
name_quick tw3764465048917985505 for S.findZ by S.findZ_eq
name_quick tw3766158894648301139 for S.findZ by S.findZ_eq
name_quick tw3778451253796500701 for S.findZ by S.findZ_eq
name_quick tw378412475510648054 for S.findZ by S.findZ_eq
name_quick tw3820604794100220378 for S.findZ by S.findZ_eq
name_quick tw3856783459128436802 for S.findZ by S.findZ_eq
name_quick tw387338674003428930 for S.findZ by S.findZ_eq
name_quick tw3880421473898291048 for S.findZ by S.findZ_eq
name_quick tw3891137856419664920 for S.findZ by S.findZ_eq
name_quick tw392140993173905013 for S.findZ by S.findZ_eq
name_quick tw3972328310683599613 for S.findZ by S.findZ_eq
name_quick tw3976722010076183465 for S.findZ by S.findZ_eq
name_quick tw4011157648589011858 for S.findZ by S.findZ_eq
name_quick tw4039474712603431140 for S.findZ by S.findZ_eq
name_quick tw4071324889030633612 for S.findZ by S.findZ_eq
name_quick tw4075660801711882420 for S.findZ by S.findZ_eq
name_quick tw4090926877573551719 for S.findZ by S.findZ_eq
name_quick tw4224760802259116069 for S.findZ by S.findZ_eq
name_quick tw4292500188555128830 for S.findZ by S.findZ_eq
name_quick tw4302124980754421698 for S.findZ by S.findZ_eq
name_quick tw4319705520415482375 for S.findZ by S.findZ_eq
name_quick tw43969757491396457 for S.findZ by S.findZ_eq
name_quick tw4407734736301137906 for S.findZ by S.findZ_eq
name_quick tw4549333791460862111 for S.findZ by S.findZ_eq
name_quick tw4552823106982906706 for S.findZ by S.findZ_eq
name_quick tw4558998842232669794 for S.findZ by S.findZ_eq
name_quick tw460243522976405022 for S.findZ by S.findZ_eq
name_quick tw4636218855388986860 for S.findZ by S.findZ_eq
name_quick tw4679858250743294509 for S.findZ by S.findZ_eq
name_quick tw470574548607681690 for S.findZ by S.findZ_eq
name_quick tw4748654258956052638 for S.findZ by S.findZ_eq
name_quick tw4775785305629353868 for S.findZ by S.findZ_eq
name_quick tw4797165386629745026 for S.findZ by S.findZ_eq
name_quick tw4933834842325187142 for S.findZ by S.findZ_eq
name_quick tw4978915544186085027 for S.findZ by S.findZ_eq
name_quick tw4980102563643897964 for S.findZ by S.findZ_eq
name_quick tw5032809538720368765 for S.findZ by S.findZ_eq
name_quick tw505943868828395459 for S.findZ by S.findZ_eq
name_quick tw5076957145309523181 for S.findZ by S.findZ_eq
name_quick tw5111356299099525756 for S.findZ by S.findZ_eq
name_quick tw5189142188285759775 for S.findZ by S.findZ_eq
name_quick tw5200128776193632040 for S.findZ by S.findZ_eq
name_quick tw5268983451555188008 for S.findZ by S.findZ_eq
name_quick tw5345256250457102556 for S.findZ by S.findZ_eq
name_quick tw5357591511691535388 for S.findZ by S.findZ_eq
name_quick tw5396446701170858492 for S.findZ by S.findZ_eq
name_quick tw5706481520468235054 for S.findZ by S.findZ_eq
name_quick tw5721027456603625697 for S.findZ by S.findZ_eq
name_quick tw5770868932273138760 for S.findZ by S.findZ_eq
name_quick tw5902227825499142635 for S.findZ by S.findZ_eq
name_quick tw5978237884098788730 for S.findZ by S.findZ_eq
name_quick tw6004533443673955352 for S.findZ by S.findZ_eq
name_quick tw6019396324639902685 for S.findZ by S.findZ_eq
name_quick tw6122645084068987007 for S.findZ by S.findZ_eq
name_quick tw6245536207120538393 for S.findZ by S.findZ_eq
name_quick tw6380047634161181297 for S.findZ by S.findZ_eq
name_quick tw6434138532213402376 for S.findZ by S.findZ_eq
name_quick tw6448080314894763839 for S.findZ by S.findZ_eq
name_quick tw6550987210724342151 for S.findZ by S.findZ_eq
name_quick tw6589095468515690095 for S.findZ by S.findZ_eq
name_quick tw662354867322794072 for S.findZ by S.findZ_eq
name_quick tw6654550962395885724 for S.findZ by S.findZ_eq
name_quick tw6662432510661729299 for S.findZ by S.findZ_eq
name_quick tw667198328695590252 for S.findZ by S.findZ_eq
name_quick tw6679490504615227074 for S.findZ by S.findZ_eq
name_quick tw6683783046931543321 for S.findZ by S.findZ_eq
name_quick tw6711915476519705758 for S.findZ by S.findZ_eq
name_quick tw6792406925840432001 for S.findZ by S.findZ_eq
name_quick tw6817277305950994716 for S.findZ by S.findZ_eq
name_quick tw682011567655089306 for S.findZ by S.findZ_eq
name_quick tw7198390536060210744 for S.findZ by S.findZ_eq
name_quick tw721709456127091705 for S.findZ by S.findZ_eq
name_quick tw7232422423428716515 for S.findZ by S.findZ_eq
name_quick tw7250012664060256230 for S.findZ by S.findZ_eq
name_quick tw7269565832213808900 for S.findZ by S.findZ_eq
name_quick tw7275051467321613617 for S.findZ by S.findZ_eq
name_quick tw7299303143086499733 for S.findZ by S.findZ_eq
name_quick tw7299951869573292228 for S.findZ by S.findZ_eq
name_quick tw7323676302269181137 for S.findZ by S.findZ_eq
name_quick tw7397068168572129948 for S.findZ by S.findZ_eq
name_quick tw7401281599722004195 for S.findZ by S.findZ_eq
name_quick tw7496433998918960881 for S.findZ by S.findZ_eq
name_quick tw7581352650102555174 for S.findZ by S.findZ_eq
name_quick tw7650934615059315214 for S.findZ by S.findZ_eq
name_quick tw7745614565497352828 for S.findZ by S.findZ_eq
name_quick tw7788680626742099145 for S.findZ by S.findZ_eq
name_quick tw7892128664451923741 for S.findZ by S.findZ_eq
name_quick tw8017206721242287953 for S.findZ by S.findZ_eq
name_quick tw8032284361305108907 for S.findZ by S.findZ_eq
name_quick tw8075568018651887793 for S.findZ by S.findZ_eq
name_quick tw8098380416015320538 for S.findZ by S.findZ_eq
name_quick tw8119918657739134586 for S.findZ by S.findZ_eq
name_quick tw8206430501311747189 for S.findZ by S.findZ_eq
name_quick tw8376441433122354887 for S.findZ by S.findZ_eq
name_quick tw8424611434330503625 for S.findZ by S.findZ_eq
name_quick tw8537084889766193716 for S.findZ by S.findZ_eq
name_quick tw8555734327229750603 for S.findZ by S.findZ_eq
name_quick tw8579058602437062094 for S.findZ by S.findZ_eq
name_quick tw8595292554425487202 for S.findZ by S.findZ_eq
name_quick tw8603108125212654177 for S.findZ by S.findZ_eq
name_quick tw8642067239939848140 for S.findZ by S.findZ_eq
name_quick tw8693227569615203950 for S.findZ by S.findZ_eq
name_quick tw8703263022893421829 for S.findZ by S.findZ_eq
name_quick tw8708707556590381134 for S.findZ by S.findZ_eq
name_quick tw8719427161674164953 for S.findZ by S.findZ_eq
name_quick tw8727135674562949291 for S.findZ by S.findZ_eq
name_quick tw8753696776887207221 for S.findZ by S.findZ_eq
name_quick tw8860024209350480642 for S.findZ by S.findZ_eq
name_quick tw900395245841561262 for S.findZ by S.findZ_eq
name_quick tw9011979029575296479 for S.findZ by S.findZ_eq
name_quick tw9136488742655976645 for S.findZ by S.findZ_eq
name_quick tw9151444980202551346 for S.findZ by S.findZ_eq
name_quick tw9285146279643344392 for S.findZ by S.findZ_eq
name_quick tw9315938663221665524 for S.findZ by S.findZ_eq
name_quick tw932993149863042379 for S.findZ by S.findZ_eq
name_quick tw9339011207650244144 for S.findZ by S.findZ_eq
name_quick tw9407582987413476825 for S.findZ by S.findZ_eq
name_quick tw9458956999447867950 for S.findZ by S.findZ_eq
name_quick tw9467589175468403638 for S.findZ by S.findZ_eq
name_quick tw951843321253372498 for S.findZ by S.findZ_eq
name_quick tw9529234661008812162 for S.findZ by S.findZ_eq
name_quick tw9594665118957945026 for S.findZ by S.findZ_eq
name_quick tw9738065408704973209 for S.findZ by S.findZ_eq
name_quick tw9759809726879904816 for S.findZ by S.findZ_eq
name_quick tw9763268239775435451 for S.findZ by S.findZ_eq
name_quick tw9800571698397750058 for S.findZ by S.findZ_eq
name_quick tw9908251947323293946 for S.findZ by S.findZ_eq
name_quick tw9931943479562821362 for S.findZ by S.findZ_eq
name_quick tw9948023125614773506 for S.findZ by S.findZ_eq
name_quick tw9979284746773624096 for S.findZ by S.findZ_eq
namespace Mine
open_top hd for PySem.Challenge.rw_qd0141_01
theorem fillit (w : World) : (PySem.Challenge.rw_qd0141_01, hd.heap_39 w.params) = (PySem.Challenge.rw_qd0141_01, hd.heap_39 w.params) := by
  w_top off
  k_fill
  rfl
def notStar : PySem.Expr → Bool
  | .Starred _ _ => false
  | _ => true
theorem starEach_plain {e : PySem.Expr} {rest : List PySem.Expr} {env : Env} (h : notStar e = true) : starEach (e :: rest) env = (false, eval e env) :: starEach rest env := by
  cases e <;> first | rfl | cases h
theorem plain_any {rest : List PySem.Expr} {env : Env} {pos : Pos} (h : rest.all notStar = true) : (backTo pos (starEach rest env)).any (·.1) = false := by
  induction rest with
  | nil => rfl
  | cons e r ih =>
    rw [List.all_cons, Bool.and_eq_true] at h
    rw [starEach_plain h.1]
    exact ih h.2
def nmIs (cs : Scope) (x : Str) (k : NameKind) : Bool := match cs.kind, x == ("__debug__" : Str) with
  | .function, false => cs.names.lookup x == some k
  | _, _ => false
theorem nm_is {cs : Scope} {x : Str} {k : NameKind} (h : nmIs cs x k = true) : cs.kind = .function ∧ cs.names.lookup x = some k ∧ (x == ("__debug__" : Str)) = false := by
  unfold nmIs at h
  split at h
  · exact ⟨by assumption, by simpa using h, by assumption⟩
  · cases h
def kI (P P2 : Shared → Prop) : Bool → Shared → Prop := fun c s => if c then P s else P2 s
theorem ki_t {P P2 : Shared → Prop} {s : Shared} (h : P s) : kI P P2 true s := h
theorem ki_f {P P2 : Shared → Prop} {s : Shared} (h : P2 s) : kI P P2 false s := h
theorem ki_tt {P P2 : Shared → Prop} {c : Bool} {s : Shared} (e : c = true) (h : P s) : kI P P2 c s := by rw [e]; exact h
theorem ki_ff {P P2 : Shared → Prop} {c : Bool} {s : Shared} (e : c = false) (h : P2 s) : kI P P2 c s := by rw [e]; exact h
theorem ki_go {P P2 : Shared → Prop} {c : Bool} {s : Shared} (h : if c then P s else P2 s) : kI P P2 c s := h
section
variable (M : Model) (A : Around) (E : Value → Shared → Prop) (env : Env)
@[reducible] def kS (rest : List Stmt) (Q : Flow → Shared → Prop) : Flow → Shared → Prop := fun f s => match f with | .next => wpAny M A (execs rest env) Q E s | f => Q f s
@[reducible] def kT (Q : Bool → Shared → Prop) : Value → Shared → Prop := fun v s => wpAny M A (truthy v) Q E s
@[reducible] def kC (op : CmpOp) (a : Value) (Q : Value → Shared → Prop) : Value → Shared → Prop := fun b s => wpAny M A (compareOp op a b) Q E s
@[reducible] def kCl (op : CmpOp) (r : PySem.Expr) (Q : Value → Shared → Prop) : Value → Shared → Prop := fun a s => wpAny M A (eval r env) (kC M A E op a Q) E s
@[reducible] def kB (op : Operator) (a : Value) (Q : Value → Shared → Prop) : Value → Shared → Prop := fun b s => wpAny M A (binaryOp op a b) Q E s
@[reducible] def kBl (op : Operator) (r : PySem.Expr) (Q : Value → Shared → Prop) : Value → Shared → Prop := fun a s => wpAny M A (eval r env) (kB M A E op a Q) E s
@[reducible] def kUn (op : UnaryOp) (Q : Value → Shared → Prop) : Value → Shared → Prop := fun v s => wpAny M A (unaryOp op v) Q E s
def kSl (value slice : PySem.Expr) (o : Value) (Q : Value → Shared → Prop) : Value → Shared → Prop := fun i s => wpAny M A (subscriptTail value slice o i) Q E s
@[reducible] def kSu (value slice : PySem.Expr) (Q : Value → Shared → Prop) : Value → Shared → Prop := fun o s => wpAny M A (eval slice env) (kSl M A E value slice o Q) E s
@[reducible] def kGa (attr : Str) (Q : Value → Shared → Prop) : Value → Shared → Prop := fun o s => wpAny M A (getAttr o attr true) Q E s
@[reducible] def kAc (v : Value) (Q : List Value → Shared → Prop) : List Value → Shared → Prop := fun vs s => Q (v :: vs) s
@[reducible] def kAl (rest : List PySem.Expr) (pos : Pos) (Q : List Value → Shared → Prop) : Value → Shared → Prop := fun v s => wpAny M A (spliced (backTo pos (starEach rest env))) (kAc v Q) E s
@[reducible] def kCa (pos : Pos) (args : List PySem.Expr) (Q : Value → Shared → Prop) : Value → Shared → Prop := fun f s => wpAny M A (callWith pos f [] (backTo pos (starEach args env)) []) Q E s
@[reducible] def kW (K : Frag) (f : Value) (first : List Value) (Q : Value → Shared → Prop) : List Value → Shared → Prop := fun vs s => K.In s.heap ∧ wpAny M A (call f (first ++ vs)) Q E s
@[reducible] def kCb (f : Value) (Q : Value → Shared → Prop) : List Value → Shared → Prop := fun vs s => wpAny M A (call f vs) Q E s
@[reducible] def kMc (pos : Pos) (args : List PySem.Expr) (Q : Value → Shared → Prop) : Value × List Value → Shared → Prop := fun fx s => wpAny M A (callWith pos fx.1 fx.2 (backTo pos (starEach args env)) []) Q E s
@[reducible] def kMe (name : Str) (pl : Sem Bool) (pos : Pos) (args : List PySem.Expr) (Q : Value → Shared → Prop) : Value → Shared → Prop := fun ov s => wpAny M A (getMethod ov name pl) (kMc M A E env pos args Q) E s
def kTu (Q : Value → Shared → Prop) : List Value → Shared → Prop := fun vs s => wpAny M A (newTuple vs) Q E s
def kLi (Q : Value → Shared → Prop) : List Value → Shared → Prop := fun vs s => wpAny M A (newList vs) Q E s
@[reducible] def kFb (body : List Stmt) (R : Flow → Shared → Prop) : Unit → Shared → Prop := fun z9 s => wpAny M A (execs body env) R E s
@[reducible] def kNx (Q : Flow → Shared → Prop) : Unit → Shared → Prop := fun z9 => Q .next
@[reducible] def kSt (x : Str) (Q : Flow → Shared → Prop) : Value → Shared → Prop := fun v s => wpAny M A (storeName env x v) (kNx Q) E s
@[reducible] def kRe (Q : Flow → Shared → Prop) : Value → Shared → Prop := fun v => Q (.ret v)
@[reducible] def kNo (Q : Value → Shared → Prop) : Bool → Shared → Prop := fun c s => Q (.bool (!c)) s
@[reducible] def kBA (e : PySem.Expr) (rest : List PySem.Expr) (pos : Pos) (Q : Value → Shared → Prop) : Value → Shared → Prop := fun v s => wpAny M A (truthy v) (kI (wpAny M A (eval (.BoolOp .And (e :: rest) pos) env) Q E) (Q v)) E s
@[reducible] def kBO (e : PySem.Expr) (rest : List PySem.Expr) (pos : Pos) (Q : Value → Shared → Prop) : Value → Shared → Prop := fun v s => wpAny M A (truthy v) (kI (Q v) (wpAny M A (eval (.BoolOp .Or (e :: rest) pos) env) Q E)) E s
@[reducible] def kAs (ts : List (Value → Sem Unit)) (xs : List Value) (Q : Unit → Shared → Prop) : Unit → Shared → Prop := fun z9 s => wpAny M A (assignInOrder ts xs) Q E s
end
section
variable {M : Model} {A : Around} {E : Value → Shared → Prop} {env : Env} {s : Shared}
theorem kone {st : Stmt} {Q : Flow → Shared → Prop} (h : wpAny M A (exec st env) Q E s) : wpAny M A (execs [st] env) Q E s :=
  wpAny_execs_cons (wpAny_mono h (fun fl z9 x => by cases fl <;> first | exact x | exact wpAny_execs_nil x) fun z9 z9 x => x)
theorem kcons {st : Stmt} {rest : List Stmt} {Q : Flow → Shared → Prop} (h : wpAny M A (exec st env) (kS M A E env rest Q) E s) : wpAny M A (execs (st :: rest) env) Q E s := wpAny_execs_cons h
theorem kif {test body orelse pos} {Q : Flow → Shared → Prop} (h : wpAny M A (isTrue test env (eval test env)) (kI (wpAny M A (execs body env) Q E) (wpAny M A (execs orelse env) Q E)) E s) : wpAny M A (exec (.If test body orelse pos) env) Q E s := wpAny_If h
theorem kix {test body orelse pos} {Q : Value → Shared → Prop} (h : wpAny M A (isTrue test env (eval test env)) (kI (wpAny M A (eval body env) Q E) (wpAny M A (eval orelse env) Q E)) E s) : wpAny M A (eval (.IfExp test body orelse pos) env) Q E s := IfExp_ h
theorem kan {x rest pos whole} {Q : Bool → Shared → Prop} (h : wpAny M A (isTrue x env (eval x env)) (kI (wpAny M A (isTrue (.BoolOp .And rest pos) env whole) Q E) (Q false)) E s) : wpAny M A (isTrue (.BoolOp .And (x :: rest) pos) env whole) Q E s := isTrue_and h
theorem kor {x rest pos whole} {Q : Bool → Shared → Prop} (h : wpAny M A (isTrue x env (eval x env)) (kI (Q true) (wpAny M A (isTrue (.BoolOp .Or rest pos) env whole) Q E)) E s) : wpAny M A (isTrue (.BoolOp .Or (x :: rest) pos) env whole) Q E s := isTrue_or h
theorem kand1 {x pos whole} {Q : Bool → Shared → Prop} (h : wpAny M A (isTrue x env (eval x env)) Q E s) : wpAny M A (isTrue (.BoolOp .And [x] pos) env whole) Q E s :=
  isTrue_and (wpAny_mono h (fun c z9 x => by cases c <;> first | exact x | exact isTrue_and_nil x) fun z9 z9 x => x)
theorem kor1 {x pos whole} {Q : Bool → Shared → Prop} (h : wpAny M A (isTrue x env (eval x env)) Q E s) : wpAny M A (isTrue (.BoolOp .Or [x] pos) env whole) Q E s :=
  isTrue_or (wpAny_mono h (fun c z9 x => by cases c <;> first | exact x | exact isTrue_or_nil x) fun z9 z9 x => x)
theorem ktest {l op r pos whole} {Q : Bool → Shared → Prop} (h : wpAny M A (eval l env) (kCl M A E env op r (kT M A E Q)) E s) (hm : behindInMarks op r = false := by with_unfolding_all exact Eq.refl false) :
    wpAny M A (isTrue (.Compare l [op] [r] pos) env whole) Q E s := wpAny_isTrue_Compare1 h hm
theorem kcmp {l op r pos} {Q : Value → Shared → Prop} (h : wpAny M A (eval l env) (kCl M A E env op r Q) E s) (hm : behindInMarks op r = false := by with_unfolding_all exact Eq.refl false) :
    wpAny M A (eval (.Compare l [op] [r] pos) env) Q E s := wpAny_Compare1 h hm
theorem kplain {e : PySem.Expr} {whole : Sem Value} {Q : Bool → Shared → Prop} (h : wpAny M A whole (kT M A E Q) E s)
    (he : isTrue e env whole = (do let v ← whole; standAt e.pos; holding [v] (truthy v)) := by rfl) : wpAny M A (isTrue e env whole) Q E s := isTrue_plain h he
theorem kbin {l op r pos} {Q : Value → Shared → Prop} (h : wpAny M A (eval l env) (kBl M A E env op r Q) E s) : wpAny M A (eval (.BinOp l op r pos) env) Q E s := wpAny_BinOp h
theorem kun {op x pos} {Q : Value → Shared → Prop} (h : wpAny M A (eval x env) (kUn M A E op Q) E s) : wpAny M A (eval (.UnaryOp op x pos) env) Q E s := UnaryOp_ h
theorem knot {v : Value} {Q : Value → Shared → Prop} (h : wpAny M A (truthy v) (kNo Q) E s) : wpAny M A (unaryOp .Not v) Q E s := not_of h
theorem ksub {value slice pos} {Q : Value → Shared → Prop} (h : wpAny M A (eval value env) (kSu M A E env value slice Q) E s) : wpAny M A (eval (.Subscript value slice pos) env) Q E s := Subscript_ h
theorem ksl {value slice o i} {Q : Value → Shared → Prop} (h : wpAny M A (subscriptTail value slice o i) Q E s) : kSl M A E value slice o Q i s := h
theorem ktu {vs} {Q : Value → Shared → Prop} (h : wpAny M A (newTuple vs) Q E s) : kTu M A E Q vs s := h
theorem kli {vs} {Q : Value → Shared → Prop} (h : wpAny M A (newList vs) Q E s) : kLi M A E Q vs s := h
theorem kattr {x attr : Str} {xp pos : Pos} {Q : Value → Shared → Prop} (h : wpAny M A (eval (.Name x xp) env) (kGa M A E attr Q) E s)
    (he : eval (.Attribute (.Name x xp) attr pos) env = (do
      let o ← eval (.Name x xp) env
      standAt pos.atName
      let r ← holding [o] (getAttr o attr true)
      letTemporaryGo (.Name x xp) o r
      pure r) := by with_unfolding_all rfl) : wpAny M A (eval (.Attribute (.Name x xp) attr pos) env) Q E s := Attribute_Name_ h he
theorem kargs {e : PySem.Expr} {rest : List PySem.Expr} {pos : Pos} {Q : List Value → Shared → Prop} (h : wpAny M A (eval e env) (kAl M A E env rest pos Q) E s)
    (hs : notStar e = true := by with_unfolding_all exact Eq.refl true) : wpAny M A (spliced (backTo pos (starEach (e :: rest) env))) Q E s := args_cons h (starEach_plain hs)
theorem kargs1 {e : PySem.Expr} {pos : Pos} {Q : List Value → Shared → Prop} (h : wpAny M A (eval e env) (fun v => Q [v]) E s)
    (he : starEach [e] env = (false, eval e env) :: starEach [] env := by rfl) : wpAny M A (spliced (backTo pos (starEach [e] env))) Q E s := args_cons (wpAny_mono h (fun z9 z9 x => args_nil x) fun z9 z9 x => x) he
theorem kcall {func : PySem.Expr} {args : List PySem.Expr} {pos : Pos} {Q : Value → Shared → Prop} (h : wpAny M A (eval func env) (kCa M A E env pos args Q) E s)
    (he : eval (.Call func args [] pos) env = (do callWith pos (← eval func env) [] (backTo pos (starEach args env)) (backToKw pos (keywordEach [] env))) := by rfl) :
    wpAny M A (eval (.Call func args [] pos) env) Q E s := Call_ h he
theorem kmeth {o : PySem.Expr} {name : Str} {apos pos : Pos} {args : List PySem.Expr} {pl : Sem Bool} {Q : Value → Shared → Prop}
    (h : wpAny M A (eval o env) (kMe M A E env name pl pos args Q) E s)
    (he : eval (.Call (.Attribute o name apos) args [] pos) env = (do
      let ov ← eval o env
      standAt apos.atName
      let (f, first) ← holding [ov] (getMethod ov name pl)
      callWith pos f first (backTo pos (starEach args env)) []) := by rfl) :
    wpAny M A (eval (.Call (.Attribute o name apos) args [] pos) env) Q E s := MethodCall_ h he
theorem ktup {elts : List PySem.Expr} {k : Nat} {pos : Pos} {Q : Value → Shared → Prop} (h : wpAny M A (spliced (backTo pos (starEach elts env))) (kTu M A E Q) E s) : wpAny M A (eval (.Tuple elts k pos) env) Q E s := Tuple_ h
theorem klst {elts : List PySem.Expr} {pos : Pos} {Q : Value → Shared → Prop} (h : wpAny M A (spliced (backTo pos (starEach elts env))) (kLi M A E Q) E s) : wpAny M A (eval (.List elts pos) env) Q E s := List_ h
theorem kset {x pos' value pos} {Q : Flow → Shared → Prop} (h : wpAny M A (eval value env) (kSt M A E env x Q) E s) (hs : swapsWith value (some (.Name x pos')) pos.line env = pure false := by exact Eq.refl (pure false : Sem Bool)) :
    wpAny M A (exec (.Assign [.Name x pos'] value pos) env) Q E s := wpAny_Assign_Name h hs
theorem kret {e pos} {Q : Flow → Shared → Prop} (h : wpAny M A (eval e env) (kRe Q) E s) : wpAny M A (exec (.Return (some e) pos) env) Q E s := wpAny_Return_some h
theorem kband {e₁ e₂ rest pos} {Q : Value → Shared → Prop} (h : wpAny M A (eval e₁ env) (kBA M A E env e₂ rest pos Q) E s) : wpAny M A (eval (.BoolOp .And (e₁ :: e₂ :: rest) pos) env) Q E s := BoolOp_and h
theorem kbor {e₁ e₂ rest pos} {Q : Value → Shared → Prop} (h : wpAny M A (eval e₁ env) (kBO M A E env e₂ rest pos Q) E s) : wpAny M A (eval (.BoolOp .Or (e₁ :: e₂ :: rest) pos) env) Q E s := BoolOp_or h
theorem kwith {K : Frag} {h₀ : Heap} {f : Value} {first : List Value} {pos : Pos} {e : PySem.Expr} {rest : List PySem.Expr} {w : World} {prog : Program} {Q : Value → Shared → Prop} (X : K.In h₀) (hk : keepIn K f = true)
    (h : wpAny (model prog w) A (spliced (backTo pos (starEach (e :: rest) env))) (kW (model prog w) A E K f first Q) E s)
    (hs : (e :: rest).all notStar = true := by with_unfolding_all exact Eq.refl true) :
    wpAny (model prog w) A (callWith pos f first (backTo pos (starEach (e :: rest) env)) []) Q E s := by
  rw [List.all_cons, Bool.and_eq_true] at hs
  exact callWith_K X hk h (starEach_plain hs.1) (plain_any hs.2)
theorem kw0 {K : Frag} {f : Value} {vs : List Value} {Q : Value → Shared → Prop} (X : K.In s.heap) (h : wpAny M A (call f vs) Q E s) : kW M A E K f [] Q vs s := ⟨X, h⟩
theorem kcb1 {pos : Pos} {id : String} {e : PySem.Expr} {rest : List PySem.Expr} {Q : Value → Shared → Prop}
    (h : wpAny M A (spliced (backTo pos (starEach (e :: rest) env))) (kCb M A E (.builtin id) Q) E s)
    (hs : (e :: rest).all notStar = true := by with_unfolding_all exact Eq.refl true) :
    wpAny M A (callWith pos (.builtin id) [] (backTo pos (starEach (e :: rest) env)) []) Q E s := by
  rw [List.all_cons, Bool.and_eq_true] at hs
  exact PyProof.Rows.callWith_builtin1 h (starEach_plain hs.1) (plain_any hs.2)
theorem kassign {t : Value → Sem Unit} {ts : List (Value → Sem Unit)} {x : Value} {xs : List Value} {Q : Unit → Shared → Prop}
    (h : wpAny M A (t x) (kAs M A E ts xs Q) E s) : wpAny M A (assignInOrder (t :: ts) (x :: xs)) Q E s := assignInOrder_cons h
end
section
@[reducible] def setN (m : Str → Option Value) (x : Str) (v : Value) : Str → Option Value := fun y => if y = x then some v else m y
theorem kstore {M : Model} {A : Around} {E : Value → Shared → Prop} {s : Shared} {hp : Heap} {tk : Nat} {h₀ : Heap} {L a : Addr} {m : Str → Option Value} {cn : Str} {cs : Scope} {ccd : Value} {cl : List (Str × Addr)}
    {x : Str} {v : Value} {Q : Unit → Shared → Prop} {news : List (Addr × Obj)} (F : Fr h₀ L hp m) (N : News h₀ L hp news)
    (h : ∀ h', Fr h₀ L h' (setN m x v) → News h₀ L h' news → Q () { s with heap := h', toks := tk + 1 })
    (hk : cs.kind = .function := by rfl) (hx : (envX cn cs L a ccd cl).kindOf x = some .local := by rfl) : wpAny M A (storeName (envX cn cs L a ccd cl) x v) Q E { s with heap := hp, toks := tk } := storeX_L F N h hk hx
theorem ktuple {M : Model} {A : Around} {E : Value → Shared → Prop} {s : Shared} {hp : Heap} {tk : Nat} {h₀ : Heap} {L : Addr} {m : Str → Option Value} {vs : List Value} {Q : Value → Shared → Prop} {news : List (Addr × Obj)} (F : Fr h₀ L hp m) (N : News h₀ L hp news)
    (h : ∀ D h', Fr h₀ L h' m → News h₀ L h' ((D, ({ cls := .type "tuple", data := .seq vs.toArray } : Obj)) :: news) → (∀ p ∈ news, p.1 < D) → Q (.ref D) { s with heap := h', toks := tk }) (hz : vs.length ≤ sizeLine) :
    wpAny M A (newTuple vs) Q E { s with heap := hp, toks := tk } := kup_newTuple (s := { s with heap := hp, toks := tk }) F N h hz
theorem klist {M : Model} {A : Around} {E : Value → Shared → Prop} {s : Shared} {hp : Heap} {tk : Nat} {h₀ : Heap} {L : Addr} {m : Str → Option Value} {vs : List Value} {Q : Value → Shared → Prop} {news : List (Addr × Obj)} (F : Fr h₀ L hp m) (N : News h₀ L hp news)
    (h : ∀ l h', Fr h₀ L h' m → News h₀ L h' ((l, W.listOf vs.toArray 0) :: news) → (∀ p ∈ news, p.1 < l) → Q (.ref l) { s with heap := h', toks := tk }) (hz : vs.length ≤ sizeLine := by size_fits) :
    wpAny M A (newList vs) Q E { s with heap := hp, toks := tk } := newList_K (s := { s with heap := hp, toks := tk }) F N h hz
theorem kappend {w : World} {prog : Program} {A : Around} {E : Value → Shared → Prop} {s : Shared} {hp : Heap} {tk : Nat} {h₀ : Heap} {L D : Addr} {m : Str → Option Value} {its : Array Value} {n : Nat} {x : Value} {Q : Value → Shared → Prop} {news news' : List (Addr × Obj)} (F : Fr h₀ L hp m) (N : News h₀ L hp news) (U : Upd D (W.listOf its n) (W.listOf (its.push x) (n + 1)) news news')
    (h : ∀ h', Fr h₀ L h' m → News h₀ L h' news' → Q .none { s with heap := h', toks := tk }) (hsz : its.size ≤ sizeLine := by size_fits) :
    wpAny (model prog w) A (call (.builtin "list.append") [.ref D, x]) Q E { s with heap := hp, toks := tk } := append_K (s := { s with heap := hp, toks := tk }) F N U h hsz
theorem kaddstr {w : World} {prog : Program} {A : Around} {E : Value → Shared → Prop} {s : Shared} {hp : Heap} {tk : Nat} {x y : Str} {t u : Tok} {Q : Value → Shared → Prop} (h : ∀ t' k, Q (.str (x ++ y) t') { s with heap := hp, toks := k }) (hsz : x.length + y.length ≤ sizeLine) :
    wpAny (model prog w) A (binaryOp .Add (.str x t) (.str y u)) Q E { s with heap := hp, toks := tk } := PyProof.Rows.add_str (s := { s with heap := hp, toks := tk }) h hsz
theorem kint {M : Model} {A : Around} {E : Value → Shared → Prop} {env : Env} {s : Shared} {hp : Heap} {tk : Nat} {i : Int} {k : Nat} {pos : Pos} {Q : Value → Shared → Prop} (h : Q (.int i tk) { s with heap := hp, toks := tk + 1 }) :
    wpAny M A (eval (.Constant (.int i) k pos) env) Q E { s with heap := hp, toks := tk } := fun z9 z9 z9 => h
theorem kstr {M : Model} {A : Around} {E : Value → Shared → Prop} {env : Env} {s : Shared} {hp : Heap} {tk : Nat} {x : Str} {k : Nat} {pos : Pos} {Q : Value → Shared → Prop} (h : Q (.str x tk) { s with heap := hp, toks := tk + 1 }) :
    wpAny M A (eval (.Constant (.str x) k pos) env) Q E { s with heap := hp, toks := tk } := fun z9 z9 z9 => h
theorem knl {M : Model} {A : Around} {E : Value → Shared → Prop} {cn : Str} {cs : Scope} {L a : Addr} {ccd : Value} {cl : List (Str × Addr)} {h₀ : Heap} {m : Str → Option Value} {s : Shared} (F : Fr h₀ L s.heap m) {x : Str} {pos : Pos} {v : Value} {Q : Value → Shared → Prop}
    (hv : m x = some v) (h : Q v s) (he : nmIs cs x .local = true) : wpAny M A (eval (.Name x pos) (envX cn cs L a ccd cl)) Q E s :=
  have e := nm_is he
  nameX_L F hv h e.1 e.2.1 e.2.2
theorem kng {M : Model} {A : Around} {E : Value → Shared → Prop} {cn : Str} {cs : Scope} {L a : Addr} {ccd : Value} {cl : List (Str × Addr)} {K : Frag} {h₀ : Heap} {mg mb : Str → Option Value} {mean : ExcName → Option Value} {p : Program} {loose : List Str} (X : K.In h₀) (T : Top p loose mean mg mb h₀) {m : Str → Option Value} {s : Shared} (F : Fr h₀ L s.heap m) {x : Str} {pos : Pos} {v : Value} {Q : Value → Shared → Prop}
    (e : nsIn K mainGlobals x = some (some v)) (h : Q v s) (he : nmIs cs x .globalImplicit = true) : wpAny M A (eval (.Name x pos) (envX cn cs L a ccd cl)) Q E s :=
  have e' := nm_is he
  nameX_K F X (topRead_of T) e h e'.1 e'.2.1 e'.2.2
end
local macro_rules | `(tactic| k_memK) => `(tactic| with_reducible assumption)
local macro_rules | `(tactic| walk_at "execs cons") => `(tactic| first | with_reducible refine kone ?_ | with_reducible refine kcons ?_)
local macro_rules | `(tactic| walk_at "exec If") => `(tactic| with_reducible refine kif ?_)
local macro_rules | `(tactic| walk_at "eval IfExp") => `(tactic| with_reducible refine kix ?_)
local macro_rules | `(tactic| walk_at "isTrue BoolOp") => `(tactic| first | with_reducible refine kand1 ?_ | with_reducible refine kor1 ?_ | with_reducible refine kan ?_ | with_reducible refine kor ?_)
local macro_rules | `(tactic| walk_at "isTrue Compare") => `(tactic| with_reducible refine ktest ?_)
local macro_rules | `(tactic| walk_at "isTrue") => `(tactic| refine kplain ?_)
local macro_rules | `(tactic| walk_at "eval Compare") => `(tactic| with_reducible refine kcmp ?_)
local macro_rules | `(tactic| walk_at "eval BinOp") => `(tactic| with_reducible refine kbin ?_)
local macro_rules | `(tactic| walk_at "eval UnaryOp") => `(tactic| with_reducible refine kun ?_)
local macro_rules | `(tactic| walk_at "unaryOp Not") => `(tactic| with_reducible refine knot ?_)
local macro_rules | `(tactic| walk_at "eval Subscript") => `(tactic| with_reducible refine ksub ?_)
local macro_rules | `(tactic| walk_at "eval Attribute Name") => `(tactic| with_reducible refine kattr ?_)
local macro_rules | `(tactic| walk_at "spliced") => `(tactic| refine kargs ?_)
local macro_rules | `(tactic| walk_at "eval Call") => `(tactic| refine kcall ?_)
local macro_rules | `(tactic| walk_at "eval Call Attribute") => `(tactic| refine kmeth ?_)
local macro_rules | `(tactic| walk_at "eval Tuple") => `(tactic| with_reducible refine ktup ?_)
local macro_rules | `(tactic| walk_at "eval List") => `(tactic| with_reducible refine klst ?_)
local macro_rules | `(tactic| walk_at "exec Assign") => `(tactic| refine kset ?_)
local macro_rules | `(tactic| walk_at "exec Return some") => `(tactic| with_reducible refine kret ?_)
local macro_rules | `(tactic| walk_at "eval BoolOp") => `(tactic| first | with_reducible refine BoolOp_one ?_ | with_reducible refine kband ?_ | with_reducible refine kbor ?_)
local macro_rules | `(tactic| walk_at "callWith ref") => `(tactic| k_dflt (refine kwith (by k_memK) (by k_is) ?_))
local macro_rules | `(tactic| walk_at "And") => `(tactic| with_reducible refine kw0 (by k_in) ?_)
local macro_rules | `(tactic| walk_at "assignInOrder") => `(tactic| refine kassign ?_)
local macro_rules | `(tactic| walk_at "kSl") => `(tactic| with_reducible refine ksl ?_)
local macro_rules | `(tactic| walk_at "kTu") => `(tactic| with_reducible refine ktu ?_)
local macro_rules | `(tactic| walk_at "kLi") => `(tactic| with_reducible refine kli ?_)
local macro_rules | `(tactic| walk_at "kI") => `(tactic| first | refine ki_t ?_ | refine ki_f ?_ | k_dflt (refine ki_tt (by decide) ?_) | k_dflt (refine ki_ff (by decide) ?_) | refine ki_go ?_)
local macro_rules | `(tactic| walk_at "storeName") => `(tactic| (k_dflt (refine kstore (by k_memK) (by k_memK) ?_); intro h' F' N'; (try k_sweep)))
local macro_rules | `(tactic| walk_at "newTuple") => `(tactic| (k_dflt (refine ktuple (by k_memK) (by k_memK) ?_ (by kmk_size)); intro D' h' F' N' l1; (try k_lt l1); (try k_sweep)))
local macro_rules | `(tactic| walk_at "newList") => `(tactic| (k_dflt (refine klist (by k_memK) (by k_memK) ?_); intro D' h' F' N' l1; (try k_lt l1); (try k_sweep)))
local macro_rules | `(tactic| walk_at "eval Constant int") => `(tactic| refine kint ?_)
local macro_rules | `(tactic| walk_at "eval Constant str") => `(tactic| refine kstr ?_)
local macro_rules | `(tactic| walk_at "eval Name") => `(tactic| k_dflt (first | refine knl (by k_memK) (by rfl) ?_ (Eq.refl true) | refine kng (by k_memK) (by k_memK) (by k_memK) (by k_is) ?_ (Eq.refl true)))
theorem sub_dec {n i : Nat} (h : i < n) : n + 1 - (i + 1) < n + 1 - i := by omega
theorem sub_end {a i : Nat} (h : a - i = 0) (g : i ≤ a) : i = a := Nat.le_antisymm g (Nat.le_of_sub_eq_zero h)
theorem sub_lt {a i k : Nat} (h : a - i = k + 1) : i < a := Nat.lt_of_sub_pos (h ▸ Nat.succ_pos k)
theorem sub_step {a i k : Nat} (h : a - i = k + 1) : a - (i + 1) = k := by rw [Nat.sub_add_eq, h]; rfl
theorem cps {T : Prop} (h : ¬T → False) : T := Classical.byContradiction h
noncomputable abbrev PG : Program := PySem.Challenge.rw_qd0141_01.row.prog
noncomputable abbrev LO : List Str := looseW hd.view_39 [Str.ofString "WORD_ENDS", Str.ofString "RESOLVERS"]
abbrev excObj (dx : Addr) (vs : Array Value) : Obj := ⟨.ref 51, some dx, .fields vs, #[]⟩
structure ExA (base : Heap) (frs : List Env) (e dx : Addr) (od : Obj) (h : Heap) : Prop where
  st : base.StaysIn h
  fr : h.FunFrames base frs
  ne : base.get? e = none
  nd : base.get? dx = none
  df : dx ∉ frs.filterMap (·.frame)
  hd : h.get? dx = some od
  dd : ∀ vs, od.data ≠ .fields vs
inductive ExF (base : Heap) (e dx : Addr) (fl : Value) (h : Heap) : Prop
  | mk (vs : _) (T : _) (oT : _) (ts : _) (h1_ : h.get? e = some (excObj dx vs)) (h2_ : vs[1]? = some (.ref T)) (h3_ : T ≠ e) (h4_ : base.get? T = none) (h5_ : h.get? T = some oT) (h6_ : oT.data = .fields ts) (h7_ : ts[3]? = some fl) : ExF base e dx fl h
inductive ExN (e dx : Addr) (h : Heap) : Prop
  | mk (vs : _) (h1_ : h.get? e = some (excObj dx vs)) (h2_ : vs[1]? = some .none) : ExN e dx h
theorem ExA.tail {base : Heap} {env : Env} {frs : List Env} {e dx : Addr} {od : Obj} {h : Heap} (x : ExA base (env :: frs) e dx od h) : ExA base frs e dx od h :=
  ⟨x.st, x.fr.2.2, x.ne, x.nd, fun hm => x.df (by
    obtain ⟨en, he, hf⟩ := List.mem_filterMap.mp hm
    exact List.mem_filterMap.mpr ⟨en, .tail _ he, hf⟩), x.hd, x.dd⟩
theorem ExA.notFrame {base : Heap} {frs : List Env} {e dx : Addr} {od : Obj} {h : Heap} {vs : Array Value} (x : ExA base frs e dx od h) (he : h.get? e = some (excObj dx vs)) : e ∉ frs.filterMap (·.frame) := fun hm => by
  obtain ⟨_, o, ho, hd⟩ := x.fr.mem hm
  rw [he] at ho; cases ho; exact hd _ rfl
theorem ExA.setRec {base : Heap} {frs : List Env} {e dx : Addr} {od : Obj} {h : Heap} (x : ExA base frs e dx od h) {a : Addr} {oa : Obj} {as : Array Value} (ha : h.get? a = some oa) (hda : oa.data = .fields as) (hb : base.get? a = none) (f : Array Value → Array Value) :
    ExA base frs e dx od (h.update a (Obj.mapFields f)) ∧ h.UpToSlots (h.update a (Obj.mapFields f)) := by
  have keep : ∀ b o, h.get? b = some o → (∀ vs, o.data ≠ .fields vs) → (h.update a (Obj.mapFields f)).get? b = some o := fun b o ho hn => by
    rw [Heap.get?_update_other _ _ (fun q : a = b => by subst q; rw [ha] at ho; cases ho; exact hn _ hda)]; exact ho
  refine ⟨⟨fun b o ho => ?_, x.fr.of_keeps fun b o ho hn => ⟨o, keep b o ho hn, rfl⟩, x.ne, x.nd, x.df, keep _ _ x.hd x.dd, x.dd⟩, fun b o ho hn => ⟨o.slots, keep b o ho hn⟩⟩
  rw [Heap.get?_update_other _ _ (fun q : a = b => by subst q; rw [hb] at ho; cases ho)]; exact x.st b o ho
section
variable {M : Model} {A : Around} {E : Value → Shared → Prop} {s : Shared} {base : Heap} {env : Env} {outer frs : List Env} {L e dx : Addr} {od : Obj} {Q : Unit → Shared → Prop}
theorem exc_entry (hfr : A.frames = some (env :: outer)) (hf : env.frame = some L) (x : ExA base (env :: outer) e dx od s.heap) {vs : Array Value} (he : s.heap.get? e = some (excObj dx vs)) (hsz : 1 < vs.size) {head : Value} {hadNext : Bool}
    (h : ∀ h', ExA base (env :: outer) e dx od h' → ExF base e dx (rawInt L) h' → s.heap.UpToSlots h' → Q () { s with heap := h' }) :
    wpAny M A (do let a ← frameOf env; let pl ← entryPlaceOf L hadNext; let b ← EntryCells.newEntry head a .none (rawInt L) .none pl; setField (.ref e) 1 b) Q E s := by
  refine wpAny_bind (wpAny_frameOf_fun hfr x.fr hf fun h₁ hs => ?_)
  refine wpAny_bind (wpAny_entryPlaceOf fun pl hpl => ?_)
  unfold EntryCells.newEntry newFields
  refine wpAny_bind (wpAny_newObj_type ?_ (hpl.sizeOk5 _ _ _ _ _))
  generalize hT : ({ cls := .type "traceback", dict := none, data := .fields ([head, .ref L, .none, rawInt L, .none] ++ (if pl.isEmpty then List.replicate 6 Value.none else pl)).toArray } : Obj) = oT
  have e₁ : h₁.get? e = some (excObj dx vs) := (hs.2.1 e (x.notFrame he)).trans he
  have x₁ : ExA base (env :: outer) e dx od h₁ := ⟨fun b o hb => (hs.2.1 b fun hm => by rw [(x.fr.mem hm).1] at hb; cases hb).trans (x.st b o hb), x.fr.of_slotsOnly hs, x.ne, x.nd, x.df, (hs.2.1 dx x.df).trans x.hd, x.dd⟩
  have push : ∀ b o, h₁.get? b = some o → (h₁.push oT).get? b = some o := fun b o hb => Heap.get?_push_of_some _ hb
  have x₂ : ExA base (env :: outer) e dx od (h₁.push oT) := ⟨fun b o hb => push b o (x₁.st b o hb), x₁.fr.of_keeps fun b o hb z9 => ⟨o, push b o hb, rfl⟩, x.ne, x.nd, x.df, push _ _ x₁.hd, x.dd⟩
  have e₂ := push _ _ e₁
  have hTe : h₁.objs.size ≠ e := Nat.ne_of_gt (Heap.lt_size e₁)
  have hTd : oT.data = .fields ([head, .ref L, .none, rawInt L, .none] ++ (if pl.isEmpty then List.replicate 6 Value.none else pl)).toArray := by rw [← hT]
  have hTf : oT.isFreed = false := by rw [← hT]; rfl
  refine wpAny_setField e₂ rfl hsz ?_
  obtain ⟨x₃, u₃⟩ := x₂.setRec e₂ rfl x.ne (·.setIfInBounds 1 (Value.ref h₁.objs.size))
  refine h _ x₃ ⟨_, h₁.objs.size, oT, _, Heap.get?_update_self _ e₂ rfl, by simp [hsz], hTe, Heap.StaysIn.fresh x₁.st, ?_, hTd, ?_⟩ ?_
  · rw [Heap.get?_update_other _ _ (Ne.symm hTe)]; exact Heap.get?_push_size _ hTf
  · first | (simp; done) | (rcases hpl with rfl | ⟨_, _, _, _, _, _, _, rfl⟩ <;> simp)
  · exact Heap.UpToSlots.trans (fun b o ho z9 => hs.2.2 b o ho) (Heap.UpToSlots.trans (Heap.UpToSlots.of_keeps push) u₃)
theorem exc_setFlight (x : ExA base frs e dx od s.heap) {fl : Value} (y : ExF base e dx fl s.heap) (g : Option Addr)
    (h : ∀ h', ExA base frs e dx od h' → ExF base e dx (g.elim .none fun f => rawInt f) h' → s.heap.UpToSlots h' → Q () { s with heap := h' }) : wpAny M A (setFlight (.ref e) g) Q E s := by
  obtain ⟨vs, T, oT, ts, he, h1, hTe, hTn, hT, hTd, h3⟩ := y
  have hsz : 3 < ts.size := (Array.getElem?_eq_some_iff.mp h3).1
  unfold setFlight
  refine wpAny_bind (wpAny_field he rfl h1 ?_)
  rw [if_pos (show (Value.ref T != Value.none) = true from by simp)]
  refine wpAny_setField hT hTd hsz ?_
  obtain ⟨x', u'⟩ := x.setRec hT hTd hTn (·.setIfInBounds 3 (g.elim .none fun f => rawInt f))
  refine h _ x' ⟨vs, T, _, _, ?_, h1, hTe, hTn, Heap.get?_update_self _ hT (Obj.isFreed_of_fields (Obj.data_mapFields hTd _)), Obj.data_mapFields hTd _, by simp [hsz]⟩ u'
  rw [Heap.get?_update_other _ _ hTe]; exact he
theorem exc_note_new (hfr : A.frames = some (env :: outer)) (hf : env.frame = some L) (x : ExA base (env :: outer) e dx od s.heap) (y : ExN e dx s.heap)
    (h : ∀ h', ExA base (env :: outer) e dx od h' → ExF base e dx (rawInt L) h' → s.heap.UpToSlots h' → Q () { s with heap := h' }) : wpAny M A (noteFrame (.ref e) env) Q E s := by
  obtain ⟨vs, he, h1⟩ := y
  unfold noteFrame
  simp only [hf]
  refine wpAny_bind (wpAny_field he rfl h1 ?_)
  rw [if_neg (by decide)]
  exact exc_entry hfr hf x he (Array.getElem?_eq_some_iff.mp h1).1 h
theorem exc_note_flown (hfr : A.frames = some (env :: outer)) (hf : env.frame = some L) (x : ExA base (env :: outer) e dx od s.heap) (y : ExF base e dx .none s.heap)
    (h : ∀ h', ExA base (env :: outer) e dx od h' → ExF base e dx (rawInt L) h' → s.heap.UpToSlots h' → Q () { s with heap := h' }) : wpAny M A (noteFrame (.ref e) env) Q E s := by
  obtain ⟨vs, T, oT, ts, he, h1, hTe, hTn, hT, hTd, h3⟩ := y
  unfold noteFrame
  simp only [hf]
  refine wpAny_bind (wpAny_field he rfl h1 ?_)
  rw [if_pos (show (Value.ref T != Value.none) = true from by simp)]
  refine wpAny_bind (wpAny_field hT hTd h3 ?_)
  rw [if_neg (show ¬ ((Value.none == rawInt L) = true) from by simp [rawInt])]
  refine wpAny_bind (wpAny_setField hT hTd (Array.getElem?_eq_some_iff.mp h3).1 ?_)
  obtain ⟨x', u'⟩ := x.setRec hT hTd hTn (·.setIfInBounds 3 Value.none)
  refine exc_entry hfr hf x' (vs := vs) ((Heap.get?_update_other _ _ hTe).trans he) (Array.getElem?_eq_some_iff.mp h1).1 fun h' a b c => h h' a b (u'.trans c)
theorem exc_note_held (hf : env.frame = some L) (y : ExF base e dx (rawInt L) s.heap) (h : Q () s) : wpAny M A (noteFrame (.ref e) env) Q E s := by
  obtain ⟨vs, T, oT, ts, he, h1, hTe, hTn, hT, hTd, h3⟩ := y
  unfold noteFrame
  simp only [hf]
  refine wpAny_bind (wpAny_field he rfl h1 ?_)
  rw [if_pos (show (Value.ref T != Value.none) = true from by simp)]
  refine wpAny_bind (wpAny_field hT hTd h3 ?_)
  rw [if_pos (show (rawInt L == rawInt L) = true from by simp)]
  exact wpAny_pure h
theorem exc_note (hfr : A.frames = some (env :: outer)) (hf : env.frame = some L) (x : ExA base (env :: outer) e dx od s.heap) (y : ExN e dx s.heap ∨ ExF base e dx .none s.heap ∨ ExF base e dx (rawInt L) s.heap)
    (h : ∀ h', ExA base (env :: outer) e dx od h' → ExF base e dx (rawInt L) h' → s.heap.UpToSlots h' → Q () { s with heap := h' }) : wpAny M A (noteFrame (.ref e) env) Q E s := by
  rcases y with y | y | y
  · exact exc_note_new hfr hf x y h
  · exact exc_note_flown hfr hf x y h
  · exact exc_note_held hf y (h _ x y (.refl _))
theorem exc_leave (hfr : A.frames = some (env :: outer)) (hf : env.frame = some L) (x : ExA base (env :: outer) e dx od s.heap) (y : ExN e dx s.heap ∨ ExF base e dx .none s.heap ∨ ExF base e dx (rawInt L) s.heap)
    (h : ∀ h', ExA base outer e dx od h' → ExF base e dx .none h' → s.heap.UpToSlots h' → Q () { s with heap := h' }) : wpAny M A (leaving env (.ref e)) Q E s := by
  unfold leaving
  exact wpAny_bind (exc_note hfr hf x y fun h₁ x₁ y₁ u₁ => exc_setFlight (s := { s with heap := h₁ }) x₁ y₁ none fun h₂ x₂ y₂ u₂ => h h₂ x₂.tail y₂ (u₁.trans u₂))
end
abbrev Led := List (Addr × Obj)
def Own (G h : Heap) (l : Led) : Prop := ∀ p ∈ l, h.get? p.1 = some p.2 ∧ G.get? p.1 = none
def Apart (a b : Led) : Prop := ∀ p ∈ a, ∀ q ∈ b, p.1 ≠ q.1
theorem Apart.nil {a : Led} : Apart a [] := fun z9 z9 z9 h => nomatch h
theorem Apart.symm {a b : Led} (h : Apart a b) : Apart b a := fun p hp q hq e => h q hq p hp e.symm
theorem Own.mono {G h : Heap} {l l' : Led} (o : Own G h l) (hs : ∀ p ∈ l', p ∈ l) : Own G h l' := fun p hp => o p (hs p hp)
theorem Own.none {G h : Heap} {l : Led} (o : Own G h l) {p : Addr × Obj} (hp : p ∈ l) : G.get? p.1 = none := (o p hp).2
abbrev arn (dp un : Nat) (gd : Option (List Code)) (frs : List Env) : Around := { handled := none, depth := dp, frames := some frs, guards := gd, units := un }
inductive NsO (od : Obj) (mA : Str → Option Value) : Prop
  | mk (es : _) (ep : _) (h1_ : od.data = .dict es ep) (h2_ : StrKeys es) (h3_ : UniqKeys es) (h4_ : ∀ name, nsFind es name = mA name) : NsO od mA
inductive LineOf (od : Obj) (ln : Int) : Prop
  | mk (mA : _) (tk : _) (h1_ : NsO od mA) (h2_ : mA "line" = some (.int ln tk)) : LineOf od ln
inductive Exn (base : Heap) (frs : List Env) (G : Heap) (e : Addr) (ln : Int) (h : Heap) : Prop
  | mk (dx : _) (od : _) (h1_ : ExA base frs e dx od h) (h2_ : ExF base e dx .none h) (h3_ : LineOf od ln) (h4_ : G.get? dx = none) : Exn base frs G e ln h
inductive Thrown (base : Heap) (frs : List Env) (G : Heap) (L e : Addr) (ln : Int) (h : Heap) : Prop
  | mk (dx : _) (od : _) (h1_ : ExA base frs e dx od h) (h2_ : (ExN e dx h ∨ ExF base e dx .none h ∨ ExF base e dx (rawInt L) h)) (h3_ : LineOf od ln) (h4_ : G.get? dx = none) : Thrown base frs G L e ln h
theorem none_of {G G₂ : Heap} (st : G.StaysIn G₂) {b : Addr} (h : G₂.get? b = none) : G.get? b = none := by
  cases q : G.get? b with
  | none => rfl
  | some o => rw [st b o q] at h; cases h
theorem Exn.thrown {base : Heap} {frs : List Env} {G G₂ : Heap} {e : Addr} {ln : Int} {h : Heap} (x : Exn base frs G₂ e ln h) (st : G.StaysIn G₂) (L : Addr) : Thrown base frs G L e ln h :=
  let ⟨dx, od, a, b, c, d⟩ := x; ⟨dx, od, a, .inr (.inl b), c, none_of st d⟩
section
variable (w : World) (mean : ExcName → Option Value) (mg mb : Str → Option Value)
def Triple (G : Heap) (f : Addr) (vs : List Value) (n : Nat) (ch : Led) (Post : Value → Led → Prop) (Ex : Int → Prop) : Prop :=
  ∀ ⦃dp un : Nat⦄ ⦃gd : Option (List Code)⦄ ⦃frs : List Env⦄ ⦃base : Heap⦄ ⦃A₀ : Around⦄ ⦃s : Shared⦄ ⦃Q E : Value → Shared → Prop⦄,
    Below A₀ base frs G → (hd.heap_39 w.params).In G → Top hd.view_39 LO mean mg mb G → dp + n < recursionLimit → un + 8 * n < cLine →
    G.StaysIn s.heap → G.objs.size ≤ s.heap.objs.size → Own G s.heap ch →
    (∀ r ch' h' tk', G.StaysIn h' → Own G h' ch' → Post r ch' → Q r { s with heap := h', toks := tk' }) →
    (∀ e ln h' tk', Exn base frs G e ln h' → G.UpToSlots h' → Ex ln → E (.ref e) { s with heap := h', toks := tk' }) →
    wpAny (model PG w) (arn dp un gd frs) (call (.ref f) vs) Q E s
end
theorem ground {A₀ : Around} {base G : Heap} {outer : List Env} {L : Addr} {m : Str → Option Value} {env : Env} {s : Shared} {ch rest : Led}
    (B : Below A₀ base outer G) (F : Fr G L s.heap m) (N : News G L s.heap (ch ++ rest)) (Ap : Apart ch rest) (hf : env.frame = some L) (hke : env.scope.kind = .function)
    {dp un : Nat} {gd : Option (List Code)} :
    ∃ G₂ : Heap, Below (arn dp un gd (env :: outer)) base (env :: outer) G₂ ∧ G.StaysIn G₂ ∧ (∀ p ∈ rest, G₂.get? p.1 = some p.2) ∧ G₂.StaysIn s.heap ∧ G₂.objs.size ≤ s.heap.objs.size ∧ Own G₂ s.heap ch ∧ Fr G L G₂ m ∧
      ∀ ch' h', G₂.StaysIn h' → Own G₂ h' ch' → Fr G L h' m ∧ News G L h' (ch' ++ rest) ∧ Apart ch' rest := by
  have Nc : News G L s.heap ch := fun p hp => N p (List.mem_append_left _ hp)
  refine cps fun k_ => ?_
  obtain ⟨FG, BG, st, _⟩ := groundX (R := fun z9 z9 => True) (A := arn dp un gd (env :: outer)) B F Nc rfl hf hke
  apply k_
  clear k_
  have hr : ∀ p ∈ rest, (hideAll s.heap (ch.map (·.1))).get? p.1 = some p.2 := fun p hp =>
    hideAll_get _ (N p (List.mem_append_right _ hp)).1 fun hm => by
      refine cps fun k_ => ?_
      obtain ⟨q, hq, e⟩ := List.mem_map.mp hm
      apply k_
      clear k_
      exact Ap q hq p hp e
  refine ⟨_, BG, st, hr, fun b o e => of_hideAll _ e, Nat.le_of_eq (hideAll_size _ _), fun p hp => ⟨(Nc p hp).1, hideAll_none _ (List.mem_map_of_mem hp)⟩, FG, fun ch' h' hs ho => ?_⟩
  refine cps fun k_ => ?_
  obtain ⟨oL, es, ep, hL, hLd, hLk, hLf⟩ := FG.ns
  apply k_
  clear k_
  refine ⟨⟨⟨oL, es, ep, hs _ _ hL, hLd, hLk, hLf⟩, fun b o e => hs b o (st b o e), F.above⟩, fun p hp => ?_, fun p hp q hq e => ?_⟩
  · rcases List.mem_append.mp hp with hp | hp
    · refine ⟨(ho p hp).1, fun e => ?_, ?_⟩
      · have := (ho p hp).2; rw [e, hL] at this; cases this
      · cases q : G.get? p.1 with
        | none => rfl
        | some o => have := (ho p hp).2; rw [st _ _ q] at this; cases this
    · have Np := N p (List.mem_append_right _ hp)
      exact ⟨hs _ _ (hr p hp), Np.2⟩
  · have := (ho p hp).2; rw [e, hr q hq] at this; cases this
section
variable {w : World} {mean : ExcName → Option Value} {mg mb : Str → Option Value}
theorem use0 {G base : Heap} {f : Addr} {vs : List Value} {n : Nat} {ch rest : Led} {Post : Value → Led → Prop} {Ex : Int → Prop}
    {dp un : Nat} {gd : Option (List Code)} {outer : List Env} {env : Env} {A₀ : Around} {s : Shared} {Q E : Value → Shared → Prop} {L : Addr} {m : Str → Option Value}
    (B : Below A₀ base outer G) (F : Fr G L s.heap m) (N : News G L s.heap (ch ++ rest)) (X : (hd.heap_39 w.params).In G) (T : Top hd.view_39 LO mean mg mb G) (Ap : Apart ch rest)
    (hf : env.frame = some L) (hke : env.scope.kind = .function) (hdp : dp + n < recursionLimit) (hun : un + 8 * n < cLine)
    (t : ∀ G₂, G.StaysIn G₂ → (∀ p ∈ rest, G₂.get? p.1 = some p.2) → Triple w mean mg mb G₂ f vs n ch Post Ex)
    (hret : ∀ r ch' h' tk', Fr G L h' m → News G L h' (ch' ++ rest) → Apart ch' rest → Post r ch' → Q r { s with heap := h', toks := tk' })
    (hexc : ∀ e ln h' tk', (∃ G₂, Fr G L G₂ m ∧ Exn base (env :: outer) G₂ e ln h' ∧ G₂.UpToSlots h') → Ex ln → E (.ref e) { s with heap := h', toks := tk' }) :
    wpAny (model PG w) (arn dp un gd (env :: outer)) (call (.ref f) vs) Q E s := by
  refine cps fun k_ => ?_
  obtain ⟨G₂, B₂, st, hr, st₂, sz₂, ow, F₂, back⟩ := ground (dp := dp) (un := un) (gd := gd) B F N Ap hf hke
  apply k_
  clear k_
  refine t G₂ st hr B₂ (X.keeps st) (T.keeps st) hdp hun st₂ sz₂ ow (fun r ch' h' tk' k1 k2 k3 => ?_) fun e ln h' tk' k1 k2 k3 => hexc e ln h' tk' ⟨G₂, F₂, k1, k2⟩ k3
  refine cps fun k_ => ?_
  obtain ⟨a, b, c⟩ := back ch' h' k1 k2
  apply k_
  clear k_
  exact hret r ch' h' tk' a b c k3
theorem use {G base : Heap} {f : Addr} {vs : List Value} {n nN : Nat} {ch rest : Led} {Post : Value → Led → Prop} {Ex : Int → Prop}
    {dp un : Nat} {gd : Option (List Code)} {outer : List Env} {env : Env} {A₀ : Around} {s : Shared} {hp : Heap} {tk : Nat} {Q E : Value → Shared → Prop} {L : Addr} {m : Str → Option Value}
    (B : Below A₀ base outer G) (F : Fr G L hp m) (N : News G L hp (ch ++ rest)) (X : (hd.heap_39 w.params).In G) (T : Top hd.view_39 LO mean mg mb G) (Ap : Apart ch rest)
    (hf : env.frame = some L) (hke : env.scope.kind = .function) (hdp : dp + nN ≤ recursionLimit) (hun : un + 8 * nN ≤ cLine + 3) (hn : n < nN)
    (t : ∀ G₂, G.StaysIn G₂ → (∀ p ∈ rest, G₂.get? p.1 = some p.2) → Triple w mean mg mb G₂ f vs n ch Post Ex)
    (hret : ∀ r ch' h' tk', Fr G L h' m → News G L h' (ch' ++ rest) → Apart ch' rest → Post r ch' → Q r { s with heap := h', toks := tk' })
    (hexc : ∀ e ln h' tk', (∃ G₂, Fr G L G₂ m ∧ Exn base (env :: outer) G₂ e ln h' ∧ G₂.UpToSlots h') → Ex ln → E (.ref e) { s with heap := h', toks := tk' }) :
    wpAny (model PG w) (arn dp un gd (env :: outer)) (call (.ref f) vs) Q E { s with heap := hp, toks := tk } :=
  use0 (s := { s with heap := hp, toks := tk }) B F N X T Ap hf hke (by lia) (by lia) t hret hexc
def No (_ : Int) : Prop := False
theorem useN {G base : Heap} {f : Addr} {vs : List Value} {n nN : Nat} {ch rest : Led} {Post : Value → Led → Prop}
    {dp un : Nat} {gd : Option (List Code)} {outer : List Env} {env : Env} {A₀ : Around} {s : Shared} {hp : Heap} {tk : Nat} {Q E : Value → Shared → Prop} {L : Addr} {m : Str → Option Value}
    (B : Below A₀ base outer G) (F : Fr G L hp m) (N : News G L hp (ch ++ rest)) (X : (hd.heap_39 w.params).In G) (T : Top hd.view_39 LO mean mg mb G) (Ap : Apart ch rest)
    (hf : env.frame = some L) (hke : env.scope.kind = .function) (hdp : dp + nN ≤ recursionLimit) (hun : un + 8 * nN ≤ cLine + 3) (hn : n < nN)
    (t : ∀ G₂, G.StaysIn G₂ → (∀ p ∈ rest, G₂.get? p.1 = some p.2) → Triple w mean mg mb G₂ f vs n ch Post No)
    (hret : ∀ r ch' h' tk', Fr G L h' m → News G L h' (ch' ++ rest) → Apart ch' rest → Post r ch' → Q r { s with heap := h', toks := tk' }) :
    wpAny (model PG w) (arn dp un gd (env :: outer)) (call (.ref f) vs) Q E { s with heap := hp, toks := tk } :=
  use B F N X T Ap hf hke hdp hun hn t hret (fun z9 z9 z9 z9 z9 h => h.elim)
end
def flv (fl : Flow) : Value := match fl with | .ret v => v | _ => .none
def Ret (s : Shared) (G : Heap) (L : Addr) (Post : Value → Led → Prop) (Qb : Flow → Shared → Prop) : Prop :=
  ∀ fl ch' h' tk' m', Fr G L h' m' → News G L h' ch' → Post (flv fl) ch' → Qb fl { s with heap := h', toks := tk' }
def Rai (s : Shared) (base G : Heap) (L : Addr) (frs : List Env) (Ex : Int → Prop) (Eb : Value → Shared → Prop) : Prop :=
  ∀ e ln h' tk', Thrown base frs G L e ln h' → G.UpToSlots h' → Ex ln → Eb (.ref e) { s with heap := h', toks := tk' }
section
variable {w : World} {mean : ExcName → Option Value} {mg mb : Str → Option Value}
theorem enter {G : Heap} {f : Addr} {vs : List Value} {n : Nat} {ch : Led} {Post : Value → Led → Prop} {Ex : Int → Prop}
    {name qual : Str} {params : Arguments} {body : List Stmt} {scope : Scope} {dV kV doc pm cdv ct oc : Value} {an od : Option Addr} {osl : Array (Option Value)} {binds : List (Str × Value)}
    (ho : (hd.heap_39 w.params).lookup f = some ⟨oc, od, .func (fnOf name qual params body scope dV kV doc pm an cdv ct), osl⟩) (hcd : codeIn (hd.heap_39 w.params) cdv qual = true)
    (hbind : bindArgs (fnOf name qual params body scope dV kV doc pm an cdv ct) ⟨vs, []⟩ = pure binds) (hloc : ∀ y ∈ binds, scope.names.lookup y.1 = some .local)
    (h : ∀ (dp un : Nat) (gd : Option (List Code)) (frs : List Env) (base : Heap) (A₀ : Around) (s : Shared) (L : Addr) (h₁ : Heap) (tk₁ : Nat) (Qb : Flow → Shared → Prop) (Eb : Value → Shared → Prop),
      Below A₀ base frs G → (hd.heap_39 w.params).In G → Top hd.view_39 LO mean mg mb G → dp + n ≤ recursionLimit → un + 8 * n ≤ cLine + 3 →
      Fr G L h₁ (fun y => binds.reverse.lookup y) → News G L h₁ ch → (∀ p ∈ ch, p.1 < L) →
      Ret s G L Post Qb → Rai s base G L (envOf qual scope L f cdv :: frs) Ex Eb →
      PassesOwn (model PG w) (arn dp un gd (envOf qual scope L f cdv :: frs)) (envOf qual scope L f cdv) Eb →
      wpAny (model PG w) (arn dp un gd (envOf qual scope L f cdv :: frs)) (execs body (envOf qual scope L f cdv)) Qb Eb { s with heap := h₁, toks := tk₁ })
    (hn : 1 ≤ n)
    (hcell : ∀ x ∈ scope.names, x.2 ≠ .cell) (hco : scope.isCoroutine = false) (hgen : scope.isGenerator = false) (hk : scope.kind = .function) :
    Triple w mean mg mb G f vs n ch Post Ex := by
  intro dp un gd frs base A₀ s Q E B X T hdp hun hst hsz hown hret hexc
  refine wpAny_call ?_
  refine codeAny_call_def (fd := fnOf name qual params body scope dV kV doc pm an cdv ct) (body := body) (binds := binds) (show dp < recursionLimit by lia) (hst _ _ (X _ _ ho)) rfl (T.nolimit.keeps hst) (codeRec_of (X.keeps hst) hcd) rfl (.of_eq hbind) hcell hloc (fun h₁ hns hk₁ => ?_) hco hgen hk
  have hlt : ∀ p ∈ ch, p.1 < s.heap.objs.size := fun p hp => Heap.lt_size (hown p hp).1
  refine h (dp + 1) (un + 3) gd frs base A₀ s s.heap.objs.size h₁ _ _ _ B X T (by lia) (by lia) ⟨hns, fun b o e => hk₁ b o (hst b o e), hsz⟩ (fun p hp => ⟨hk₁ _ _ (hown p hp).1, Nat.ne_of_lt (hlt p hp), (hown p hp).2⟩) hlt ?_ ?_ ?_
  · intro fl ch' h' tk' m' F' N' P
    have P' := hret _ ch' h' tk' F'.keep (fun p hp => ⟨(N' p hp).1, (N' p hp).2.2⟩) P
    cases fl <;> exact P'
  · intro e ln h' tk' x u hex
    refine cps fun k_ => ?_
    obtain ⟨dx, od, a, b, c, d⟩ := x
    apply k_
    clear k_
    exact exc_leave rfl rfl a b fun h₂ a₂ b₂ u₂ => hexc e ln h₂ tk' ⟨dx, od, a₂, b₂, c, d⟩ (u.trans u₂) hex
  · passes_own
theorem enterC {G : Heap} {f : Addr} {vs : List Value} {n : Nat} {ch : Led} {Post : Value → Led → Prop} {Ex : Int → Prop}
    {name qual : Str} {params : Arguments} {body : List Stmt} {scope : Scope} {dV kV doc pm cdv ct oc : Value} {an od : Option Addr} {osl : Array (Option Value)} {binds : List (Str × Value)}
    (ho : (hd.heap_39 w.params).lookup f = some ⟨oc, od, .func (fnOf name qual params body scope dV kV doc pm an cdv ct), osl⟩) (hcd : codeIn (hd.heap_39 w.params) cdv qual = true)
    (hbind : bindArgs (fnOf name qual params body scope dV kV doc pm an cdv ct) ⟨vs, []⟩ = pure binds)
    (hkind : (binds.all fun y => scope.names.lookup y.1 == some .local || scope.names.lookup y.1 == some .cell) = true)
    (hnd : ((cellsFrom 0 scope.names []).map (·.1)).Nodup)
    (h : ∀ (dp un : Nat) (gd : Option (List Code)) (frs : List Env) (base : Heap) (A₀ : Around) (s : Shared) (L : Addr) (h₁ : Heap) (tk₁ : Nat) (cells : Led) (Qb : Flow → Shared → Prop) (Eb : Value → Shared → Prop),
      Below A₀ base frs G → (hd.heap_39 w.params).In G → Top hd.view_39 LO mean mg mb G → dp + n ≤ recursionLimit → un + 8 * n ≤ cLine + 3 →
      Fr G L h₁ (bindL (envOfC qual scope L f cdv).kindOf binds fun z9 => none) → News G L h₁ (ch ++ cells) → (∀ p ∈ ch, p.1 < L) →
      CellsAre (bindC (envOfC qual scope L f cdv).kindOf binds fun z9 => none) (cellsFrom (L + 1) scope.names []) cells → Apart ch cells →
      Ret s G L Post Qb → Rai s base G L (envOfC qual scope L f cdv :: frs) Ex Eb →
      PassesOwn (model PG w) (arn dp un gd (envOfC qual scope L f cdv :: frs)) (envOfC qual scope L f cdv) Eb →
      wpAny (model PG w) (arn dp un gd (envOfC qual scope L f cdv :: frs)) (execs body (envOfC qual scope L f cdv)) Qb Eb { s with heap := h₁, toks := tk₁ })
    (hn : 1 ≤ n)
    (hco : scope.isCoroutine = false) (hgen : scope.isGenerator = false) (hk : scope.kind = .function) :
    Triple w mean mg mb G f vs n ch Post Ex := by
  intro dp un gd frs base A₀ s Q E B X T hdp hun hst hsz hown hret hexc
  refine wpAny_call ?_
  refine codeAny_call_function (fd := fnOf name qual params body scope dV kV doc pm an cdv ct) (show dp < recursionLimit by lia) (hst _ _ (X _ _ ho)) rfl hco hgen rfl (codeRec_of (X.keeps hst) hcd) (BindsTo.of_eq hbind _ _ _ _ ?_)
  refine wpAny_newFunctionEnv_cells hk (kindsX hkind _) fun env' he s' x => ?_
  subst he
  refine ⟨(T.nolimit.keeps hst).keeps x.toInCall.keep, codeAny_func ?_⟩
  refine cps fun k_ => ?_
  obtain ⟨h₁, tk, rfl, _⟩ := x.done
  apply k_
  clear k_
  have hk₁ := x.toInCall.keep
  have hlt : ∀ p ∈ ch, p.1 < s.heap.objs.size := fun p hp => Heap.lt_size (hown p hp).1
  refine cps fun k_ => ?_
  obtain ⟨cells, NC, Y⟩ := Cl.news (h₀ := s.heap) (Nat.le_refl _) fun n c hm => ⟨x.cell n c (lookup_of_mem_nodup (cellsFrom_names scope.names 0 (s.heap.objs.size + 1) [] [] rfl ▸ hnd) hm), x.above n c hm⟩
  apply k_
  clear k_
  refine h (dp + 1) (un + 3) gd frs base A₀ s s.heap.objs.size h₁ tk cells _ _ B X T (by lia) (by lia) ⟨x.toInCall.ns, fun b o e => hk₁ b o (hst b o e), hsz⟩ (fun p hp => ?_) hlt Y (fun p hp q hq e => ?_) ?_ ?_ ?_
  · rcases List.mem_append.mp hp with hp | hp
    · exact ⟨hk₁ _ _ (hown p hp).1, Nat.ne_of_lt (hlt p hp), (hown p hp).2⟩
    · refine ⟨(NC p hp).1, (NC p hp).2.1, ?_⟩
      cases q : G.get? p.1 with
      | none => rfl
      | some o => have := hst _ _ q; rw [(NC p hp).2.2] at this; cases this
  · have := (NC q hq).2.2; rw [← e, (hown p hp).1] at this; cases this
  · intro fl ch' h' tk' m' F' N' P
    have P' := hret _ ch' h' tk' F'.keep (fun p hp => ⟨(N' p hp).1, (N' p hp).2.2⟩) P
    cases fl <;> exact P'
  · intro e ln h' tk' x u hex
    refine cps fun k_ => ?_
    obtain ⟨dx, od, a, b, c, d⟩ := x
    apply k_
    clear k_
    exact exc_leave rfl rfl a b fun h₂ a₂ b₂ u₂ => hexc e ln h₂ tk' ⟨dx, od, a₂, b₂, c, d⟩ (u.trans u₂) hex
  · passes_own
end
abbrev lstX (vs : List Value) (n : Nat) : Obj := { cls := .type "list", data := .seq vs.toArray n }
theorem noteFrame_eq {e : Value} {env env' : Env} (h : env'.frame = env.frame) : noteFrame e env' = noteFrame e env := by
  unfold noteFrame PySem.frameOf
  rw [h]
section
variable {M : Model} {A : Around} {E : Value → Shared → Prop} {s : Shared} {env : Env}
theorem comp_open {e : Expr} {scope : Scope} {pos : Pos} {newAcc first : Sem Value} {g : Comprehension} {gs : List Comprehension} {cl : List (Str × Addr)} {Q : Value → Shared → Prop}
    (hcl : clausesOf e = g :: gs) (hs : ∀ x, foldedSetIterable g.iter env x = pure x) (hclos : closureFor scope env = pure cl)
    (hkind : scope.kind = .function) (hnames : ∀ x ∈ scope.names, x.2 = .local → scope.names.lookup x.1 = some .local)
    (h : wpAny M A first (fun x s₁ => wpAny M A (pyIter x) (fun it s₂ => wpAny M A newAcc (fun acc s₃ =>
      wpAny M A (newFunctionEnv scope env.globals cl [] env.qual none .none (some env)) (fun cenv s₄ =>
        codeAny M A (.compStart e 0 it acc { cenv with scope := relabel scope env }) (fun r s' => ∃ m, s'.heap.Ns cenv.locals m ∧ ∀ h', Heap.SameBut cenv.locals s'.heap h' →
          match r with
          | .ok _ => Q acc { s' with heap := h' }
          | .error x => wpAny M A (PySem.passOn "comprehension.variables-let-go" x { cenv with scope := relabel scope env }) Q E { s' with heap := h' }) s₄) E s₃) E s₂) E s₁) E s) :
    wpAny M A (comprehension e scope env pos newAcc false first) Q E s := by
  unfold comprehension
  rw [hclos, hcl]
  refine wpAny_bind (wpAny_mono h (fun x s₁ h₁ => wpAny_bind (wpAny_standAt (wpAny_bind (wpAny_of_eq (hs x) (wpAny_bind (wpAny_holding (wpAny_mono h₁ (fun it s₂ h₂ => ?_) fun z9 z9 h' => h'))))))) fun z9 z9 h' => h')
  refine wpAny_standIf (wpAny_bind (wpAny_mono h₂ (fun acc s₃ h₃ => wpAny_bind (wpAny_pure (wpAny_bind (wpAny_mono h₃ (fun cenv s₄ h₄ => ?_) fun z9 z9 h' => h')))) fun z9 z9 h' => h'))
  dsimp only
  have hv : ∀ x ∈ (scope.names.filter fun x => (x.2 == .local || x.2 == .cell) && x.1 != (".0" : Str)).reverse, x.2 = .local →
      Env.kindOf { cenv with scope := relabel scope env } x.1 = some .local := fun x hx hl => lookup_relabel_local (hnames x (List.mem_filter.mp (List.mem_reverse.mp hx)).1 hl)
  refine wpAny_holding (wpAny_bind (wpAny_attempt (wpAny_holding (wpAny_run (codeAny_mono h₄ fun r s' hr => ?_)))))
  refine cps fun k_ => ?_
  obtain ⟨m, hn, hr⟩ := hr
  apply k_
  clear k_
  cases r with
  | ok f => exact wpAny_bind (wpAny_holding (wpAny_comp_letGo (cenv := { cenv with scope := relabel scope env }) hkind _ s' m hv hn fun h' m' z9 hs' => wpAny_pure (hr h' hs')))
  | error x => exact wpAny_bind (wpAny_holding (wpAny_comp_letGo (cenv := { cenv with scope := relabel scope env }) hkind _ s' m hv hn fun h' m' z9 hs' => hr h' hs'))
end
section
variable {base G : Heap} {frs : List Env} {L e : Addr} {ln : Int}
inductive Held (base : Heap) (frs : List Env) (G : Heap) (L e : Addr) (ln : Int) (h : Heap) : Prop
  | mk (dx : _) (od : _) (h1_ : ExA base frs e dx od h) (h2_ : ExF base e dx (rawInt L) h) (h3_ : LineOf od ln) (h4_ : G.get? dx = none) : Held base frs G L e ln h
theorem funFrames_same {C : Addr} {h h' : Heap} (hs : Heap.SameBut C h h') : ∀ {l : List Env}, C ∉ l.filterMap (·.frame) → h.FunFrames base l → h'.FunFrames base l
  | [], _, _ => trivial
  | env :: r, hC, ⟨hk, ⟨L, o, hf, hn, ho, hd⟩, hr⟩ => by
    rw [List.filterMap_cons, hf] at hC
    exact ⟨hk, ⟨L, o, hf, hn, (hs.2 L fun q => hC (q ▸ .head _)).trans ho, hd⟩, funFrames_same hs (fun hm => hC (.tail _ hm)) hr⟩
theorem Held.same {C : Addr} {h h' : Heap} {m : Str → Option Value} (x : Held base frs G L e ln h) (hs : Heap.SameBut C h h') (hn : h.Ns C m) (hb : base.get? C = none) (hC : C ∉ frs.filterMap (·.frame)) (hG : ∃ o, G.get? C = some o) : Held base frs G L e ln h' := by
  refine cps fun k_ => ?_
  obtain ⟨dx, od, a, ⟨vs, T, oT, ts, he, h1, hTe, hTn, hT, hTd, h3⟩, c, d⟩ := x
  apply k_
  clear k_
  refine cps fun k_ => ?_
  obtain ⟨oC, es, ep, hoC, hdC, _⟩ := hn
  apply k_
  clear k_
  have ne_of : ∀ b o vs, h.get? b = some o → o.data = .fields vs → b ≠ C := fun b o vs ho hd q => by
    rw [q, hoC] at ho; cases ho; rw [hdC] at hd; cases hd
  have hdx : dx ≠ C := fun q => by obtain ⟨o, ho⟩ := hG; rw [q, ho] at d; cases d
  refine ⟨dx, od, ⟨fun b o ho => (hs.2 b fun q => by rw [q, hb] at ho; cases ho).trans (a.st b o ho), funFrames_same hs hC a.fr, a.ne, a.nd, a.df, (hs.2 dx hdx).trans a.hd, a.dd⟩, ⟨vs, T, oT, ts, (hs.2 e (ne_of _ _ _ he rfl)).trans he, h1, hTe, hTn, (hs.2 T (ne_of _ _ _ hT hTd)).trans hT, hTd, h3⟩, c, d⟩
theorem thrown_note {M : Model} {A : Around} {E : Value → Shared → Prop} {s : Shared} {env cenv : Env} {Q : Unit → Shared → Prop} (hfr : A.frames = some (env :: frs)) (hf : env.frame = some L) (hc : cenv.frame = env.frame) (x : Thrown base (env :: frs) G L e ln s.heap)
    (h : ∀ h', Thrown base (env :: frs) G L e ln h' → s.heap.UpToSlots h' → Held base (env :: frs) G L e ln h' → Q () { s with heap := h' }) : wpAny M A (noteFrame (.ref e) cenv) Q E s := by
  rw [noteFrame_eq hc]
  refine cps fun k_ => ?_
  obtain ⟨dx, od, a, b, c, d⟩ := x
  apply k_
  clear k_
  exact exc_note hfr hf a b fun h' a' b' u => h h' ⟨dx, od, a', .inr (.inr b'), c, d⟩ u ⟨dx, od, a', b', c, d⟩
theorem held_passOn {M : Model} {A : Around} {E : Value → Shared → Prop} {s : Shared} {cenv : Env} {what : String} {α : Type} {Q : α → Shared → Prop} (hc : cenv.frame = some L) (x : Held base frs G L e ln s.heap)
    (h : ∀ h', Thrown base frs G L e ln h' → s.heap.UpToSlots h' → E (.ref e) { s with heap := h' }) : wpAny M A (PySem.passOn what (.ref e) cenv) Q E s := by
  refine cps fun k_ => ?_
  obtain ⟨dx, od, a, b, c, d⟩ := x
  apply k_
  clear k_
  refine cps fun k_ => ?_
  obtain ⟨vs, T, oT, ts, he, h1, _⟩ := id b
  apply k_
  clear k_
  unfold PySem.passOn
  refine wpAny_bind (wpAny_field he rfl h1 ?_)
  rw [if_neg (show ¬ ((Value.ref T == Value.none) = true) from by simp), hc]
  have fin : wpAny M A (do setFlight (.ref e) (some L); throw (Value.ref e) : Sem α) Q E s :=
    wpAny_bind (exc_setFlight a b (some L) fun h' a' b' u => wpAny_throw (h h' ⟨dx, od, a', .inr (.inr b'), c, d⟩ u))
  first
    | exact fin
    | exact wpAny_bind (wpAny_pure fin)
end
theorem Thrown.mono {base : Heap} {frs : List Env} {G G₂ : Heap} {L e : Addr} {ln : Int} {h : Heap} (x : Thrown base frs G₂ L e ln h) (st : G.StaysIn G₂) : Thrown base frs G L e ln h :=
  let ⟨dx, od, a, b, c, d⟩ := x; ⟨dx, od, a, b, c, none_of st d⟩
section
variable {w : World} {mean : ExcName → Option Value} {mg mb : Str → Option Value}
def tstS (ifs : List PySem.Expr) (env : Env) : Sem Bool := forIn ifs true fun c r => if r = true then do let ok ← isTrue c env (eval c env); pure (ForInStep.yield ok) else pure (ForInStep.yield r)
def CompEnd (G₂ : Heap) (C : Addr) (m₂ : Str → Option Value) (J : Nat → Led → Led → List Value → Prop) (i : Nat) (rs own : Led) (ys : List Value) (s₂ : Shared) (R : Value → Shared → Prop) : Prop :=
  ∀ y s', (∃ ch₂ new h' tk', s' = { s₂ with heap := h', toks := tk' } ∧ Fr G₂ C h' m₂ ∧ News G₂ C h' (ch₂ ++ (new ++ (rs ++ own))) ∧ Apart ch₂ (new ++ (rs ++ own)) ∧ Apart new own ∧ J (i + 1) ch₂ (new ++ rs) (ys ++ [y])) → R y s'
def CompTurn (w : World) (mean : ExcName → Option Value) (mg mb : Str → Option Value) (dp un : Nat) (gd : Option (List Code)) (frs : List Env) (base G : Heap) (env : Env) (scope : Scope) (cl : List (Str × Addr)) (x : Str) (elt : PySem.Expr) (Ex : Int → Prop)
    (n : Nat) (P : Nat → Value → Prop) (rest : Led) (J : Nat → Led → Led → List Value → Prop) (s₂ : Shared) : Prop :=
  ∀ (i : Nat) (v : Value) (G₂ : Heap) (C : Addr) (h : Heap) (tk : Nat) (ch₁ rs : Led) (ys : List Value) (own : Led) (m₂ : Str → Option Value) (E' : Value → Shared → Prop), i < n → P i v → J i ch₁ rs ys →
    G.StaysIn G₂ → (∀ p ∈ rest, G₂.get? p.1 = some p.2) → Below (arn dp un gd (env :: frs)) base (env :: frs) G₂ → (hd.heap_39 w.params).In G₂ → Top hd.view_39 LO mean mg mb G₂ →
    Fr G₂ C h m₂ → m₂ x = some v → News G₂ C h (ch₁ ++ (rs ++ own)) → Apart ch₁ (rs ++ own) →
    (∀ e ln h' tk', (∃ G₃, Fr G₂ C G₃ m₂ ∧ Exn base (env :: frs) G₃ e ln h' ∧ G₃.UpToSlots h') → Ex ln → E' (.ref e) { s₂ with heap := h', toks := tk' }) →
    ∀ R, CompEnd G₂ C m₂ J i rs own ys s₂ R → wpAny (model PG w) (arn dp un gd (env :: frs)) (eval elt (compEnvC scope cl C env)) R E' { s₂ with heap := h, toks := tk }
def CompTurnG (w : World) (mean : ExcName → Option Value) (mg mb : Str → Option Value) (dp un : Nat) (gd : Option (List Code)) (frs : List Env) (base G : Heap) (env : Env) (scope : Scope) (cl : List (Str × Addr)) (x : Str) (elt : PySem.Expr) (ifs : List PySem.Expr) (Ex : Int → Prop)
    (n : Nat) (P : Nat → Value → Prop) (rest : Led) (J : Nat → Led → Led → List Value → Prop) (s₂ : Shared) : Prop :=
  ∀ (i : Nat) (v : Value) (G₂ : Heap) (C : Addr) (h : Heap) (tk : Nat) (ch₁ rs : Led) (ys : List Value) (own : Led) (m₂ : Str → Option Value) (E' : Value → Shared → Prop), i < n → P i v → J i ch₁ rs ys →
    G.StaysIn G₂ → (∀ p ∈ rest, G₂.get? p.1 = some p.2) → Below (arn dp un gd (env :: frs)) base (env :: frs) G₂ → (hd.heap_39 w.params).In G₂ → Top hd.view_39 LO mean mg mb G₂ →
    Fr G₂ C h m₂ → m₂ x = some v → News G₂ C h (ch₁ ++ (rs ++ own)) → Apart ch₁ (rs ++ own) →
    (∀ e ln h' tk', (∃ G₃, Fr G₂ C G₃ m₂ ∧ Exn base (env :: frs) G₃ e ln h' ∧ G₃.UpToSlots h') → Ex ln → E' (.ref e) { s₂ with heap := h', toks := tk' }) →
    wpAny (model PG w) (arn dp un gd (env :: frs)) (tstS ifs (compEnvC scope cl C env))
      (fun b s' => ∃ h' tk', s' = { s₂ with heap := h', toks := tk' } ∧ Fr G₂ C h' m₂ ∧ News G₂ C h' (ch₁ ++ (rs ++ own)) ∧ (b = false → J (i + 1) ch₁ rs ys) ∧
        (b = true → wpAny (model PG w) (arn dp un gd (env :: frs)) (eval elt (compEnvC scope cl C env))
          (fun y s' => ∃ ch₂ new h' tk', s' = { s₂ with heap := h', toks := tk' } ∧ Fr G₂ C h' m₂ ∧ News G₂ C h' (ch₂ ++ (new ++ (rs ++ own))) ∧ Apart ch₂ (new ++ (rs ++ own)) ∧ Apart new own ∧ J (i + 1) ch₂ (new ++ rs) (ys ++ [y]))
          E' { s₂ with heap := h', toks := tk' }))
      E' { s₂ with heap := h, toks := tk }
theorem CompTurn.toG {dp un : Nat} {gd : Option (List Code)} {frs : List Env} {base G : Heap} {env : Env} {scope : Scope} {cl : List (Str × Addr)} {x : Str} {elt : PySem.Expr} {Ex : Int → Prop} {n : Nat} {P : Nat → Value → Prop} {rest : Led} {J : Nat → Led → Led → List Value → Prop} {s₂ : Shared}
    (t : CompTurn w mean mg mb dp un gd frs base G env scope cl x elt Ex n P rest J s₂) : CompTurnG w mean mg mb dp un gd frs base G env scope cl x elt [] Ex n P rest (fun i ch rs ys => J i ch rs ys ∧ ys.length = i) s₂ :=
  fun i v G₂ C h tk ch₁ rs ys own m₂ E' a b c d e f g k l p q r o => wpAny_tests_nil ⟨h, tk, rfl, l, q, (fun x => nomatch x), fun z9 => t i v G₂ C h tk ch₁ rs ys own m₂ E' a b c.1 d e f g k l p q r o _
    fun y s' ⟨ch₂, new, h', tk', e1, e2, e3, e4, e5, e6⟩ => ⟨ch₂, new, h', tk', e1, e2, e3, e4, e5, e6, by rw [List.length_append, c.2]; rfl⟩⟩
inductive CompAtG (w : World) (mean : ExcName → Option Value) (mg mb : Str → Option Value) (dp un : Nat) (gd : Option (List Code)) (frs : List Env) (base G : Heap) (env : Env) (scope : Scope) (cl : List (Str × Addr)) (x : Str) (elt : PySem.Expr) (ifs : List PySem.Expr) (Ex : Int → Prop) (Q : Value → Shared → Prop) (it : Value) (s₂ : Shared) : Prop
  | mk (I : Addr) (fp : List Addr) (n : Nat) (P : Nat → Value → Prop) (St : Nat → Heap → Prop) (m : Str → Option Value) (ch rest : Led) (J : Nat → Led → Led → List Value → Prop) (h1_ : it = .ref I) (h2_ : Walks PG w (arn dp un gd (env :: frs)) I fp [I] n P St) (h3_ : n ≤ 1000) (h4_ : St 0 s₂.heap) (h5_ : (∀ i h, St i h → ∃ o, h.get? I = some o)) (h6_ : Fr G env.locals s₂.heap m) (h7_ : News G env.locals s₂.heap (ch ++ rest)) (h8_ : Apart ch rest) (h9_ : G.get? I = none) (h10_ : I ≠ env.locals) (h11_ : (∀ p ∈ ch ++ rest, p.1 ≠ I)) (h12_ : (∀ b ∈ fp, b = I ∨ ((∃ o, s₂.heap.get? b = some o) ∧ ∀ p ∈ ch, p.1 ≠ b))) (h13_ : J 0 ch [] []) (h14_ : CompTurnG w mean mg mb dp un gd frs base G env scope cl x elt ifs Ex n P rest J s₂) (h15_ : ∀ D ch' rs ys k h' tk', ys.length ≤ n → J n ch' rs ys → Fr G env.locals h' m → News G env.locals h' (ch' ++ ((D, lstX ys k) :: (rs ++ rest))) → Apart ch' ((D, lstX ys k) :: (rs ++ rest)) → Q (.ref D) { s₂ with heap := h', toks := tk' }) : CompAtG w mean mg mb dp un gd frs base G env scope cl x elt ifs Ex Q it s₂
theorem ns_ne {h : Heap} {C : Addr} {m : Str → Option Value} (hn : h.Ns C m) : ∃ o es n, h.get? C = some o ∧ o.data = .dict es n := let ⟨o, es, n, a, b, _⟩ := hn; ⟨o, es, n, a, b⟩
inductive CInv (s : Shared) (St : Nat → Heap → Prop) (n : Nat) (J : Nat → Led → Led → List Value → Prop) (G₂ : Heap) (C I D : Addr) (P : Nat → Nat → Prop) : Nat → Shared → Prop
  | mk (h : Heap) (tk i : Nat) (ch₁ rs : Led) (ys : List Value) (kk : Nat) (m₂ : Str → Option Value) (oi : Obj) (a : St i h) (b : i ≤ n) (c : P ys.length i) (d : J i ch₁ rs ys) (e : Fr G₂ C h m₂)
    (f : News G₂ C h (ch₁ ++ (rs ++ [(I, oi), (D, lstX ys kk)]))) (g : Apart ch₁ (rs ++ [(I, oi), (D, lstX ys kk)])) (k : Apart rs [(I, oi), (D, lstX ys kk)]) : CInv s St n J G₂ C I D P (n + 1 - i) { s with heap := h, toks := tk }
inductive FInv (s : Shared) (St : Nat → Heap → Prop) (n : Nat) (J : Nat → (Str → Option Value) → Led → Prop) (G : Heap) (L I : Addr) (own : Led) : Nat → Shared → Prop
  | mk (h : Heap) (tk i : Nat) (m₁ : Str → Option Value) (led₁ : Led) (a : St i h) (b : i ≤ n) (c : J i m₁ led₁) (d : Fr G L h m₁) (e : News G L h (own ++ led₁)) (f : ∀ p ∈ own ++ led₁, p.1 ≠ I) : FInv s St n J G L I own (n + 1 - i) { s with heap := h, toks := tk }
theorem compKS {base G : Heap} {A₀ : Around} {frs : List Env} {env : Env} {L : Addr} {dp un : Nat} {gd : Option (List Code)} {elt iter : PySem.Expr} {ifs : List PySem.Expr} {x : Str} {px : Pos} {scope : Scope} {cl : List (Str × Addr)} {pos : Pos} {Q E : Value → Shared → Prop} {s : Shared} {Ex : Int → Prop}
    (B : Below A₀ base frs G) (X : (hd.heap_39 w.params).In G) (T : Top hd.view_39 LO mean mg mb G) (hL : env.locals = L) (hf : env.frame = some L) (hke : env.scope.kind = .function)
    (hclos : closureFor scope env = pure cl) (hcell : ∀ y ∈ scope.names, y.2 ≠ .cell) (hkind : scope.kind = .function)
    (hnames : ∀ y ∈ scope.names, y.2 = .local → scope.names.lookup y.1 = some .local) (hx : scope.names.lookup x = some .local)
    (hexc : ∀ e ln h' tk', Thrown base (env :: frs) G L e ln h' → G.UpToSlots h' → Ex ln → E (.ref e) { s with heap := h', toks := tk' })
    (h : wpAny (model PG w) (arn dp un gd (env :: frs)) (eval iter env) (fun xv s₁ => wpAny (model PG w) (arn dp un gd (env :: frs)) (pyIter xv) (fun it s₂ =>
      (∃ h₂ tk₂, s₂ = { s with heap := h₂, toks := tk₂ }) ∧ CompAtG w mean mg mb dp un gd frs base G env scope cl x elt ifs Ex Q it s₂) E s₁) E s)
    (hs : ∀ x, foldedSetIterable iter env x = pure x := by intro _; rfl) :
    wpAny (model PG w) (arn dp un gd (env :: frs)) (eval (.ListComp elt [⟨.Name x px, iter, ifs, 0⟩] scope pos) env) Q E s := by
  subst hL
  rw [eval_ListComp]
  refine comp_open rfl hs hclos hkind hnames (wpAny_mono h (fun xv s₁ h₁ => wpAny_mono h₁ (fun it s₂ h₂ => ?_) fun z9 z9 e => e) fun z9 z9 e => e)
  refine cps fun k_ => ?_
  obtain ⟨⟨H₀, tk₀, rfl⟩, I, fp, n, P, St, m, ch, rest, J, rfl, W, hn, hst, halive, F, N, Ap, hGI, hIL, hIne, hfp, hJ, turn, done⟩ := h₂
  apply k_
  clear k_
  refine wpAny_newObj_type (wpAny_newFunctionEnv hcell (by intro y hy; simp at hy) (fun h₁ hns₁ hsb₁ => ?_) hkind)
  dsimp only at hns₁ hsb₁ ⊢
  generalize hH : H₀.push { cls := .type "list", dict := none, data := .seq ([] : List Value).toArray } = H3 at hns₁ hsb₁ ⊢
  have hC : @Eq Nat H3.objs.size (H₀.objs.size + 1) := by rw [← hH, Heap.size_push]
  generalize hD : H₀.objs.size = D at hC ⊢
  generalize hCe : H3.objs.size = C at hns₁ hsb₁ hC ⊢
  have hlt : ∀ b o, H₀.get? b = some o → @LT.lt Nat _ b D := fun b o e => hD ▸ Heap.lt_size e
  have up3 : ∀ b o, H₀.get? b = some o → H3.get? b = some o := fun b o e => by rw [← hH]; exact Heap.get?_push_of_some _ e
  have hD3 : H3.get? D = some (lstX [] 0) := by rw [← hH, ← hD]; exact Heap.get?_push_size _ rfl
  have hCD : @Ne Nat C D := by lia
  have up1 : ∀ b o, H3.get? b = some o → h₁.get? b = some o := fun b o e => hsb₁.extBut b o (hCe ▸ Nat.ne_of_lt (Heap.lt_size e)) (Heap.get?_push_of_some _ e)
  obtain ⟨oI, hoI⟩ := halive 0 H₀ hst
  have hID : @LT.lt Nat _ I D := hlt I oI hoI
  -- the ground of the turns
  let hid : List Addr := I :: D :: ch.map (·.1)
  have hG2 : ∃ G₂, G₂ = hideAll H3 hid := ⟨_, rfl⟩
  obtain ⟨G₂, hG2⟩ := hG2
  have sz2 : G₂.objs.size = C := by rw [hG2, hideAll_size, hCe]
  have g2of : ∀ b o, G₂.get? b = some o → H3.get? b = some o := fun b o e => of_hideAll _ (hG2 ▸ e)
  have g2mk : ∀ b o, H₀.get? b = some o → b ≠ I → (∀ p ∈ ch, p.1 ≠ b) → G₂.get? b = some o := fun b o e hI hc => by
    rw [hG2]
    refine hideAll_get _ (up3 b o e) fun hm => ?_
    rcases List.mem_cons.mp hm with q | hm
    · exact hI q
    rcases List.mem_cons.mp hm with q | hm
    · exact Nat.lt_irrefl _ (q ▸ hlt b o e)
    refine cps fun k_ => ?_
    obtain ⟨p, hp, q⟩ := List.mem_map.mp hm
    apply k_
    clear k_
    exact hc p hp q
  have g2no : ∀ b, b ∈ hid → G₂.get? b = none := fun b hb => hG2 ▸ hideAll_none _ hb
  have gst : G.StaysIn G₂ := fun b o e => g2mk b o (F.keep b o e) (fun q => by rw [q, hGI] at e; cases e) fun p hp q => by
    have := (N p (List.mem_append_left _ hp)).2.2; rw [q, e] at this; cases this
  have grest : ∀ p ∈ rest, G₂.get? p.1 = some p.2 := fun p hp => g2mk p.1 p.2 (N p (List.mem_append_right _ hp)).1 (hIne p (List.mem_append_right _ hp)) fun q hq e => Ap q hq p hp e
  refine cps fun k_ => ?_
  obtain ⟨oL, esL, epL, hLo, hLd, hLk, hLf⟩ := F.ns
  apply k_
  clear k_
  have gL : G₂.get? env.locals = some oL := g2mk _ _ hLo (Ne.symm hIL) fun p hp q => (N p (List.mem_append_left _ hp)).2.1 q
  have B2 : Below (arn dp un gd (env :: frs)) base (env :: frs) G₂ := by
    refine ⟨rfl, fun b o e => gst b o (B.stays b o e), ?_⟩
    rw [hG2]
    have fr0 := (pushX B F hf hke).frames
    refine funFrames_hideAll (fr0.of_keeps fun b o e z9 => ⟨o, up3 b o e, rfl⟩) fun env' he b hb hf' => ?_
    have hbG : ∃ o, G₂.get? b = some o := by
      rcases List.mem_cons.mp he with q | he
      · subst q; rw [hf] at hf'; cases hf'; exact ⟨_, gL⟩
      · refine cps fun k_ => ?_
        obtain ⟨L₁, o₁, hf₁, ho₁⟩ := funFrames_in B.frames env' he
        apply k_
        clear k_
        rw [hf₁] at hf'; cases hf'; exact ⟨_, gst _ _ ho₁⟩
    obtain ⟨o, ho⟩ := hbG
    rw [g2no b hb] at ho; cases ho
  have X2 := X.keeps gst
  have T2 := T.keeps gst
  -- the invariant
  let cenv : Env := compEnvC scope cl C env
  have hI1 : h₁.get? I = some oI := up1 _ _ (up3 _ _ hoI)
  have F1 : Fr G₂ C h₁ (fun x => ([] : List (Str × Value)).reverse.lookup x) := ⟨hns₁, fun b o e => up1 b o (g2of b o e), Nat.le_of_eq sz2⟩
  have inv0 : CInv s St n J G₂ C I D (· ≤ ·) (n + 1) { s with heap := h₁, toks := tk₀ + ([] : List (Str × Value)).length } := by
    refine .mk h₁ _ 0 ch [] [] 0 _ oI ?_ (Nat.zero_le _) (Nat.le_refl _) hJ F1 ?_ ?_ (fun z9 hp => nomatch hp)
    · exact W.frame _ _ _ hst fun b z9 o e => up1 b o (up3 b o e)
    · intro p hp
      have hb : p.1 ∈ hid ∧ h₁.get? p.1 = some p.2 := by
        rcases List.mem_append.mp hp with hp | hp
        · exact ⟨.tail _ (.tail _ (List.mem_map_of_mem hp)), up1 _ _ (up3 _ _ (N p (List.mem_append_left _ hp)).1)⟩
        · simp only [List.nil_append, List.mem_cons, List.not_mem_nil, or_false] at hp
          rcases hp with rfl | rfl
          · exact ⟨.head _, hI1⟩
          · exact ⟨.tail _ (.head _), up1 _ _ hD3⟩
      refine ⟨hb.2, fun q => ?_, g2no _ hb.1⟩
      rcases List.mem_append.mp hp with hp | hp
      · have z := hlt _ _ (N p (List.mem_append_left _ hp)).1; have q' : @Eq Nat p.1 C := q; lia
      · simp only [List.nil_append, List.mem_cons, List.not_mem_nil, or_false] at hp
        rcases hp with rfl | rfl
        · have q' : @Eq Nat I C := q; lia
        · exact hCD q.symm
    · intro p hp q hq e
      simp only [List.nil_append, List.mem_cons, List.not_mem_nil, or_false] at hq
      rcases hq with rfl | rfl
      · exact hIne p (List.mem_append_left _ hp) e
      · have z := hlt _ _ (N p (List.mem_append_left _ hp)).1; have e' : @Eq Nat p.1 D := e; lia
  have hCI : @Ne Nat C I := by lia
  have fpG : ∀ b ∈ fp, b = I ∨ ∃ o, G₂.get? b = some o := fun b hb => (Classical.em (b = I)).imp id fun hne => by
    rcases hfp b hb with q | ⟨⟨o, ho⟩, hc⟩
    · exact absurd q hne
    · exact ⟨o, g2mk b o ho hne hc⟩
  have hxl : cenv.kindOf x = some .local := lookup_relabel_local hx
  have hpl : (cenv.scope.kind == .class || (cenv.scope.kind == .module && cenv.locals != cenv.globals)) = false := by
    show (scope.kind == .class || (scope.kind == .module && _)) = false
    rw [hkind]; rfl
  let R : Result → Shared → Prop := fun r s' => ∃ m, s'.heap.Ns C m ∧ ∀ h', Heap.SameBut C s'.heap h' →
    match r with
    | .ok _ => Q (.ref D) { s' with heap := h' }
    | .error x => wpAny (model PG w) (arn dp un gd (env :: frs)) (PySem.passOn "comprehension.variables-let-go" x cenv) Q E { s' with heap := h' }
  have loop : codeAny (model PG w) (arn dp un gd (env :: frs)) (.compLoop (.ListComp elt [⟨.Name x px, iter, ifs, 0⟩] scope pos) 0 (.ref I) (.ref D) cenv) R { s with heap := h₁, toks := tk₀ + ([] : List (Str × Value)).length } := by
    refine codeAny_compLoop_tests (CInv s St n J G₂ C I D (· ≤ ·)) ?_ (n + 1) inv0
    rintro k s' ⟨h, tk, i, ch₁, rs, ys, kk, m₂, oi, hst', hi, hys, hJ', F', N', A1, A2⟩
    have keepI : ∀ h₂, (∀ b o, b ∉ [I] → h.get? b = some o → h₂.get? b = some o) → Fr G₂ C h₂ m₂ ∧ ∀ p ∈ ch₁ ++ (rs ++ [(D, lstX ys kk)]), h₂.get? p.1 = some p.2 ∧ p.1 ≠ C ∧ G₂.get? p.1 = none := fun h₂ hk₂ => by
      refine ⟨⟨F'.ns.at' fun o e => hk₂ C o (fun q => hCI (List.mem_singleton.mp q)) e, fun b o e => hk₂ b o (fun q => ?_) (F'.keep b o e), F'.above⟩, fun p hp => ?_⟩
      · rw [List.mem_singleton.mp q, g2no I (.head _)] at e; cases e
      · have hm : p ∈ ch₁ ++ (rs ++ [(I, oi), (D, lstX ys kk)]) ∧ p.1 ≠ I := by
          rcases List.mem_append.mp hp with hp | hp
          · exact ⟨List.mem_append_left _ hp, A1 p hp (I, oi) (List.mem_append_right _ (.head _))⟩
          rcases List.mem_append.mp hp with hp | hp
          · exact ⟨List.mem_append_right _ (List.mem_append_left _ hp), A2 p hp (I, oi) (.head _)⟩
          · rw [List.mem_singleton.mp hp]
            exact ⟨List.mem_append_right _ (List.mem_append_right _ (.tail _ (.head _))), fun q => by have q' : @Eq Nat D I := q; lia⟩
        have Np := N' p hm.1
        exact ⟨hk₂ _ _ (fun q => hm.2 (List.mem_singleton.mp q)) Np.1, Np.2⟩
    by_cases hlt' : i < n
    · refine W.item i _ _ _ hlt' hst' fun v h₂ tk₂ hP hst₂ hk₂ => ?_
      obtain ⟨F₂, K₂⟩ := keepI h₂ hk₂
      obtain ⟨oI2, hoI2⟩ := halive _ _ hst₂
      have N₂ : News G₂ C h₂ (ch₁ ++ (rs ++ [(I, oI2), (D, lstX ys kk)])) := fun p hp => by
        rcases List.mem_append.mp hp with hp | hp
        · exact K₂ p (List.mem_append_left _ hp)
        rcases List.mem_append.mp hp with hp | hp
        · exact K₂ p (List.mem_append_right _ (List.mem_append_left _ hp))
        rcases List.mem_cons.mp hp with rfl | hp
        · exact ⟨hoI2, fun q => hCI q.symm, g2no I (.head _)⟩
        · exact K₂ p (List.mem_append_right _ (List.mem_append_right _ hp))
      have B1' : Apart ch₁ (rs ++ [(I, oI2), (D, lstX ys kk)]) := fun p hp q hq => by
        rcases List.mem_append.mp hq with hq | hq
        · exact A1 p hp q (List.mem_append_left _ hq)
        rcases List.mem_cons.mp hq with rfl | hq
        · exact A1 p hp (I, oi) (List.mem_append_right _ (.head _))
        · exact A1 p hp q (List.mem_append_right _ (.tail _ hq))
      have B2' : Apart rs [(I, oI2), (D, lstX ys kk)] := fun p hp q hq => by
        rcases List.mem_cons.mp hq with rfl | hq
        · exact A2 p hp (I, oi) (.head _)
        · exact A2 p hp q (.tail _ hq)
      refine wpAny_assign_Name (wpAny_storeName_local hxl F₂.ns (fun h₃ hn₃ hs₃ => ?_) hpl)
      have F₃ := F₂.set hn₃ hs₃
      have N₃ := N₂.set hs₃
      refine wpAny_mono (turn i v G₂ C h₃ (tk₂ + 1) ch₁ rs ys [(I, oI2), (D, lstX ys kk)] _ _ hlt' hP hJ' gst grest B2 X2 T2 F₃ (by simp) N₃ B1' fun e ln h' tk' hx' hex => ?_) (fun b s'' hb => ?_) fun z9 z9 e => e
      · refine cps fun k_ => ?_
        obtain ⟨G₃, F₃', x', u'⟩ := hx'
        apply k_
        clear k_
        have st3 : G.StaysIn G₃ := fun b o e => F₃'.keep b o (gst b o e)
        have hC3 : ∃ o, G₃.get? C = some o := let ⟨o, _, _, ho, _⟩ := F₃'.ns; ⟨o, ho⟩
        have hCfr : C ∉ (env :: frs).filterMap (·.frame) := fun hm => by
          refine cps fun k_ => ?_
          obtain ⟨_, o, ho, _⟩ := B2.frames.mem hm
          apply k_
          clear k_
          have z : @LT.lt Nat _ C G₂.objs.size := Heap.lt_size ho
          have z2 : @Eq Nat G₂.objs.size C := sz2
          lia
        have hCb : base.get? C = none := by
          cases q : base.get? C with
          | none => rfl
          | some o =>
            have z : @LT.lt Nat _ C G₂.objs.size := Heap.lt_size (B2.stays _ _ q)
            have z2 : @Eq Nat G₂.objs.size C := sz2
            lia
        refine thrown_note (G := G₃) rfl hf rfl (x'.thrown (fun z9 z9 e => e) env.locals) fun h₆ z9 u₆ x₆ => ?_
        refine ⟨_, (u'.trans u₆).ns F₃'.ns, fun h₇ hs₇ => ?_⟩
        have x₇ := x₆.same hs₇ ((u'.trans u₆).ns F₃'.ns) hCb hCfr hC3
        refine held_passOn (G := G₃) hf x₇ fun h₈ x₈ u₈ => hexc e ln h₈ tk' (x₈.mono st3) ?_ hex
        exact fun b o hb hd => by
          obtain ⟨s1, e1⟩ := (u'.trans u₆) b o (st3 b o hb) hd
          have hbC : b ≠ C := fun q => by
            have z : @LT.lt Nat _ b G₂.objs.size := Heap.lt_size (gst b o hb)
            have z2 : @Eq Nat G₂.objs.size C := sz2
            have q' : @Eq Nat b C := q
            lia
          obtain ⟨s2, e2⟩ := u₈ b _ ((hs₇.2 b hbC).trans e1) hd
          exact ⟨s2, e2⟩
      · refine cps fun k_ => ?_
        obtain ⟨h₆, tk₆, rfl, F₆, N₆, Jf, Jt⟩ := hb
        apply k_
        clear k_
        cases b with
        | false =>
          rw [if_neg Bool.false_ne_true]
          refine ⟨n + 1 - (i + 1), sub_dec hlt', .mk h₆ tk₆ (i + 1) ch₁ rs ys kk _ oI2 ?_ hlt' (Nat.le_succ_of_le hys) (Jf rfl) F₆ N₆ B1' B2'⟩
          refine W.frame _ _ _ hst₂ fun b hb o e => ?_
          rcases fpG b hb with rfl | ⟨o₀, ho₀⟩
          · rw [hoI2] at e; cases e
            exact (N₆ (b, oI2) (by simp)).1
          · have := F₂.keep b o₀ ho₀
            rw [this] at e; cases e
            exact F₆.keep b _ ho₀
        | true =>
        rw [if_pos rfl]
        refine wpAny_mono (Jt rfl) (fun y s'' hy => ?_) fun z9 z9 e => e
        refine cps fun k_ => ?_
        obtain ⟨ch₂, new, h₄, tk₄, rfl, F₄, N₄, A4, A4', J4⟩ := hy
        apply k_
        clear k_
        have hD4 := (N₄ (D, lstX ys kk) (by simp)).1
        refine append_at hD4 (fun h₅ hs₅ ho₅ => ?_) (by rw [List.size_toArray, sizeLine_eq]; lia)
        have neD : ∀ b o, G₂.get? b = some o → b ≠ D := fun b o e q => by rw [q, g2no D (.tail _ (.head _))] at e; cases e
        have F₅ : Fr G₂ C h₅ _ := ⟨F₄.ns.sameBut hs₅ hCD, fun b o e => (hs₅.2 b (neD b o e)).trans (F₄.keep b o e), F₄.above⟩
        have N₅ : News G₂ C h₅ (ch₂ ++ ((new ++ rs) ++ [(I, oI2), (D, lstX (ys ++ [y]) (kk + 1))])) := fun p hp => by
          have other : p ∈ ch₂ ++ (new ++ (rs ++ [(I, oI2), (D, lstX ys kk)])) → p.1 ≠ D → h₅.get? p.1 = some p.2 ∧ p.1 ≠ C ∧ G₂.get? p.1 = none := fun hm hne => ⟨(hs₅.2 _ hne).trans (N₄ p hm).1, (N₄ p hm).2⟩
          rcases List.mem_append.mp hp with hp | hp
          · exact other (List.mem_append_left _ hp) (A4 p hp (D, lstX ys kk) (by simp))
          rcases List.mem_append.mp hp with hp | hp
          · rcases List.mem_append.mp hp with hp | hp
            · exact other (by simp [hp]) (A4' p hp (D, lstX ys kk) (by simp))
            · exact other (by simp [hp]) (B2' p hp (D, lstX ys kk) (by simp))
          simp only [List.mem_cons, List.not_mem_nil, or_false] at hp
          rcases hp with rfl | rfl
          · exact other (by simp) (fun q => by have q' : @Eq Nat I D := q; lia)
          · refine ⟨?_, hCD.symm, g2no D (.tail _ (.head _))⟩
            rw [ho₅]; simp [lstX]
        refine ⟨n + 1 - (i + 1), sub_dec hlt', .mk h₅ tk₄ (i + 1) ch₂ (new ++ rs) (ys ++ [y]) (kk + 1) _ oI2 ?_ hlt' (by rw [List.length_append]; exact Nat.succ_le_succ hys) J4 F₅ N₅ ?_ ?_⟩
        · refine W.frame _ _ _ hst₂ fun b hb o e => ?_
          rcases fpG b hb with rfl | ⟨o₀, ho₀⟩
          · rw [hoI2] at e; cases e
            exact (N₅ (b, oI2) (by simp)).1
          · have := F₂.keep b o₀ ho₀
            rw [this] at e; cases e
            exact F₅.keep b _ ho₀
        · intro p hp q hq
          simp only [List.mem_append, List.mem_cons, List.not_mem_nil, or_false] at hq
          rcases hq with (hq | hq) | rfl | rfl
          · exact A4 p hp q (by simp [hq])
          · exact A4 p hp q (by simp [hq])
          · exact A4 p hp (I, oI2) (by simp)
          · exact A4 p hp (D, lstX ys kk) (by simp)
        · intro p hp q hq
          simp only [List.mem_cons, List.not_mem_nil, or_false] at hq
          rcases List.mem_append.mp hp with hp | hp
          · rcases hq with rfl | rfl
            · exact A4' p hp (I, oI2) (by simp)
            · exact A4' p hp (D, lstX ys kk) (by simp)
          · rcases hq with rfl | rfl
            · exact B2' p hp (I, oI2) (by simp)
            · exact B2' p hp (D, lstX ys kk) (by simp)
    · have hin : i = n := by lia
      subst hin
      refine W.done _ _ _ hst' fun h₂ tk₂ hk₂ => ?_
      obtain ⟨F₂, K₂⟩ := keepI h₂ hk₂
      refine ⟨m₂, F₂.ns, fun h₃ hs₃ => ?_⟩
      have g3 : ∀ b o, G₂.get? b = some o → h₃.get? b = some o := fun b o e => (hs₃.2 b fun q => by
        have z : @LT.lt Nat _ b G₂.objs.size := Heap.lt_size e
        have z2 : @Eq Nat G₂.objs.size C := sz2
        have q' : @Eq Nat b C := q
        lia).trans (F₂.keep b o e)
      refine done D ch₁ rs ys kk h₃ tk₂ hys hJ' ⟨⟨oL, esL, epL, g3 _ _ gL, hLd, hLk, hLf⟩, fun b o e => g3 b o (gst b o e), F.above⟩ (fun p hp => ?_) ?_
      · have own : p ∈ ch₁ ++ (rs ++ [(D, lstX ys kk)]) → h₃.get? p.1 = some p.2 ∧ p.1 ≠ env.locals ∧ G.get? p.1 = none := fun hm => by
          have Kp := K₂ p hm
          exact ⟨(hs₃.2 _ Kp.2.1).trans Kp.1, fun q => by rw [q, gL] at Kp; exact absurd Kp.2.2 (by simp), none_of gst Kp.2.2⟩
        rcases List.mem_append.mp hp with hp | hp
        · exact own (List.mem_append_left _ hp)
        rcases List.mem_cons.mp hp with rfl | hp
        · exact own (by simp)
        rcases List.mem_append.mp hp with hp | hp
        · exact own (by simp [hp])
        · exact ⟨g3 _ _ (grest p hp), (N p (List.mem_append_right _ hp)).2⟩
      · intro p hp q hq
        rcases List.mem_cons.mp hq with rfl | hq
        · exact A1 p hp (D, lstX ys kk) (by simp)
        rcases List.mem_append.mp hq with hq | hq
        · exact A1 p hp q (by simp [hq])
        · intro e
          have Kp := K₂ p (List.mem_append_left _ hp)
          rw [e, grest q hq] at Kp
          exact absurd Kp.2.2 (by simp)
  exact codeAny_compStart_list loop (W.self 0 _ _ _ (W.frame _ _ _ hst fun b z9 o e => up1 b o (up3 b o e)) loop)
theorem compK {hp : Heap} {tk₀ : Nat} {base G : Heap} {A₀ : Around} {frs : List Env} {env : Env} {L : Addr} {dp un : Nat} {gd : Option (List Code)} {elt iter : PySem.Expr} {ifs : List PySem.Expr} {x : Str} {px : Pos} {scope : Scope} {cl : List (Str × Addr)} {pos : Pos} {Q E : Value → Shared → Prop} {s : Shared} {Ex : Int → Prop}
    (B : Below A₀ base frs G) (X : (hd.heap_39 w.params).In G) (T : Top hd.view_39 LO mean mg mb G) (hL : env.locals = L) (hf : env.frame = some L) (hke : env.scope.kind = .function)
    (hclos : closureFor scope env = pure cl) (hcell : ∀ y ∈ scope.names, y.2 ≠ .cell) (hkind : scope.kind = .function)
    (hnames : ∀ y ∈ scope.names, y.2 = .local → scope.names.lookup y.1 = some .local) (hx : scope.names.lookup x = some .local)
    (hexc : ∀ e ln h' tk', Thrown base (env :: frs) G L e ln h' → G.UpToSlots h' → Ex ln → E (.ref e) { s with heap := h', toks := tk' })
    (h : wpAny (model PG w) (arn dp un gd (env :: frs)) (eval iter env) (fun xv s₁ => wpAny (model PG w) (arn dp un gd (env :: frs)) (pyIter xv) (fun it s₂ =>
      (∃ h₂ tk₂, s₂ = { s with heap := h₂, toks := tk₂ }) ∧ CompAtG w mean mg mb dp un gd frs base G env scope cl x elt ifs Ex Q it s₂) E s₁) E { s with heap := hp, toks := tk₀ })
    (hs : ∀ x, foldedSetIterable iter env x = pure x := by intro _; rfl) :
    wpAny (model PG w) (arn dp un gd (env :: frs)) (eval (.ListComp elt [⟨.Name x px, iter, ifs, 0⟩] scope pos) env) Q E { s with heap := hp, toks := tk₀ } := compKS (s := { s with heap := hp, toks := tk₀ }) B X T hL hf hke hclos hcell hkind hnames hx hexc h hs
end
section
variable {w : World} {mean : ExcName → Option Value} {mg mb : Str → Option Value}
inductive ForAt (w : World) (dp un : Nat) (gd : Option (List Code)) (frs : List Env) (G : Heap) (env : Env) (target : PySem.Expr) (body : List Stmt) (Q : Flow → Shared → Prop) (E : Value → Shared → Prop) (it : Value) (s₂ : Shared) : Prop
  | mk (I : Addr) (fp : List Addr) (n : Nat) (P : Nat → Value → Prop) (St : Nat → Heap → Prop) (m : Str → Option Value) (own led : Led) (J : Nat → (Str → Option Value) → Led → Prop) (h1_ : it = .ref I) (h0_ : ∀ i h tk v (Q' : Unit → Shared → Prop) (E' : Value → Shared → Prop), i < n → St (i + 1) h → Q' () { s₂ with heap := h, toks := tk } → wpAny (model PG w) (arn dp un gd frs) (letOwnedTupleGo target (.ref I) v) Q' E' { s₂ with heap := h, toks := tk }) (h2_ : Walks PG w (arn dp un gd frs) I fp [I] n P St) (h3_ : St 0 s₂.heap) (h4_ : (∀ i h, St i h → ∃ o, h.get? I = some o)) (h5_ : Fr G env.locals s₂.heap m) (h6_ : News G env.locals s₂.heap (own ++ led)) (h7_ : G.get? I = none) (h8_ : I ≠ env.locals) (h9_ : (∀ p ∈ own ++ led, p.1 ≠ I)) (h10_ : (∀ b ∈ fp, b = I ∨ (∃ o, G.get? b = some o) ∨ ∃ o, (b, o) ∈ own)) (h11_ : J 0 m led) (h12_ : (∀ i v h tk m₁ led₁ oI, i < n → P i v → J i m₁ led₁ → Fr G env.locals h m₁ → News G env.locals h ((I, oI) :: (own ++ led₁)) → (∀ p ∈ led₁, p.1 ≠ I) → wpAny (model PG w) (arn dp un gd frs) (assign target env v) (fun z9 s₃ => wpAny (model PG w) (arn dp un gd frs) (execs body env) (fun f s₄ => match f with | .next | .cont => ∃ m₂ led₂ h' tk', s₄ = { s₂ with heap := h', toks := tk' } ∧ Fr G env.locals h' m₂ ∧ News G env.locals h' ((I, oI) :: (own ++ led₂)) ∧ (∀ p ∈ led₂, p.1 ≠ I) ∧ J (i + 1) m₂ led₂ | .brk => Q .next s₄ | .ret v => Q (.ret v) s₄) E s₃) E { s₂ with heap := h, toks := tk })) (h13_ : ∀ m' led' h' tk', J n m' led' → Fr G env.locals h' m' → News G env.locals h' (own ++ led') → Q .next { s₂ with heap := h', toks := tk' }) : ForAt w dp un gd frs G env target body Q E it s₂
theorem forKS {G : Heap} {frs : List Env} {env : Env} {dp un : Nat} {gd : Option (List Code)} {target iter : PySem.Expr} {body : List Stmt} {pos : Pos} {Q : Flow → Shared → Prop} {E : Value → Shared → Prop} {s : Shared}
    (hE : PassesOwn (model PG w) (arn dp un gd frs) env E)
    (h : wpAny (model PG w) (arn dp un gd frs) (eval iter env) (fun xv s₁ => wpAny (model PG w) (arn dp un gd frs) (pyIter xv) (fun it s₂ =>
      (∃ h₂ tk₂, s₂ = { s with heap := h₂, toks := tk₂ }) ∧ ForAt w dp un gd frs G env target body Q E it s₂) E s₁) E s)
    (hs : ∀ x, foldedSetIterable iter env x = pure x := by intro _; rfl) :
    wpAny (model PG w) (arn dp un gd frs) (exec (.For target iter body [] pos) env) Q E s := by
  refine wpAny_For (wpAny_mono h (fun xv s₁ h₁ => wpAny_mono h₁ (fun it s₂ h₂ => ?_) fun z9 z9 e => e) fun z9 z9 e => e) hs
  refine cps fun k_ => ?_
  obtain ⟨⟨H₀, tk₀, rfl⟩, I, fp, n, P, St, m, own, led, J, rfl, hgo, W, hst, halive, F, N, hGI, hIL, hIne, hfp, hJ, turn, done⟩ := h₂
  apply k_
  clear k_
  refine codeAny_forLoop_any (FInv s St n J G env.locals I own) ?_ (n + 1) (.mk H₀ tk₀ 0 m led hst (Nat.zero_le _) hJ F N hIne)
  rintro k s' ⟨h, tk, i, m₁, led₁, hst', hi, hJ', F', N', hI'⟩
  have keepI : ∀ h₂, (∀ b o, b ∉ [I] → h.get? b = some o → h₂.get? b = some o) → Fr G env.locals h₂ m₁ ∧ News G env.locals h₂ (own ++ led₁) := fun h₂ hk₂ =>
    ⟨⟨F'.ns.at' fun o e => hk₂ _ o (fun q => hIL (List.mem_singleton.mp q).symm) e, fun b o e => hk₂ b o (fun q => by rw [List.mem_singleton.mp q, hGI] at e; cases e) (F'.keep b o e), F'.above⟩,
      fun p hp => ⟨hk₂ _ _ (fun q => hI' p hp (List.mem_singleton.mp q)) (N' p hp).1, (N' p hp).2⟩⟩
  by_cases hlt : i < n
  · refine W.item i _ _ _ hlt hst' fun v h₂ tk₂ hP hst₂ hk₂ => hgo i h₂ tk₂ v _ _ hlt hst₂ ?_
    obtain ⟨F₂, N₂⟩ := keepI h₂ hk₂
    obtain ⟨oI, hoI⟩ := halive _ _ hst₂
    have N₃ : News G env.locals h₂ ((I, oI) :: (own ++ led₁)) := fun p hp => by
      rcases List.mem_cons.mp hp with rfl | hp
      · exact ⟨hoI, hIL, hGI⟩
      · exact N₂ p hp
    refine wpAny_mono (wpAny_passesOwn hE (turn i v h₂ tk₂ m₁ led₁ oI hlt hP hJ' F₂ N₃ fun p hp => hI' p (List.mem_append_right _ hp))) (fun z9 s₃ h₃ => wpAny_mono (wpAny_passesOwn hE h₃) (fun f s₄ h₄ => ?_) fun z9 z9 e => e) fun z9 z9 e => e
    have cont : (∃ m₂ led₂ h' tk', s₄ = { s with heap := h', toks := tk' } ∧ Fr G env.locals h' m₂ ∧ News G env.locals h' ((I, oI) :: (own ++ led₂)) ∧ (∀ p ∈ led₂, p.1 ≠ I) ∧ J (i + 1) m₂ led₂) → ∃ m, m < n + 1 - i ∧ FInv s St n J G env.locals I own m s₄ := by
      rintro ⟨m₂, led₂, h', tk', rfl, F₄, N₄, hne, J₄⟩
      refine ⟨n + 1 - (i + 1), sub_dec hlt, .mk h' tk' (i + 1) m₂ led₂ ?_ hlt J₄ F₄ (fun p hp => N₄ p (List.mem_cons_of_mem _ hp)) (fun p hp => ?_)⟩
      · refine W.frame _ _ _ hst₂ fun b hb o e => ?_
        rcases hfp b hb with rfl | ⟨o₀, ho₀⟩ | ⟨o₀, ho₀⟩
        · rw [hoI] at e; cases e
          exact (N₄ (b, oI) List.mem_cons_self).1
        · have := F₂.keep b o₀ ho₀
          rw [this] at e; cases e
          exact F₄.keep b _ ho₀
        · have := (N₂ (b, o₀) (List.mem_append_left _ ho₀)).1
          dsimp only at this
          rw [this] at e; cases e
          exact (N₄ (b, _) (List.mem_cons_of_mem _ (List.mem_append_left _ ho₀))).1
      · rcases List.mem_append.mp hp with hp | hp
        · exact hI' p (List.mem_append_left _ hp)
        · exact hne p hp
    cases f with
    | next => exact cont h₄
    | cont => exact cont h₄
    | brk => exact h₄
    | ret v => exact h₄
  · have hin : i = n := by lia
    subst hin
    refine W.done _ _ _ hst' fun h₂ tk₂ hk₂ => wpAny_execs_nil ?_
    obtain ⟨F₂, N₂⟩ := keepI h₂ hk₂
    exact done m₁ led₁ h₂ tk₂ hJ' F₂ N₂
theorem forK {hp : Heap} {tk₀ : Nat} {G : Heap} {frs : List Env} {env : Env} {dp un : Nat} {gd : Option (List Code)} {target iter : PySem.Expr} {body : List Stmt} {pos : Pos} {Q : Flow → Shared → Prop} {E : Value → Shared → Prop} {s : Shared}
    (hE : PassesOwn (model PG w) (arn dp un gd frs) env E)
    (h : wpAny (model PG w) (arn dp un gd frs) (eval iter env) (fun xv s₁ => wpAny (model PG w) (arn dp un gd frs) (pyIter xv) (fun it s₂ =>
      (∃ h₂ tk₂, s₂ = { s with heap := h₂, toks := tk₂ }) ∧ ForAt w dp un gd frs G env target body Q E it s₂) E s₁) E { s with heap := hp, toks := tk₀ })
    (hs : ∀ x, foldedSetIterable iter env x = pure x := by intro _; rfl) :
    wpAny (model PG w) (arn dp un gd frs) (exec (.For target iter body [] pos) env) Q E { s with heap := hp, toks := tk₀ } := forKS (s := { s with heap := hp, toks := tk₀ }) hE h hs
end
/-! the programs as data -/
inductive Place where
  | name (sg x : Str)
  | elem (x : Str)
  | told (my : Bool) (x : Str)
  | one (p : Place)
  | two (p q : Place)
mutual
inductive Term where
  | told (my : Bool) (sg x : Str)
  | loc (p : Place)
  | name (x : Str)
  | num
  | assign (a b : Term)
  | anon (b : Blk)
  | list (a b : Term)
inductive Stm where
  | ifs (t : Term) (b c : Blk)
  | foreach (v i : Term) (b : Blk)
  | bare (b : Blk)
  | expr (ln : Int) (t : Term)
inductive Blk where
  | nil
  | cons (s : Stm) (b : Blk)
end
def widP : Place → Nat
  | .name _ _ => 0
  | .elem _ => 0
  | .told _ _ => 1
  | .one p => widP p
  | .two p q => widP p + widP q
def widT : Term → Nat
  | .told _ _ _ => 1
  | .loc p => widP p
  | .name _ => 0
  | .num => 0
  | .assign a b => widT a + widT b
  | .anon _ => 0
  | .list a b => widT a + widT b
def htP : Place → Nat
  | .name _ _ => 2
  | .elem _ => 4
  | .told _ _ => 2
  | .one p => 3 + htP p
  | .two p q => 3 + max (htP p) (htP q)
mutual
def htT : Term → Nat
  | .told _ _ _ => 2
  | .loc p => 3 + htP p
  | .name _ => 2
  | .num => 2
  | .assign a b => 2 + max (htT a) (htT b)
  | .anon b => 6 + htB b
  | .list a b => 3 + max (htT a) (htT b)
def htS : Stm → Nat
  | .ifs t b c => 4 + max (htT t) (max (htB b) (htB c))
  | .foreach v i b => 6 + max (htT v) (max (htT i) (htB b))
  | .bare b => 3 + htB b
  | .expr _ t => 2 + htT t
def htB : Blk → Nat
  | .nil => 1
  | .cons s b => max (1 + htS s) (htB b)
end
def plainNames : List Str := ["x", "y", "_a", "Env"]
def mainNames : List Str := ["_", "1", "ENV", "STDIN", "&", "0", "a::b", "::x", "INC"]
def allNames : List Str := plainNames ++ mainNames
def sigs : List Str := ["$", "@", "%"]
abbrev tupO (vs : List Value) : Obj := { cls := .type "tuple", data := .seq vs.toArray }
abbrev lstO (vs : List Value) (n : Nat) : Obj := { cls := .type "list", data := .seq vs.toArray n }
def myWord (my : Bool) : Str := if my then "my" else "our"
abbrev See := Addr → Obj → Prop
def seeH (h : Heap) : See := fun a o => h.get? a = some o
def seeL (l : Led) : See := fun a o => (a, o) ∈ l
inductive PlName (P : See) (sg x : Str) (v : Value) : Prop
  | mk (a : Addr) (t1 t2 t3 : Tok) (e : v = .ref a) (h1 : sg ∈ sigs) (h2 : x ∈ plainNames) (h3 : P a (tupO [.str "name" t1, .str sg t2, .str x t3])) : PlName P sg x v
inductive PlElem (P : See) (x : Str) (v : Value) : Prop
  | mk (a : Addr) (t : Tok) (a2 : Addr) (t1 t2 t3 : Tok) (a3 : Addr) (t4 t5 : Tok) (e : v = .ref a) (h1 : x ∈ plainNames) (h2 : P a (tupO [.str "elem" t, .ref a2, .ref a3])) (h3 : P a2 (tupO [.str "name" t1, .str "@" t2, .str x t3])) (h4 : P a3 (tupO [.str "num" t4, .int 1 t5])) : PlElem P x v
inductive PlTold (P : See) (my : Bool) (x : Str) (v : Value) : Prop
  | mk (a : Addr) (t1 t2 t3 : Tok) (e : v = .ref a) (h1 : x ∈ plainNames) (h2 : P a (tupO [.str (myWord my) t1, .str "$" t2, .str x t3])) : PlTold P my x v
inductive PlOne (P : See) (R : Value → Prop) (v : Value) : Prop
  | mk (a : Addr) (t : Tok) (l : Addr) (n : Nat) (v1 : Value) (e : v = .ref a) (h1 : P a (tupO [.str "list" t, .ref l])) (h2 : P l (lstO [v1] n)) (h3 : R v1) : PlOne P R v
inductive PlTwo (P : See) (R R' : Value → Prop) (v : Value) : Prop
  | mk (a : Addr) (t : Tok) (l : Addr) (n : Nat) (v1 v2 : Value) (e : v = .ref a) (h1 : P a (tupO [.str "list" t, .ref l])) (h2 : P l (lstO [v1, v2] n)) (h3 : R v1) (h4 : R' v2) : PlTwo P R R' v
def PlaceIs (P : See) : Value → Place → Prop
  | v, .name sg x => PlName P sg x v
  | v, .elem x => PlElem P x v
  | v, .told my x => PlTold P my x v
  | v, .one p => PlOne P (fun v => PlaceIs P v p) v
  | v, .two p q => PlTwo P (fun v => PlaceIs P v p) (fun v => PlaceIs P v q) v
inductive BlkOf (P : See) (S : List Value → Prop) (v : Value) : Prop
  | mk (a : Addr) (t : Tok) (l : Addr) (n : Nat) (vs : List Value) (e : v = .ref a) (h1 : P a (tupO [.str "block" t, .ref l])) (h2 : P l (lstO vs n)) (h3 : vs.length ≤ 8) (h4 : S vs) : BlkOf P S v
inductive TmTold (P : See) (my : Bool) (sg x : Str) (v : Value) : Prop
  | mk (a : Addr) (t1 t2 t3 : Tok) (e : v = .ref a) (h1 : sg ∈ sigs) (h2 : x ∈ allNames) (h3 : P a (tupO [.str (myWord my) t1, .str sg t2, .str x t3])) : TmTold P my sg x v
inductive TmLoc (P : See) (R : Value → Prop) (v : Value) : Prop
  | mk (a : Addr) (t : Tok) (v1 : Value) (e : v = .ref a) (h1 : P a (tupO [.str "local" t, v1])) (h2 : R v1) : TmLoc P R v
inductive TmName (P : See) (x : Str) (v : Value) : Prop
  | mk (a : Addr) (t1 t2 t3 : Tok) (e : v = .ref a) (h1 : x ∈ allNames) (h2 : P a (tupO [.str "name" t1, .str "$" t2, .str x t3])) : TmName P x v
inductive TmNum (P : See) (v : Value) : Prop
  | mk (a : Addr) (t1 t2 : Tok) (e : v = .ref a) (h1 : P a (tupO [.str "num" t1, .int 1 t2])) : TmNum P v
inductive TmAssign (P : See) (R R' : Value → Prop) (v : Value) : Prop
  | mk (a : Addr) (t : Tok) (v1 v2 : Value) (e : v = .ref a) (h1 : P a (tupO [.str "assign" t, v1, v2])) (h2 : R v1) (h3 : R' v2) : TmAssign P R R' v
inductive TmAnon (P : See) (R : Value → Prop) (v : Value) : Prop
  | mk (a : Addr) (t : Tok) (a2 : Addr) (t1 t2 : Tok) (v1 : Value) (t3 : Tok) (l : Addr) (n : Nat) (e : v = .ref a) (h1 : P a (tupO [.str "anonsub" t, .ref a2])) (h2 : P a2 (tupO [.str "subdef" t1, .str "" t2, v1, .int 0 t3, .ref l])) (h3 : P l (lstO [] n)) (h4 : R v1) : TmAnon P R v
inductive SmIf (P : See) (w : Nat) (R R' R'' : Value → Prop) (v : Value) : Prop
  | mk (a : Addr) (t1 : Tok) (l : Addr) (n : Nat) (p : Addr) (v1 v2 v3 : Value) (e : v = .ref a) (h0 : w ≤ 20) (h1 : P a (tupO [.str "if" t1, .ref l, v3])) (h2 : P l (lstO [.ref p] n)) (h3 : P p (tupO [v1, v2])) (h4 : R v1) (h5 : R' v2) (h6 : R'' v3) : SmIf P w R R' R'' v
inductive SmFor (P : See) (w : Nat) (R R' R'' : Value → Prop) (v : Value) : Prop
  | mk (a : Addr) (t1 t2 : Tok) (v1 : Value) (a2 : Addr) (t3 : Tok) (l : Addr) (n : Nat) (v2 v3 : Value) (e : v = .ref a) (h0 : w ≤ 20) (h1 : P a (tupO [.str "foreach" t1, .str "" t2, v1, .ref a2, v3])) (h2 : P a2 (tupO [.str "list" t3, .ref l])) (h3 : P l (lstO [v2] n)) (h4 : R v1) (h5 : R' v2) (h6 : R'' v3) : SmFor P w R R' R'' v
inductive SmBare (P : See) (R : Value → Prop) (v : Value) : Prop
  | mk (a : Addr) (t1 t2 : Tok) (v1 : Value) (e : v = .ref a) (h1 : P a (tupO [.str "bare" t1, .str "" t2, v1])) (h2 : R v1) : SmBare P R v
inductive SmExpr (P : See) (ln : Int) (w : Nat) (R : Value → Prop) (v : Value) : Prop
  | mk (a : Addr) (t1 t2 : Tok) (v1 : Value) (e : v = .ref a) (h0 : 1 ≤ ln) (h1 : w ≤ 20) (h2 : P a (tupO [.str "expr" t1, .int ln t2, v1])) (h3 : R v1) : SmExpr P ln w R v
inductive SmCons (R : Value → Prop) (R' : List Value → Prop) (vs : List Value) : Prop
  | mk (v : Value) (r : List Value) (e : vs = v :: r) (h1 : R v) (h2 : R' r) : SmCons R R' vs
mutual
def TermIs (P : See) : Value → Term → Prop
  | v, .told my sg x => TmTold P my sg x v
  | v, .loc p => TmLoc P (fun v => PlaceIs P v p) v
  | v, .name x => TmName P x v
  | v, .num => TmNum P v
  | v, .assign p q => TmAssign P (fun v => TermIs P v p) (fun v => TermIs P v q) v
  | v, .anon b => TmAnon P (BlkOf P (fun vs => StmsAre P vs b)) v
  | v, .list p q => PlTwo P (fun v => TermIs P v p) (fun v => TermIs P v q) v
def StmIs (P : See) : Value → Stm → Prop
  | v, .ifs t b c => SmIf P (widT t) (fun v => TermIs P v t) (BlkOf P (fun vs => StmsAre P vs b)) (BlkOf P (fun vs => StmsAre P vs c)) v
  | v, .foreach x i b => SmFor P (widT x + widT i) (fun v => TermIs P v x) (fun v => TermIs P v i) (BlkOf P (fun vs => StmsAre P vs b)) v
  | v, .bare b => SmBare P (BlkOf P (fun vs => StmsAre P vs b)) v
  | v, .expr ln t => SmExpr P ln (widT t) (fun v => TermIs P v t) v
def StmsAre (P : See) : List Value → Blk → Prop
  | vs, .nil => vs = []
  | vs, .cons s b => SmCons (fun v => StmIs P v s) (fun vs => StmsAre P vs b) vs
end
abbrev BlkIs (P : See) (v : Value) (b : Blk) : Prop := BlkOf P (fun vs => StmsAre P vs b) v
theorem PlaceIs.mono {P P' : See} (h : ∀ a o, P a o → P' a o) : ∀ (p : Place) {v : Value}, PlaceIs P v p → PlaceIs P' v p
  | .name _ _, _, x => let ⟨a, t1, t2, t3, e, i, j, k⟩ := x; ⟨a, t1, t2, t3, e, i, j, h _ _ k⟩
  | .elem _, _, x => let ⟨a, t, a2, t1, t2, t3, a3, t4, t5, e, i, j, k, l⟩ := x; ⟨a, t, a2, t1, t2, t3, a3, t4, t5, e, i, h _ _ j, h _ _ k, h _ _ l⟩
  | .told _ _, _, x => let ⟨a, t1, t2, t3, e, i, j⟩ := x; ⟨a, t1, t2, t3, e, i, h _ _ j⟩
  | .one p, _, x => let ⟨a, t, l, n, v1, e, i, j, k⟩ := x; ⟨a, t, l, n, v1, e, h _ _ i, h _ _ j, PlaceIs.mono h p k⟩
  | .two p q, _, x => let ⟨a, t, l, n, v1, v2, e, i, j, k, k'⟩ := x; ⟨a, t, l, n, v1, v2, e, h _ _ i, h _ _ j, PlaceIs.mono h p k, PlaceIs.mono h q k'⟩
theorem BlkOf.mono {P P' : See} (h : ∀ a o, P a o → P' a o) {S S' : List Value → Prop} (hS : ∀ vs, S vs → S' vs) {v : Value} (x : BlkOf P S v) : BlkOf P' S' v :=
  let ⟨a, t, l, n, vs, e, i, j, z, k⟩ := x; ⟨a, t, l, n, vs, e, h _ _ i, h _ _ j, z, hS _ k⟩
mutual
theorem TermIs.mono {P P' : See} (h : ∀ a o, P a o → P' a o) : ∀ (t : Term) {v : Value}, TermIs P v t → TermIs P' v t
  | .told _ _ _, _, x => let ⟨a, t1, t2, t3, e, i, j, k⟩ := x; ⟨a, t1, t2, t3, e, i, j, h _ _ k⟩
  | .loc p, _, x => let ⟨a, t, v1, e, i, j⟩ := x; ⟨a, t, v1, e, h _ _ i, PlaceIs.mono h p j⟩
  | .name _, _, x => let ⟨a, t1, t2, t3, e, i, j⟩ := x; ⟨a, t1, t2, t3, e, i, h _ _ j⟩
  | .num, _, x => let ⟨a, t1, t2, e, i⟩ := x; ⟨a, t1, t2, e, h _ _ i⟩
  | .assign p q, _, x => let ⟨a, t, v1, v2, e, i, j, k⟩ := x; ⟨a, t, v1, v2, e, h _ _ i, TermIs.mono h p j, TermIs.mono h q k⟩
  | .anon b, _, x => let ⟨a, t, a2, t1, t2, v1, t3, l, n, e, i, j, k, m⟩ := x; ⟨a, t, a2, t1, t2, v1, t3, l, n, e, h _ _ i, h _ _ j, h _ _ k, m.mono h fun z9 => StmsAre.mono h b⟩
  | .list p q, _, x => let ⟨a, t, l, n, v1, v2, e, i, j, k, m⟩ := x; ⟨a, t, l, n, v1, v2, e, h _ _ i, h _ _ j, TermIs.mono h p k, TermIs.mono h q m⟩
theorem StmIs.mono {P P' : See} (h : ∀ a o, P a o → P' a o) : ∀ (t : Stm) {v : Value}, StmIs P v t → StmIs P' v t
  | .ifs t b c, _, x => let ⟨a, t1, l, n, p, v1, v2, v3, e, z, i, j, k, m, r, q⟩ := x; ⟨a, t1, l, n, p, v1, v2, v3, e, z, h _ _ i, h _ _ j, h _ _ k, TermIs.mono h t m, r.mono h fun z9 => StmsAre.mono h b, q.mono h fun z9 => StmsAre.mono h c⟩
  | .foreach y z b, _, x => let ⟨a, t1, t2, v1, a2, t3, l, n, v2, v3, e, w, i, j, k, m, r, q⟩ := x; ⟨a, t1, t2, v1, a2, t3, l, n, v2, v3, e, w, h _ _ i, h _ _ j, h _ _ k, TermIs.mono h y m, TermIs.mono h z r, q.mono h fun z9 => StmsAre.mono h b⟩
  | .bare b, _, x => let ⟨a, t1, t2, v1, e, i, q⟩ := x; ⟨a, t1, t2, v1, e, h _ _ i, q.mono h fun z9 => StmsAre.mono h b⟩
  | .expr _ t, _, x => let ⟨a, t1, t2, v1, e, i, z, j, q⟩ := x; ⟨a, t1, t2, v1, e, i, z, h _ _ j, TermIs.mono h t q⟩
theorem StmsAre.mono {P P' : See} (h : ∀ a o, P a o → P' a o) : ∀ (b : Blk) {vs : List Value}, StmsAre P vs b → StmsAre P' vs b
  | .nil, _, x => x
  | .cons s b, _, x => let ⟨v, r, e, i, j⟩ := x; ⟨v, r, e, StmIs.mono h s i, StmsAre.mono h b j⟩
end
structure Halt (p : Prop) : Prop where
  out : p
def haltAt (f : Nat) : Bool := [28, 48, 51, 61, 68, 75, 119, 126, 133, 140, 147, 154, 166, 173, 180, 187, 194, 201, 222, 229, 236, 243, 250, 271, 284, 289, 296, 317, 324, 331, 338, 343, 348, 355, 362].contains f
theorem halt_ref {M : Model} {A : Around} {Q E : Value → Shared → Prop} {s : Shared} {f : Addr} {args : List Value} (p : Halt (wpAny M A (call (.ref f) args) Q E s)) (_h : haltAt f = true) : wpAny M A (call (.ref f) args) Q E s := p.out
def haltIn (f : Nat) : Bool := [279, 54, 91].contains f
theorem halt_in {M : Model} {A : Around} {Q E : Value → Shared → Prop} {s : Shared} {f : Addr} {x : Str} {t : Tok} (p : Halt (wpAny M A (compareOp .In (.str x t) (.ref f)) Q E s)) (_h : haltIn f = true) : wpAny M A (compareOp .In (.str x t) (.ref f)) Q E s := p.out
theorem halt_c2 {M : Model} {A : Around} {Q : Value → Shared → Prop} {E : Value → Shared → Prop} {s : Shared} {f : Addr} {x : Bool} (p : Halt (wpAny M A (compareOp .In (.bool x) (.ref f)) Q E s)) : wpAny M A (compareOp .In (.bool x) (.ref f)) Q E s := p.out
theorem halt_c1 {M : Model} {A : Around} {Q : Value → Shared → Prop} {E : Value → Shared → Prop} {s : Shared} {f : Addr} {x : Str} {t : Tok} (p : Halt (wpAny M A (compareOp .In (.str x t) (.ref f)) Q E s)) : wpAny M A (compareOp .In (.str x t) (.ref f)) Q E s := p.out
theorem halt_i2 {M : Model} {A : Around} {Q : Unit → Shared → Prop} {E : Value → Shared → Prop} {s : Shared} {f : Addr} {x : Int} {t : Tok} {i : Value} (p : Halt (wpAny M A (setItem (.ref f) (.int x t) i) Q E s)) : wpAny M A (setItem (.ref f) (.int x t) i) Q E s := p.out
theorem halt_i1 {M : Model} {A : Around} {Q : Unit → Shared → Prop} {E : Value → Shared → Prop} {s : Shared} {f : Addr} {x : Str} {t : Tok} {i : Value} (p : Halt (wpAny M A (setItem (.ref f) (.str x t) i) Q E s)) : wpAny M A (setItem (.ref f) (.str x t) i) Q E s := p.out
theorem halt_s4 {M : Model} {A : Around} {Q : Value → Shared → Prop} {E : Value → Shared → Prop} {s : Shared} {v1 v2 : PySem.Expr} {i : Value} (p : Halt (wpAny M A (subscriptTail v1 v2 (.ref 279) i) Q E s)) : wpAny M A (subscriptTail v1 v2 (.ref 279) i) Q E s := p.out
theorem halt_s1 {M : Model} {A : Around} {Q : Value → Shared → Prop} {E : Value → Shared → Prop} {s : Shared} {v1 v2 : PySem.Expr} {f : Addr} {t : Tok} (p : Halt (wpAny M A (subscriptTail v1 v2 (.ref f) (.int (-1) t)) Q E s)) : wpAny M A (subscriptTail v1 v2 (.ref f) (.int (-1) t)) Q E s := p.out
theorem halt_s2 {M : Model} {A : Around} {Q : Value → Shared → Prop} {E : Value → Shared → Prop} {s : Shared} {v1 v2 : PySem.Expr} {f : Addr} {x : Str} {t : Tok} (p : Halt (wpAny M A (subscriptTail v1 v2 (.ref f) (.str x t)) Q E s)) : wpAny M A (subscriptTail v1 v2 (.ref f) (.str x t)) Q E s := p.out
theorem halt_s3 {M : Model} {A : Around} {Q : Value → Shared → Prop} {E : Value → Shared → Prop} {s : Shared} {v1 v2 : PySem.Expr} {f : Addr} {i : Value} (p : Halt (wpAny M A (subscriptTail v1 v2 (.ref f) i) Q E s)) : wpAny M A (subscriptTail v1 v2 (.ref f) i) Q E s := p.out
theorem news_nilr {G h : Heap} {L : Addr} {l : Led} (N : News G L h l) : News G L h (l ++ []) := by rw [List.append_nil]; exact N
theorem news_unnil {G h : Heap} {L : Addr} {l : Led} (N : News G L h (l ++ [])) : News G L h l := by rw [List.append_nil] at N; exact N
theorem news_sub {G h : Heap} {L : Addr} {l l' : Led} (N : News G L h l) (hs : ∀ p ∈ l', p ∈ l) : News G L h l' := fun p hp => N p (hs p hp)
theorem Apart.sub {a b a' b' : Led} (h : Apart a b) (ha : ∀ p ∈ a', p ∈ a) (hb : ∀ p ∈ b', p ∈ b) : Apart a' b' := fun p hp q hq => h p (ha p hp) q (hb q hq)
theorem allLt_mem {d : Addr} {l : Led} : AllLt d l → ∀ p ∈ l, @LT.lt Nat _ p.1 d := by
  induction l with
  | nil => intro _ p hp; cases hp
  | cons q r ih =>
    intro h p hp
    rcases List.mem_cons.mp hp with e | hp
    · rw [e]; exact h.1
    · exact ih h.2 p hp
theorem Apart.cons {a b : Led} {d : Addr} {o : Obj} (h : Apart a b) (hl : ∀ p ∈ a, @LT.lt Nat _ p.1 d) : Apart a ((d, o) :: b) := fun p hp q hq => by
  rcases List.mem_cons.mp hq with rfl | hq
  · exact fun e => absurd (hl p hp) (by rw [show @Eq Nat p.1 d from e]; exact Nat.lt_irrefl _)
  · exact h p hp q hq
theorem Apart.cons' {a b : Led} {d : Addr} {o : Obj} (h : Apart a b) (hl : ∀ p ∈ a ++ b, p.1 < d) : Apart a ((d, o) :: b) := h.cons fun p hp => hl p (List.mem_append_left _ hp)
theorem news_rot {G h : Heap} {L : Addr} {c r : Led} {x : Addr × Obj} (N : News G L h (x :: (c ++ r))) : News G L h (c ++ (x :: r)) := fun p hp => N p (by
  rcases List.mem_append.mp hp with hp | hp
  · exact List.mem_cons_of_mem _ (List.mem_append_left _ hp)
  · rcases List.mem_cons.mp hp with e | hp
    · rw [e]; exact List.mem_cons_self
    · exact List.mem_cons_of_mem _ (List.mem_append_right _ hp))
theorem news_rot2 {G h : Heap} {L : Addr} {c r : Led} {x y : Addr × Obj} (N : News G L h (x :: y :: (c ++ r))) : News G L h (c ++ (x :: y :: r)) := fun p hp => N p (by
  simp only [List.mem_append, List.mem_cons] at hp ⊢
  rcases hp with hp | hp | hp | hp <;> simp only [hp, true_or, or_true])
theorem news_rot3 {G h : Heap} {L : Addr} {c r : Led} {x y z : Addr × Obj} (N : News G L h (x :: y :: z :: (c ++ r))) : News G L h (c ++ (x :: y :: z :: r)) := fun p hp => N p (by
  simp only [List.mem_append, List.mem_cons] at hp ⊢
  rcases hp with hp | hp | hp | hp | hp <;> simp only [hp, true_or, or_true])
theorem news_end1 {G h : Heap} {L : Addr} {c r : Led} {x : Addr × Obj} (N : News G L h (x :: (c ++ r))) : News G L h (c ++ [x]) := fun p hp => N p (by
  rcases List.mem_append.mp hp with hp | hp
  · exact List.mem_cons_of_mem _ (List.mem_append_left _ hp)
  · rw [List.mem_singleton.mp hp]; exact List.mem_cons_self)
theorem news_end3 {G h : Heap} {L : Addr} {c r : Led} {x y z : Addr × Obj} (N : News G L h (x :: y :: z :: (c ++ r))) : News G L h (c ++ [x, y, z]) := fun p hp => N p (by
  rcases List.mem_append.mp hp with hp | hp
  · exact List.mem_cons_of_mem _ (List.mem_cons_of_mem _ (List.mem_cons_of_mem _ (List.mem_append_left _ hp)))
  · simp only [List.mem_cons, List.not_mem_nil, or_false] at hp
    rcases hp with rfl | rfl | rfl <;> simp)
theorem apart1 {c r : Led} {d : Addr} {o : Obj} (l : ∀ p ∈ c ++ r, p.1 < d) : Apart c [(d, o)] := Apart.nil.cons fun p hp => l p (List.mem_append_left _ hp)
theorem news_endL {G h : Heap} {L : Addr} {c rs r : Led} {x d : Addr × Obj} (N : News G L h (x :: (c ++ (d :: (rs ++ r))))) : News G L h (c ++ (x :: d :: rs)) := fun p hp => N p (by
  simp only [List.mem_append, List.mem_cons] at hp ⊢
  rcases hp with hp | hp | hp | hp <;> simp only [hp, true_or, or_true])
theorem len2 {α : Type} {l : List α} (h : l.length = 2) : ∃ a b, l = [a, b] := match l, h with | [a, b], _ => ⟨a, b, rfl⟩
theorem len3 {α : Type} {l : List α} (h : l.length = 3) : ∃ a b c, l = [a, b, c] := match l, h with | [a, b, c], _ => ⟨a, b, c, rfl⟩
theorem nl1 {G h : Heap} {L : Addr} {c f r : Led} {x : Addr × Obj} (N : News G L h (x :: (c ++ (f ++ r)))) : News G L h (c ++ (x :: f)) := fun p hp => N p (by
  simp only [List.mem_append, List.mem_cons] at hp ⊢
  rcases hp with hp | hp | hp <;> simp only [hp, true_or, or_true])
theorem nl3 {G h : Heap} {L : Addr} {c f r : Led} {x y z : Addr × Obj} (N : News G L h (x :: y :: z :: (c ++ (f ++ r)))) : News G L h (c ++ (x :: y :: z :: f)) := fun p hp => N p (by
  simp only [List.mem_append, List.mem_cons] at hp ⊢
  rcases hp with hp | hp | hp | hp | hp <;> simp only [hp, true_or, or_true])
theorem nl1_2 {G h : Heap} {L : Addr} {c f e r : Led} {x : Addr × Obj} (N : News G L h (x :: (c ++ (f ++ (e ++ r))))) : News G L h (c ++ (x :: (f ++ e))) := fun p hp => N p (by
  simp only [List.mem_append, List.mem_cons] at hp ⊢
  rcases hp with hp | hp | hp | hp <;> simp only [hp, true_or, or_true])
theorem nl2_2 {G h : Heap} {L : Addr} {c f e r : Led} {x y : Addr × Obj} (N : News G L h (x :: y :: (c ++ (f ++ (e ++ r))))) : News G L h (c ++ (x :: y :: (f ++ e))) := fun p hp => N p (by
  simp only [List.mem_append, List.mem_cons] at hp ⊢
  rcases hp with hp | hp | hp | hp | hp <;> simp only [hp, true_or, or_true])
theorem apart_drop1 {c f r : Led} (h : Apart c (f ++ r)) : Apart c f := h.sub (fun z9 h => h) fun z9 h => List.mem_append_left _ h
theorem apart_drop2 {c f e r : Led} (h : Apart c (f ++ (e ++ r))) : Apart c (f ++ e) := h.sub (fun z9 h => h) fun p hp => by
  rcases List.mem_append.mp hp with hp | hp
  · exact List.mem_append_left _ hp
  · exact List.mem_append_right _ (List.mem_append_left _ hp)
theorem apart_drop3 {c f e d r : Led} (h : Apart c (f ++ (e ++ (d ++ r)))) : Apart c (f ++ (e ++ d)) := h.sub (fun z9 h => h) fun p hp => by
  simp only [List.mem_append] at hp ⊢
  rcases hp with hp | hp | hp <;> simp only [hp, true_or, or_true]
theorem lt_of0 {c r : Led} {d : Addr} (h : ∀ p ∈ c ++ r, p.1 < d) : ∀ p ∈ c, @LT.lt Nat _ p.1 d := fun p hp => h p (List.mem_append_left _ hp)
theorem lt_of0' {c : Led} {d : Addr} (h : ∀ p ∈ c, p.1 < d) : ∀ p ∈ c, @LT.lt Nat _ p.1 d := h
theorem lt_ofA {c r : Led} {d : Addr} (h : AllLt d (c ++ r)) : ∀ p ∈ c, @LT.lt Nat _ p.1 d := fun p hp => allLt_mem h p (List.mem_append_left _ hp)
theorem lt_of1 {c r : Led} {d x : Addr} (h : @LT.lt Nat _ x d ∧ AllLt d (c ++ r)) : ∀ p ∈ c, @LT.lt Nat _ p.1 d := lt_ofA h.2
theorem lt_of2 {c r : Led} {d x y : Addr} (h : @LT.lt Nat _ x d ∧ @LT.lt Nat _ y d ∧ AllLt d (c ++ r)) : ∀ p ∈ c, @LT.lt Nat _ p.1 d := lt_ofA h.2.2
theorem lt_of3 {c r : Led} {d x y z : Addr} (h : @LT.lt Nat _ x d ∧ @LT.lt Nat _ y d ∧ @LT.lt Nat _ z d ∧ AllLt d (c ++ r)) : ∀ p ∈ c, @LT.lt Nat _ p.1 d := lt_ofA h.2.2.2
theorem apart_split {bw fz r : Led} (h : Apart (bw ++ fz) r) (h2 : Apart bw fz) : Apart bw (fz ++ r) := fun p hp q hq => (List.mem_append.mp hq).elim (h2 p hp q) fun hq => h p (List.mem_append_left _ hp) q hq
theorem apart_right {bw fz rs own : Led} (h : Apart (bw ++ fz) (rs ++ own)) : Apart fz own := fun p hp q hq => h p (List.mem_append_right _ hp) q (List.mem_append_right _ hq)
theorem news_assoc {G h : Heap} {L : Addr} {a b c : Led} (N : News G L h ((a ++ b) ++ c)) : News G L h (a ++ (b ++ c)) := by rw [List.append_assoc] at N; exact N
section
variable {w : World} {mean : ExcName → Option Value} {mg mb : Str → Option Value}
theorem useCS {G base : Heap} {f : Addr} {vs : List Value} {n nN : Nat} {ch rest : Led} {Post : Value → Led → Prop} {Ex : Int → Prop}
    {dp un : Nat} {gd : Option (List Code)} {frs : List Env} {A₀ : Around} {s : Shared} {Q E : Value → Shared → Prop} {C : Addr} {m : Str → Option Value}
    (B : Below A₀ base frs G) (F : Fr G C s.heap m) (N : News G C s.heap (ch ++ rest)) (X : (hd.heap_39 w.params).In G) (T : Top hd.view_39 LO mean mg mb G) (Ap : Apart ch rest)
    (hdp : dp + nN ≤ recursionLimit) (hun : un + 8 * nN ≤ cLine + 3) (hn : n < nN)
    (t : ∀ G₂, G.StaysIn G₂ → (∀ p ∈ rest, G₂.get? p.1 = some p.2) → Triple w mean mg mb G₂ f vs n ch Post Ex)
    (hret : ∀ r ch' h' tk', Fr G C h' m → News G C h' (ch' ++ rest) → Apart ch' rest → Post r ch' → Q r { s with heap := h', toks := tk' })
    (hexc : ∀ e ln h' tk', (∃ G₂, Fr G C G₂ m ∧ Exn base frs G₂ e ln h' ∧ G₂.UpToSlots h') → Ex ln → E (.ref e) { s with heap := h', toks := tk' }) :
    wpAny (model PG w) (arn dp un gd frs) (call (.ref f) vs) Q E s := by
  replace hdp : dp + n < recursionLimit := by lia
  replace hun : un + 8 * n < cLine := by lia
  have Nc : News G C s.heap ch := fun p hp => N p (List.mem_append_left _ hp)
  have hG : ∃ G₂, G₂ = hideAll s.heap (ch.map (·.1)) := ⟨_, rfl⟩
  obtain ⟨G₂, hG⟩ := hG
  have mk : ∀ b o, s.heap.get? b = some o → (∀ p ∈ ch, p.1 ≠ b) → G₂.get? b = some o := fun b o e hc => by
    rw [hG]
    refine hideAll_get _ e fun hm => ?_
    refine cps fun k_ => ?_
    obtain ⟨p, hp, q⟩ := List.mem_map.mp hm
    apply k_
    clear k_
    exact hc p hp q
  have st : G.StaysIn G₂ := fun b o e => mk b o (F.keep b o e) fun p hp q => by
    have := (Nc p hp).2.2; rw [q, e] at this; cases this
  have hr : ∀ p ∈ rest, G₂.get? p.1 = some p.2 := fun p hp => mk _ _ (N p (List.mem_append_right _ hp)).1 fun q hq e => Ap q hq p hp e
  refine cps fun k_ => ?_
  obtain ⟨oC, es, ep, hC, hCd, hCk, hCf⟩ := F.ns
  apply k_
  clear k_
  have gC : G₂.get? C = some oC := mk _ _ hC fun p hp => (Nc p hp).2.1
  have st2 : G₂.StaysIn s.heap := fun b o e => of_hideAll _ (hG ▸ e)
  have B₂ : Below (arn dp un gd frs) base frs G₂ := ⟨rfl, fun b o e => st b o (B.stays b o e), B.frames.of_keeps fun b o e z9 => ⟨o, st b o e, rfl⟩⟩
  have own : Own G₂ s.heap ch := fun p hp => ⟨(Nc p hp).1, by rw [hG]; exact hideAll_none _ (List.mem_map_of_mem hp)⟩
  refine t G₂ st hr B₂ (X.keeps st) (T.keeps st) hdp hun st2 (by rw [hG]; exact Nat.le_of_eq (hideAll_size _ _)) own (fun r ch' h' tk' k1 k2 k3 => ?_) fun e ln h' tk' k1 k2 k3 =>
    hexc e ln h' tk' ⟨G₂, ⟨⟨oC, es, ep, gC, hCd, hCk, hCf⟩, st, F.above⟩, k1, k2⟩ k3
  refine hret r ch' h' tk' ⟨⟨oC, es, ep, k1 _ _ gC, hCd, hCk, hCf⟩, fun b o e => k1 b o (st b o e), F.above⟩ (fun p hp => ?_) (fun p hp q hq e => ?_) k3
  · rcases List.mem_append.mp hp with hp | hp
    · refine ⟨(k2 p hp).1, fun e => ?_, none_of st (k2 p hp).2⟩
      have := (k2 p hp).2; rw [e, gC] at this; cases this
    · exact ⟨k1 _ _ (hr p hp), (N p (List.mem_append_right _ hp)).2⟩
  · have := (k2 p hp).2; rw [e, hr q hq] at this; cases this
theorem useC {G base : Heap} {f : Addr} {vs : List Value} {n nN : Nat} {ch rest : Led} {Post : Value → Led → Prop} {Ex : Int → Prop}
    {dp un : Nat} {gd : Option (List Code)} {frs : List Env} {A₀ : Around} {s : Shared} {hp : Heap} {tk : Nat} {Q E : Value → Shared → Prop} {C : Addr} {m : Str → Option Value}
    (B : Below A₀ base frs G) (F : Fr G C hp m) (N : News G C hp (ch ++ rest)) (X : (hd.heap_39 w.params).In G) (T : Top hd.view_39 LO mean mg mb G) (Ap : Apart ch rest)
    (hdp : dp + nN ≤ recursionLimit) (hun : un + 8 * nN ≤ cLine + 3) (hn : n < nN)
    (t : ∀ G₂, G.StaysIn G₂ → (∀ p ∈ rest, G₂.get? p.1 = some p.2) → Triple w mean mg mb G₂ f vs n ch Post Ex)
    (hret : ∀ r ch' h' tk', Fr G C h' m → News G C h' (ch' ++ rest) → Apart ch' rest → Post r ch' → Q r { s with heap := h', toks := tk' })
    (hexc : ∀ e ln h' tk', (∃ G₂, Fr G C G₂ m ∧ Exn base frs G₂ e ln h' ∧ G₂.UpToSlots h') → Ex ln → E (.ref e) { s with heap := h', toks := tk' }) :
    wpAny (model PG w) (arn dp un gd frs) (call (.ref f) vs) Q E { s with heap := hp, toks := tk } := useCS (s := { s with heap := hp, toks := tk }) B F N X T Ap hdp hun hn t hret hexc
theorem cname_L {M : Model} {A : Around} {E : Value → Shared → Prop} {s : Shared} {G : Heap} {C : Addr} {m : Str → Option Value} {scope : Scope} {cl : List (Str × Addr)} {env : Env} {x : Str} {pos : Pos} {v : Value} {Q : Value → Shared → Prop}
    (F : Fr G C s.heap m) (hv : m x = some v) (h : Q v s) (hk : scope.kind = .function := by rfl) (hx : (compEnvC scope cl C env).kindOf x = some .local := by rfl) (hd : (x == ("__debug__" : Str)) = false := by decide) :
    wpAny M A (eval (.Name x pos) (compEnvC scope cl C env)) Q E s := wpAny_Name (wpAny_loadName_local hk hx F.ns hv h) hd
theorem cname_C {M : Model} {A : Around} {E : Value → Shared → Prop} {s : Shared} {G : Heap} {C : Addr} {m : Str → Option Value} {scope : Scope} {cl : List (Str × Addr)} {env : Env} {x : Str} {pos : Pos} {v : Value} {Q : Value → Shared → Prop} {c : Addr} {o : Obj}
    (F : Fr G C s.heap m) (hc : cl.lookup x = some c) (ho : G.get? c = some o) (hd : o.data = .cell (some v)) (h : Q v s) (hk : scope.kind = .function := by rfl) (hx : (compEnvC scope cl C env).kindOf x = some .cell := by rfl) (hb : (x == ("__debug__" : Str)) = false := by decide) :
    wpAny M A (eval (.Name x pos) (compEnvC scope cl C env)) Q E s := wpAny_Name (wpAny_loadName_cell hk hx hc ⟨o, F.keep _ _ ho, hd⟩ h) hb
section
variable {dp un : Nat} {gd : Option (List Code)} {frs : List Env} {base G : Heap} {env : Env} {scope : Scope} {cl : List (Str × Addr)} {x : Str} {elt : PySem.Expr} {Ex : Int → Prop} {Q : Value → Shared → Prop} {E : Value → Shared → Prop}
  {m : Str → Option Value} {ch rest : Led} {J : Nat → Led → Led → List Value → Prop} {s : Shared}
def CompDone (env : Env) (G : Heap) (m : Str → Option Value) (rest : Led) (n : Nat) (J : Nat → Led → Led → List Value → Prop) (Q : Value → Shared → Prop) (s : Shared) : Prop :=
  ∀ D ch' rs ys k h' tk', ys.length = n → J n ch' rs ys → Fr G env.locals h' m → News G env.locals h' (ch' ++ ((D, lstX ys k) :: (rs ++ rest))) → Apart ch' ((D, lstX ys k) :: (rs ++ rest)) → Q (.ref D) { s with heap := h', toks := tk' }
theorem comp_at_rangeS {r : Addr} {n : Nat} {t u v : Tok} (F : Fr G env.locals s.heap m) (N : News G env.locals s.heap (ch ++ rest)) (Ap : Apart ch rest) (hr : IsRange s.heap r 0 n 1 t u v) (hn : n ≤ 1000) (hJ : J 0 ch [] [])
    (turn : ∀ h₂ tk₂, CompTurn w mean mg mb dp un gd frs base G env scope cl x elt Ex n (fun i v => ∃ t, v = .int (0 + (i : Nat) * 1) t) rest J { s with heap := h₂, toks := tk₂ })
    (done : CompDone env G m rest n J Q s) :
    wpAny (model PG w) (arn dp un gd (env :: frs)) (pyIter (.ref r)) (fun it s₂ => (∃ h₂ tk₂, s₂ = { s with heap := h₂, toks := tk₂ }) ∧ CompAtG w mean mg mb dp un gd frs base G env scope cl x elt [] Ex Q it s₂) E s := by
  refine wpAny_pyIter_range hr (small_one (by lia) (by lia) (by lia) (by lia)) ?_
  have sz : Builtin.Range.rangeSize 0 (n : Int) 1 = n := by rw [rangeSize_one]; split <;> lia
  rw [sz]
  generalize hI : s.heap.objs.size = I
  generalize hh : s.heap.push { cls := .type "range_iterator", data := .fields #[rawInt 0, rawInt (n : Int), rawInt 1] } = h₂
  have up : ∀ b o, s.heap.get? b = some o → h₂.get? b = some o := fun b o e => by rw [← hh]; exact Heap.get?_push_of_some _ e
  have hlt : ∀ b o, s.heap.get? b = some o → b ≠ I := fun b o e q => absurd (Heap.lt_size e) (by rw [hI, q]; exact Nat.lt_irrefl _)
  refine cps fun k_ => ?_
  obtain ⟨oL, es, ep, hL, hr'⟩ := F.ns
  apply k_
  clear k_
  refine ⟨⟨h₂, s.toks, rfl⟩, I, [I], n, _, _, m, ch, rest, (fun i ch rs ys => J i ch rs ys ∧ ys.length = i), rfl, Walks.range rfl I 0 1 n, hn, ?_, fun i h st => ⟨_, st⟩, ⟨⟨oL, es, ep, up _ _ hL, hr'⟩, fun b o e => up b o (F.keep b o e), F.above⟩, fun p hp => ⟨up _ _ (N p hp).1, (N p hp).2⟩, Ap, ?_, (hlt _ _ hL).symm, fun p hp => hlt _ _ (N p hp).1,
    fun b hb => .inl (List.mem_singleton.mp hb), ⟨hJ, rfl⟩, (turn h₂ s.toks).toG, fun D ch' rs ys k h' tk' a b c d e => done D ch' rs ys k h' tk' b.2 b.1 c d e⟩
  · show IsRangeIter h₂ I (0 + ((0 : Nat) : Int) * 1) ((n : Int) - ((0 : Nat) : Int)) 1
    rw [← hh, ← hI]
    simp only [Int.ofNat_zero, Int.zero_mul, Int.add_zero, Int.sub_zero]
    exact Heap.get?_push_size _ rfl
  · cases q : G.get? I with
    | none => rfl
    | some o => exact absurd rfl (hlt _ _ (F.keep _ _ q))
theorem comp_at_range {hp : Heap} {tk : Nat} {r : Addr} {n : Nat} {t u v : Tok} (F : Fr G env.locals hp m) (N : News G env.locals hp (ch ++ rest)) (Ap : Apart ch rest) (hr : IsRange hp r 0 n 1 t u v) (hn : n ≤ 1000) (hJ : J 0 ch [] [])
    (turn : ∀ h₂ tk₂, CompTurn w mean mg mb dp un gd frs base G env scope cl x elt Ex n (fun i v => ∃ t, v = .int (0 + (i : Nat) * 1) t) rest J { s with heap := h₂, toks := tk₂ })
    (done : CompDone env G m rest n J Q s) :
    wpAny (model PG w) (arn dp un gd (env :: frs)) (pyIter (.ref r)) (fun it s₂ => (∃ h₂ tk₂, s₂ = { s with heap := h₂, toks := tk₂ }) ∧ CompAtG w mean mg mb dp un gd frs base G env scope cl x elt [] Ex Q it s₂) E { s with heap := hp, toks := tk } := comp_at_rangeS (s := { s with heap := hp, toks := tk }) F N Ap hr hn hJ turn done
theorem comp_at_listS {l : Addr} {items : Array Value} (F : Fr G env.locals s.heap m) (N : News G env.locals s.heap (ch ++ rest)) (Ap : Apart ch rest) (hl : s.heap.IsList l items) (hlc : ∀ p ∈ ch, p.1 ≠ l) (hn : items.size ≤ 1000) (hJ : J 0 ch [] [])
    (turn : ∀ h₂ tk₂, CompTurn w mean mg mb dp un gd frs base G env scope cl x elt Ex items.size (fun i v => items[i]? = some v) rest J { s with heap := h₂, toks := tk₂ })
    (done : CompDone env G m rest items.size J Q s) :
    wpAny (model PG w) (arn dp un gd (env :: frs)) (pyIter (.ref l)) (fun it s₂ => (∃ h₂ tk₂, s₂ = { s with heap := h₂, toks := tk₂ }) ∧ CompAtG w mean mg mb dp un gd frs base G env scope cl x elt [] Ex Q it s₂) E s := by
  refine wpAny_pyIter_list hl ?_
  generalize hI : s.heap.objs.size = I
  generalize hh : s.heap.push { cls := .type "list_iterator", data := .fields #[.ref l, .int 0 0] } = h₂
  have up : ∀ b o, s.heap.get? b = some o → h₂.get? b = some o := fun b o e => by rw [← hh]; exact Heap.get?_push_of_some _ e
  have hlt : ∀ b o, s.heap.get? b = some o → b ≠ I := fun b o e q => absurd (Heap.lt_size e) (by rw [hI, q]; exact Nat.lt_irrefl _)
  refine cps fun k_ => ?_
  obtain ⟨oL, es, ep, hL, hr'⟩ := F.ns
  apply k_
  clear k_
  refine cps fun k_ => ?_
  obtain ⟨ol, hol, _⟩ := id hl
  apply k_
  clear k_
  refine ⟨⟨h₂, s.toks, rfl⟩, I, [I, l], items.size, _, _, m, ch, rest, (fun i ch rs ys => J i ch rs ys ∧ ys.length = i), rfl, Walks.list rfl I l (hlt _ _ hol) items, hn, ⟨⟨_, by rw [← hh, ← hI]; exact Heap.get?_push_size _ rfl, rfl, rfl⟩, hl.at fun o e => up _ _ e⟩,
    fun i h st => let ⟨o, ho, _⟩ := st.1; ⟨o, ho⟩, ⟨⟨oL, es, ep, up _ _ hL, hr'⟩, fun b o e => up b o (F.keep b o e), F.above⟩, fun p hp => ⟨up _ _ (N p hp).1, (N p hp).2⟩, Ap, ?_, (hlt _ _ hL).symm, fun p hp => hlt _ _ (N p hp).1,
    fun b hb => ?_, ⟨hJ, rfl⟩, (turn h₂ s.toks).toG, fun D ch' rs ys k h' tk' a b c d e => done D ch' rs ys k h' tk' b.2 b.1 c d e⟩
  · cases q : G.get? I with
    | none => rfl
    | some o => exact absurd rfl (hlt _ _ (F.keep _ _ q))
  · rcases List.mem_cons.mp hb with q | hb
    · exact .inl q
    · rw [List.mem_singleton.mp hb]; exact .inr ⟨⟨ol, up _ _ hol⟩, hlc⟩
theorem comp_at_list {hp : Heap} {tk : Nat} {l : Addr} {items : Array Value} (F : Fr G env.locals hp m) (N : News G env.locals hp (ch ++ rest)) (Ap : Apart ch rest) (hl : hp.IsList l items) (hlc : ∀ p ∈ ch, p.1 ≠ l) (hn : items.size ≤ 1000) (hJ : J 0 ch [] [])
    (turn : ∀ h₂ tk₂, CompTurn w mean mg mb dp un gd frs base G env scope cl x elt Ex items.size (fun i v => items[i]? = some v) rest J { s with heap := h₂, toks := tk₂ })
    (done : CompDone env G m rest items.size J Q s) :
    wpAny (model PG w) (arn dp un gd (env :: frs)) (pyIter (.ref l)) (fun it s₂ => (∃ h₂ tk₂, s₂ = { s with heap := h₂, toks := tk₂ }) ∧ CompAtG w mean mg mb dp un gd frs base G env scope cl x elt [] Ex Q it s₂) E { s with heap := hp, toks := tk } := comp_at_listS (s := { s with heap := hp, toks := tk }) F N Ap hl hlc hn hJ turn done
end
section
variable {dp un : Nat} {gd : Option (List Code)} {frs : List Env} {G : Heap} {env : Env} {target : PySem.Expr} {body : List Stmt} {Q : Flow → Shared → Prop} {E : Value → Shared → Prop}
  {m : Str → Option Value} {led : Led} {J : Nat → (Str → Option Value) → Led → Prop} {s : Shared}
def ForEnd (G : Heap) (env : Env) (Q : Flow → Shared → Prop) (I : Addr) (own : Led) (J : Nat → (Str → Option Value) → Led → Prop) (i : Nat) (oI : Obj) (s₂ : Shared) (R : Flow → Shared → Prop) : Prop :=
  ∀ f s₄, (match f with
      | .next | .cont => ∃ m₂ led₂ h' tk', s₄ = { s₂ with heap := h', toks := tk' } ∧ Fr G env.locals h' m₂ ∧ News G env.locals h' ((I, oI) :: (own ++ led₂)) ∧ (∀ p ∈ led₂, p.1 ≠ I) ∧ J (i + 1) m₂ led₂
      | .brk => Q .next s₄
      | .ret v => Q (.ret v) s₄) → R f s₄
theorem ForEnd.ret {I : Addr} {own : Led} {i : Nat} {oI : Obj} {s₂ s' : Shared} {R : Flow → Shared → Prop} {v : Value} (x : ForEnd G env Q I own J i oI s₂ R) (h : Q (.ret v) s') : R (.ret v) s' := x _ _ h
def ForTurn (w : World) (dp un : Nat) (gd : Option (List Code)) (frs : List Env) (G : Heap) (env : Env) (target : PySem.Expr) (body : List Stmt) (Q : Flow → Shared → Prop) (E : Value → Shared → Prop) (I : Addr) (n : Nat) (P : Nat → Value → Prop) (own : Led)
    (J : Nat → (Str → Option Value) → Led → Prop) (s₂ : Shared) : Prop :=
  ∀ i v h tk m₁ led₁ oI, i < n → P i v → J i m₁ led₁ → Fr G env.locals h m₁ → News G env.locals h ((I, oI) :: (own ++ led₁)) → (∀ p ∈ led₁, p.1 ≠ I) →
    ∀ R, ForEnd G env Q I own J i oI s₂ R → wpAny (model PG w) (arn dp un gd frs) (assign target env v) (kFb (model PG w) (arn dp un gd frs) E env body R) E { s₂ with heap := h, toks := tk }
theorem ForTurn.raw {w : World} {I : Addr} {n : Nat} {P : Nat → Value → Prop} {own : Led} {s₂ : Shared} (t : ForTurn w dp un gd frs G env target body Q E I n P own J s₂) :
  ∀ i v h tk m₁ led₁ oI, i < n → P i v → J i m₁ led₁ → Fr G env.locals h m₁ → News G env.locals h ((I, oI) :: (own ++ led₁)) → (∀ p ∈ led₁, p.1 ≠ I) →
    wpAny (model PG w) (arn dp un gd frs) (assign target env v) (fun z9 s₃ => wpAny (model PG w) (arn dp un gd frs) (execs body env) (fun f s₄ => match f with
      | .next | .cont => ∃ m₂ led₂ h' tk', s₄ = { s₂ with heap := h', toks := tk' } ∧ Fr G env.locals h' m₂ ∧ News G env.locals h' ((I, oI) :: (own ++ led₂)) ∧ (∀ p ∈ led₂, p.1 ≠ I) ∧ J (i + 1) m₂ led₂
      | .brk => Q .next s₄
      | .ret v => Q (.ret v) s₄) E s₃) E { s₂ with heap := h, toks := tk } := fun i v h tk m₁ led₁ oI a b c d e f => t i v h tk m₁ led₁ oI a b c d e f _ fun f z9 x => x
theorem for_at_rangeS {r : Addr} {n : Nat} {t u v : Tok} (F : Fr G env.locals s.heap m) (N : News G env.locals s.heap led) (hr : IsRange s.heap r 0 n 1 t u v) (hn : n ≤ 1000) (hJ : J 0 m led)
    (turn : ∀ I h₂ tk₂, ForTurn w dp un gd frs G env target body Q E I n (fun i v => ∃ t, v = .int (0 + (i : Nat) * 1) t) [] J { s with heap := h₂, toks := tk₂ })
    (done : ∀ m' led' h' tk', J n m' led' → Fr G env.locals h' m' → News G env.locals h' led' → Q .next { s with heap := h', toks := tk' }) (ht : ∀ it v, letOwnedTupleGo target it v = pure () := by intro _ _; rfl) :
    wpAny (model PG w) (arn dp un gd frs) (pyIter (.ref r)) (fun it s₂ => (∃ h₂ tk₂, s₂ = { s with heap := h₂, toks := tk₂ }) ∧ ForAt w dp un gd frs G env target body Q E it s₂) E s := by
  refine wpAny_pyIter_range hr (small_one (by lia) (by lia) (by lia) (by lia)) ?_
  have sz : Builtin.Range.rangeSize 0 (n : Int) 1 = n := by rw [rangeSize_one]; split <;> lia
  rw [sz]
  generalize hI : s.heap.objs.size = I
  generalize hh : s.heap.push { cls := .type "range_iterator", data := .fields #[rawInt 0, rawInt (n : Int), rawInt 1] } = h₂
  have up : ∀ b o, s.heap.get? b = some o → h₂.get? b = some o := fun b o e => by rw [← hh]; exact Heap.get?_push_of_some _ e
  have hlt : ∀ b o, s.heap.get? b = some o → b ≠ I := fun b o e q => absurd (Heap.lt_size e) (by rw [hI, q]; exact Nat.lt_irrefl _)
  refine cps fun k_ => ?_
  obtain ⟨oL, es, ep, hL, hr'⟩ := F.ns
  apply k_
  clear k_
  refine ⟨⟨h₂, s.toks, rfl⟩, I, [I], n, _, _, m, [], led, J, rfl, fun i h tk v Q' E' hi st hq => by rw [ht]; exact wpAny_pure hq, Walks.range rfl I 0 1 n, ?_, fun i h st => ⟨_, st⟩, ⟨⟨oL, es, ep, up _ _ hL, hr'⟩, fun b o e => up b o (F.keep b o e), F.above⟩, fun p hp => ⟨up _ _ (N p hp).1, (N p hp).2⟩, ?_, (hlt _ _ hL).symm, fun p hp => hlt _ _ (N p hp).1,
    fun b hb => .inl (List.mem_singleton.mp hb), hJ, (turn I h₂ s.toks).raw, fun m' led' h' tk' a b c => done m' led' h' tk' a b c⟩
  · show IsRangeIter h₂ I (0 + ((0 : Nat) : Int) * 1) ((n : Int) - ((0 : Nat) : Int)) 1
    rw [← hh, ← hI]
    simp only [Int.ofNat_zero, Int.zero_mul, Int.add_zero, Int.sub_zero]
    exact Heap.get?_push_size _ rfl
  · cases q : G.get? I with
    | none => rfl
    | some o => exact absurd rfl (hlt _ _ (F.keep _ _ q))
theorem for_at_range {hp : Heap} {tk : Nat} {r : Addr} {n : Nat} {t u v : Tok} (F : Fr G env.locals hp m) (N : News G env.locals hp led) (hr : IsRange hp r 0 n 1 t u v) (hn : n ≤ 1000) (hJ : J 0 m led)
    (turn : ∀ I h₂ tk₂, ForTurn w dp un gd frs G env target body Q E I n (fun i v => ∃ t, v = .int (0 + (i : Nat) * 1) t) [] J { s with heap := h₂, toks := tk₂ })
    (done : ∀ m' led' h' tk', J n m' led' → Fr G env.locals h' m' → News G env.locals h' led' → Q .next { s with heap := h', toks := tk' }) (ht : ∀ it v, letOwnedTupleGo target it v = pure () := by intro _ _; rfl) :
    wpAny (model PG w) (arn dp un gd frs) (pyIter (.ref r)) (fun it s₂ => (∃ h₂ tk₂, s₂ = { s with heap := h₂, toks := tk₂ }) ∧ ForAt w dp un gd frs G env target body Q E it s₂) E { s with heap := hp, toks := tk } := for_at_rangeS (s := { s with heap := hp, toks := tk }) F N hr hn hJ turn done ht
theorem for_at_listS {l : Addr} {items : Array Value} {own : Led} (F : Fr G env.locals s.heap m) (N : News G env.locals s.heap (own ++ led)) (hl : s.heap.IsList l items) (hlo : (∃ o, G.get? l = some o) ∨ ∃ o, (l, o) ∈ own) (hJ : J 0 m led)
    (turn : ∀ I h₂ tk₂, ForTurn w dp un gd frs G env target body Q E I items.size (fun i v => items[i]? = some v) own J { s with heap := h₂, toks := tk₂ })
    (done : ∀ m' led' h' tk', J items.size m' led' → Fr G env.locals h' m' → News G env.locals h' (own ++ led') → Q .next { s with heap := h', toks := tk' }) (ht : ∀ it v, letOwnedTupleGo target it v = pure () := by intro _ _; rfl) :
    wpAny (model PG w) (arn dp un gd frs) (pyIter (.ref l)) (fun it s₂ => (∃ h₂ tk₂, s₂ = { s with heap := h₂, toks := tk₂ }) ∧ ForAt w dp un gd frs G env target body Q E it s₂) E s := by
  refine wpAny_pyIter_list hl ?_
  generalize hI : s.heap.objs.size = I
  generalize hh : s.heap.push { cls := .type "list_iterator", data := .fields #[.ref l, .int 0 0] } = h₂
  have up : ∀ b o, s.heap.get? b = some o → h₂.get? b = some o := fun b o e => by rw [← hh]; exact Heap.get?_push_of_some _ e
  have hlt : ∀ b o, s.heap.get? b = some o → b ≠ I := fun b o e q => absurd (Heap.lt_size e) (by rw [hI, q]; exact Nat.lt_irrefl _)
  refine cps fun k_ => ?_
  obtain ⟨oL, es, ep, hL, hr'⟩ := F.ns
  apply k_
  clear k_
  refine cps fun k_ => ?_
  obtain ⟨ol, hol, _⟩ := id hl
  apply k_
  clear k_
  refine ⟨⟨h₂, s.toks, rfl⟩, I, [I, l], items.size, _, _, m, own, led, J, rfl, fun i h tk v Q' E' hi st hq => by rw [ht]; exact wpAny_pure hq, Walks.list rfl I l (hlt _ _ hol) items, ⟨⟨_, by rw [← hh, ← hI]; exact Heap.get?_push_size _ rfl, rfl, rfl⟩, hl.at fun o e => up _ _ e⟩,
    fun i h st => let ⟨o, ho, _⟩ := st.1; ⟨o, ho⟩, ⟨⟨oL, es, ep, up _ _ hL, hr'⟩, fun b o e => up b o (F.keep b o e), F.above⟩, fun p hp => ⟨up _ _ (N p hp).1, (N p hp).2⟩, ?_, (hlt _ _ hL).symm, fun p hp => hlt _ _ (N p hp).1,
    fun b hb => ?_, hJ, (turn I h₂ s.toks).raw, fun m' led' h' tk' a b c => done m' led' h' tk' a b c⟩
  · cases q : G.get? I with
    | none => rfl
    | some o => exact absurd rfl (hlt _ _ (F.keep _ _ q))
  · rcases List.mem_cons.mp hb with q | hb
    · exact .inl q
    · rw [List.mem_singleton.mp hb]; exact .inr hlo
theorem for_at_list {hp : Heap} {tk : Nat} {l : Addr} {items : Array Value} {own : Led} (F : Fr G env.locals hp m) (N : News G env.locals hp (own ++ led)) (hl : hp.IsList l items) (hlo : (∃ o, G.get? l = some o) ∨ ∃ o, (l, o) ∈ own) (hJ : J 0 m led)
    (turn : ∀ I h₂ tk₂, ForTurn w dp un gd frs G env target body Q E I items.size (fun i v => items[i]? = some v) own J { s with heap := h₂, toks := tk₂ })
    (done : ∀ m' led' h' tk', J items.size m' led' → Fr G env.locals h' m' → News G env.locals h' (own ++ led') → Q .next { s with heap := h', toks := tk' }) (ht : ∀ it v, letOwnedTupleGo target it v = pure () := by intro _ _; rfl) :
    wpAny (model PG w) (arn dp un gd frs) (pyIter (.ref l)) (fun it s₂ => (∃ h₂ tk₂, s₂ = { s with heap := h₂, toks := tk₂ }) ∧ ForAt w dp un gd frs G env target body Q E it s₂) E { s with heap := hp, toks := tk } := for_at_listS (s := { s with heap := hp, toks := tk }) F N hl hlo hJ turn done ht
end
end
local macro_rules | `(tactic| walk_at "call ref") => `(tactic| refine halt_ref ?_ (by with_unfolding_all rfl))
local macro_rules | `(tactic| walk_at "compareOp In str ref") => `(tactic| refine halt_in ?_ (by with_unfolding_all rfl))
inductive BowlIs (w : World) (b : Addr) (ch : Led) (t left : Int) : Prop
  | mk (cc : _) (ob : _) (cells : _) (ns : _) (tk1 : _) (tk2 : _) (h1_ : ch = [(b, ob), (cc, ({ cls := .type "list", data := .seq (List.toArray cells) } : Obj))]) (h2_ : @Ne Nat b cc) (h3_ : (b == sysModules) = false) (h4_ : IntsAre cells ns) (h5_ : ob.IsDictOf (strKind PG w) [("cells", .ref cc), ("thrown", .int t tk1), ("left", .int left tk2)]) (h6_ : cells.length ≤ 60) : BowlIs w b ch t left
section
variable {w : World} {mean : ExcName → Option Value} {mg mb : Str → Option Value} {G : Heap} {ch : Led} {b : Addr} {t left : Int}
local macro_rules | `(tactic| walk_at "call builtin:len") => `(tactic| k_dflt (refine len_list (News.isList (by k_memK) (by k_mem)) (by simp only [List.size_toArray]; omega) ?_))
theorem fmod_lo {x d : Int} (h : 1 ≤ d) : 0 ≤ x.fmod d := Int.fmod_nonneg_of_pos _ (by omega)
theorem fmod_hi {x d : Int} (h : 1 ≤ d) : x.fmod d < d := Int.fmod_lt_of_pos _ (by omega)
theorem throw_ok {sd : Int} {tk : Tok} (hb : BowlIs w b ch t left) (ht : 0 ≤ t) (ht2 : t ≤ 10000) (h1 : 1 ≤ sd) (h2 : sd ≤ 100) :
    Triple w mean mg mb G 305 [.ref b, .int sd tk] 1 ch (fun r ch' => ∃ v tk, r = .int v tk ∧ 0 ≤ v ∧ v < sd ∧ BowlIs w b ch' (t + 1) left) No := by
  obtain ⟨cc, ob, cells, ns, tk1, tk2, rfl, hne, hlo, hI, hob, hlen⟩ := hb
  refine' enter ?k6 ?k7 ?k9 ?kB ?_ ?kn ?c5 ?c2 ?c3 ?c4
  case k6 => k_is
  case k7 => k_is
  case k9 => exact rfl
  case kB => exact locs rfl
  case kn => omega
  case c5 => decide
  case c2 => exact rfl
  case c3 => exact rfl
  case c4 => exact rfl
  k_whole
  intro dp un gd frs base A₀ s L h₁ tk₁ Qb Eb B X T hdp hun F N hlt hret hexc hown
  (try dsimp only [kRe, kS])
  k_steps
  all_goals (try dsimp only [kRe, kS])
  all_goals (try (refine hret _ _ _ _ _ (by assumption) (by assumption) ?_))
  all_goals clear hret hexc hown B X T
  all_goals (exact ⟨_, _, rfl, fmod_lo h1, fmod_hi h1, cc, _, cells, ns, _, tk2, rfl, hne, hlo, hI, by assumption, hlen⟩)
theorem throw_use {base : Heap} {dp un nN : Nat} {gd : Option (List Code)} {outer : List Env} {env : Env} {A₀ : Around} {s : Shared} {Q E : Value → Shared → Prop} {L : Addr} {m : Str → Option Value} {rest : Led} {sd : Int} {tk : Tok}
    (B : Below A₀ base outer G) (F : Fr G L s.heap m) (N : News G L s.heap (ch ++ rest)) (X : (hd.heap_39 w.params).In G) (T : Top hd.view_39 LO mean mg mb G) (Ap : Apart ch rest)
    (hf : env.frame = some L) (hke : env.scope.kind = .function) (hdp : dp + nN ≤ recursionLimit) (hun : un + 8 * nN ≤ cLine + 3) (hn : 1 < nN)
    (hb : BowlIs w b ch t left) (ht : 0 ≤ t) (ht2 : t ≤ 10000) (h1 : 1 ≤ sd) (h2 : sd ≤ 100)
    (hq : ∀ ch' h' tk', Fr G L h' m → News G L h' (ch' ++ rest) → Apart ch' rest → ∀ v tk, 0 ≤ v → v < sd → BowlIs w b ch' (t + 1) left → Q (.int v tk) { s with heap := h', toks := tk' }) :
    wpAny (model PG w) (arn dp un gd (env :: outer)) (call (.ref 305) [.ref b, .int sd tk]) Q E s :=
  use B F N X T Ap hf hke hdp hun hn (fun G₂ z9 z9 => throw_ok hb ht ht2 h1 h2) (fun r ch' h' tk' F' N' A' ⟨v, tk, e, lo, hi, hb'⟩ => e ▸ hq ch' h' tk' F' N' A' v tk lo hi hb') (fun z9 z9 z9 z9 z9 h => h.elim)
end
theorem getD_mem' {l : List Str} {n : Nat} (h : n < l.length) : l.getD n Str.empty ∈ l := by
  rw [List.getD_eq_getElem?_getD, List.getElem?_eq_getElem h]; exact List.getElem_mem h
theorem pick_of {v : Int} {l : List Value} {names : List Str} (h0 : 0 ≤ v) (h1 : v < l.length)
    (hx : ∀ x ∈ l, ∃ y t, x = Value.str y t ∧ y ∈ names) : ∃ y t, l[v.toNat]? = some (Value.str y t) ∧ y ∈ names := by
  have hlt : v.toNat < l.length := by lia
  refine cps fun k_ => ?_
  obtain ⟨y, t, e, m⟩ := hx _ (List.getElem_mem hlt)
  apply k_
  clear k_
  exact ⟨y, t, (List.getElem?_eq_getElem hlt).trans (congrArg some e), m⟩
section
variable {w : World} {mean : ExcName → Option Value} {mg mb : Str → Option Value} {G : Heap} {ch : Led} {b : Addr} {t left : Int}
theorem plain_item {A : Around} {s : Shared} {E Q : Value → Shared → Prop} {L : Addr} {m : Str → Option Value} {value slice : PySem.Expr} {v : Int} {u : Tok} (F : Fr G L s.heap m) (X : (hd.heap_39 w.params).In G) (h0 : 0 ≤ v) (h1 : v < 4)
    (h : ∀ x tk, x ∈ plainNames → Q (.str x tk) s)
    (hs : subscripted slice false (.ref 297) (.int v u) = operate [.ref 297, .int v u] (getItem (.ref 297) (.int v u)) := by with_unfolding_all rfl) :
    wpAny (model PG w) A (subscriptTail value slice (.ref 297) (.int v u)) Q E s := by
  have key : ∀ {l : List Value} {dd : Option Addr} {sl : Array (Option Value)} {n : Nat}, (hd.heap_39 w.params).lookup 297 = some ⟨.type "tuple", dd, .seq l.toArray n, sl⟩ → l.length = 4 → (∀ x ∈ l, ∃ y t, x = Value.str y t ∧ y ∈ plainNames) →
      wpAny (model PG w) A (subscriptTail value slice (.ref 297) (.int v u)) Q E s := fun {l dd sl n} hl hn hx => by
    refine cps fun k_ => ?_
    obtain ⟨y, t, e, m⟩ := pick_of (l := l) h0 (by lia) hx
    apply k_
    clear k_
    exact topTup_K (j := v.toNat) F X hl (by lia) (by lia) (by simp only [seqIndex?]; rw [hn]; simp; lia) e (h y t m) hs
  refine' key ?k1 ?k2 ?k3
  case k1 => k_dflt k_is
  case k2 => exact rfl
  case k3 =>
    intro x hx
    simp only [List.mem_cons, List.not_mem_nil, or_false] at hx
    rcases hx with rfl | rfl | rfl | rfl <;> exact ⟨_, _, rfl, by decide⟩
local macro_rules | `(tactic| walk_at "call ref") => `(tactic| (k_here; k_dflt (refine throw_use (by assumption) (by assumption) (by assumption) (by assumption) (by assumption) (by first | exact Apart.nil | assumption) (by exact rfl) (by exact rfl) (by assumption) (by assumption) (by first | exact Nat.lt_succ_self _ | lia) (by assumption) (by lia) (by lia) (by lia) (by lia) ?_; intro ch' h' tk' F' N' Ap' v' tk'' lo' hi' hb'; (try k_sweep))))
local macro_rules | `(tactic| walk_at "no") => `(tactic| skip)
theorem name_ok (hb : BowlIs w b ch t left) (ht : 0 ≤ t) (ht2 : t + 2 ≤ 10000) :
    Triple w mean mg mb G 312 [.ref b] 2 ch (fun r ch' => ∃ x tk t', r = .str x tk ∧ x ∈ allNames ∧ t ≤ t' ∧ t' ≤ t + 2 ∧ BowlIs w b ch' t' left) No := by
  refine' enter (binds := [("bowl", .ref b)]) ?k6 ?k7 ?k9 ?kB ?_ ?kn ?c5 ?c2 ?c3 ?c4
  case k6 => k_is
  case k7 => k_is
  case k9 => exact rfl
  case kB => exact locs rfl
  case kn => lia
  case c5 => decide
  case c2 => exact rfl
  case c3 => exact rfl
  case c4 => exact rfl
  k_whole
  intro dp un gd frs base A₀ s L h₁ tk₁ Qb Eb B X T hdp hun F N hlt hret hexc hown
  (try dsimp only [kRe, kS])
  replace N := news_nilr N
  k_steps
  all_goals (try dsimp only [kRe, kS])
  all_goals (refine hret _ _ _ _ _ (by assumption) (news_unnil (by assumption)) ⟨_, _, t + 1 + 1, rfl, ?_, by lia, by lia, by assumption⟩)
  · exact List.mem_append_right _ (getD_mem' (l := mainNames) (by show _ < 9; lia))
  all_goals decide
theorem name_use {base : Heap} {dp un nN : Nat} {gd : Option (List Code)} {outer : List Env} {env : Env} {A₀ : Around} {s : Shared} {Q E : Value → Shared → Prop} {L : Addr} {m : Str → Option Value} {rest : Led} 
    (B : Below A₀ base outer G) (F : Fr G L s.heap m) (N : News G L s.heap (ch ++ rest)) (X : (hd.heap_39 w.params).In G) (T : Top hd.view_39 LO mean mg mb G) (Ap : Apart ch rest)
    (hf : env.frame = some L) (hke : env.scope.kind = .function) (hdp : dp + nN ≤ recursionLimit) (hun : un + 8 * nN ≤ cLine + 3) (hn : 2 < nN)
    (hb : BowlIs w b ch t left) (ht : 0 ≤ t) (ht2 : t + 2 ≤ 10000)
    (hq : ∀ ch' h' tk', Fr G L h' m → News G L h' (ch' ++ rest) → Apart ch' rest → ∀ x tk t', x ∈ allNames → t ≤ t' → t' ≤ t + 2 → BowlIs w b ch' t' left → Q (.str x tk) { s with heap := h', toks := tk' }) :
    wpAny (model PG w) (arn dp un gd (env :: outer)) (call (.ref 312) [.ref b]) Q E s :=
  use B F N X T Ap hf hke hdp hun hn (fun G₂ z9 z9 => name_ok hb ht ht2) (fun r ch' h' tk' F' N' A' ⟨x, tk, t', e, hx, lo, hi, hb'⟩ => e ▸ hq ch' h' tk' F' N' A' x tk t' hx lo hi hb') (fun z9 z9 z9 z9 z9 h => h.elim)
end
section
local macro_rules | `(tactic| k_mem) => `(tactic| (first
  | (with_reducible exact List.mem_cons_self)
  | ((with_reducible refine List.mem_cons_of_mem _ ?_); k_mem)
  | ((with_reducible refine List.mem_append_right _ ?_); k_mem)
  | ((with_reducible refine List.mem_append_left _ ?_); k_mem)))
local macro_rules | `(tactic| tb_rel) => `(tactic| first | exact lt_of0 (by k_memK) | exact lt_of1 (by k_memK) | exact lt_of2 (by k_memK) | exact lt_of3 (by k_memK) | exact lt_of0' (by k_memK))
local macro_rules | `(tactic| tb_start) => `(tactic| first | exact Apart.nil | with_reducible assumption | exact apart_drop3 (by k_memK) | exact apart_drop2 (by k_memK) | exact apart_drop1 (by k_memK) | exact Apart.cons (by tb_start) (by tb_rel))
local macro_rules | `(tactic| kd_p1) => `(tactic| first | with_reducible assumption | exact news_rot (by k_memK) | exact news_rot (news_rot (by k_memK)) | exact news_rot (news_rot (news_rot (by k_memK))))
local macro_rules | `(tactic| walk_at "call ref") => `(tactic| (k_here; k_dflt (refine throw_use (by assumption) (by assumption) (by kd_p1) (by assumption) (by assumption) (by tb_start) (by exact rfl) (by exact rfl) (by assumption) (by assumption) (by first | exact Nat.lt_succ_self _ | lia) (by k_memK) (by lia) (by lia) (by lia) (by lia) ?_; intro ch' h' tk' F' N' Ap' v' tk'' lo' hi' hb'; (try k_sweep))))
local macro_rules | `(tactic| walk_at "eval ListComp") => `(tactic| (refine Halt.out ?_))
local macro_rules | `(tactic| walk_at "eval Name") => `(tactic| (k_here; (with_reducible show wpAny _ _ (eval (PySem.Expr.Name _ _) (compEnvC _ _ _ _)) _ _ _); k_dflt (first
  | (refine cname_C (by k_memK) (by exact rfl) (by assumption) (by assumption) ?_ (by exact rfl) (by exact rfl))
  | (refine cname_L (by k_memK) (by k_memK) ?_ (by exact rfl) (by exact rfl))
  | (refine nameG_K (by k_memK) (by assumption) (topRead_of (by assumption)) (by k_is) ?_ (by exact rfl) (by exact rfl) (by exact rfl) (by decide)))))
section
variable {w : World} {mean : ExcName → Option Value} {mg mb : Str → Option Value} {G : Heap} {ch : Led} {b : Addr} {t left : Int}
local macro_rules | `(tactic| walk_at "subscriptTail") => `(tactic| (k_here; k_dflt (refine plain_item (by assumption) (by assumption) (by lia) (by lia) ?_ (by with_unfolding_all rfl); intro x' tk' hx')))
theorem word_item {A : Around} {s : Shared} {E Q : Value → Shared → Prop} {L a : Addr} {led : Led} {value slice : PySem.Expr} {v : Int} {u t1 t2 : Tok} {t3 : Nat} (N : News G L s.heap led) (hm : (a, ({ cls := .type "tuple", data := .seq (List.toArray [.str "my" t1, .str "our" t2]) t3 } : Obj)) ∈ led) (h0 : 0 ≤ v) (h1 : v < 2)
    (h : ∀ my tk, Q (.str (myWord my) tk) s)
    (hs : subscripted slice false (.ref a) (.int v u) = operate [.ref a, .int v u] (getItem (.ref a) (.int v u)) := by with_unfolding_all rfl) :
    wpAny (model PG w) A (subscriptTail value slice (.ref a) (.int v u)) Q E s := by
  have ht : IsTup s.heap a (List.toArray [.str "my" t1, .str "our" t2]) := ⟨_, (N _ hm).1, rfl, _, rfl⟩
  rcases (show v = 0 ∨ v = 1 by lia) with rfl | rfl
  · exact item_tupleT ht (by decide) (by decide) rfl rfl (h true t1) hs
  · exact item_tupleT ht (by decide) (by decide) rfl rfl (h false t2) hs
local macro_rules | `(tactic| walk_at "subscriptTail") => `(tactic| (k_here; k_dflt (refine word_item (by k_memK) (by k_mem) (by lia) (by lia) ?_ (by with_unfolding_all rfl); intro my' tk')))
inductive PlacePost (w : World) (b : Addr) (t left : Int) (c hh ww : Nat) (r : Value) (ch' : Led) : Prop
  | mk (p : _) (fz : _) (bw : _) (t' : _) (h1_ : ch' = bw ++ fz) (h2_ : PlaceIs (seeL fz) r p) (h3_ : htP p ≤ hh) (h4_ : widP p ≤ ww) (h5_ : t ≤ t') (h6_ : t' ≤ t + c) (h7_ : BowlIs w b bw t' left) (h8_ : Apart bw fz) : PlacePost w b t left c hh ww r ch'
theorem place_end {s : Shared} {Qb : Flow → Shared → Prop} {L D : Addr} {c hh ww : Nat} {h' : Heap} {tk' : Nat} {m' : Str → Option Value} {r : Value} {fz ch' : Led} {t' : Int} {p : Place} (hret : Ret s G L (PlacePost w b t left c hh ww) Qb)
    (F : Fr G L h' m') (N : News G L h' (ch' ++ fz)) (hb : BowlIs w b ch' t' left) (ap : Apart ch' fz) (hp : PlaceIs (seeL fz) r p) (h1 : htP p ≤ hh) (h2 : widP p ≤ ww) (h3 : t ≤ t') (h4 : t' ≤ t + c) :
    Qb (.ret r) { s with heap := h', toks := tk' } := hret (.ret r) (ch' ++ fz) h' tk' m' F N ⟨p, fz, ch', t', rfl, hp, h1, h2, h3, h4, hb, ap⟩
theorem place_end1 {s : Shared} {Qb : Flow → Shared → Prop} {L D : Addr} {c hh ww : Nat} {h' : Heap} {tk' : Nat} {m' : Str → Option Value} {r : Led} {ch' : Led} {t' : Int} {p : Place} {o : Obj} (hret : Ret s G L (PlacePost w b t left c hh ww) Qb)
    (F : Fr G L h' m') (N : News G L h' ((D, o) :: (ch' ++ r))) (hb : BowlIs w b ch' t' left) (ap : Apart ch' [(D, o)]) (hp : PlaceIs (seeL [(D, o)]) (.ref D) p) (h1 : htP p ≤ hh) (h2 : widP p ≤ ww) (h3 : t ≤ t') (h4 : t' ≤ t + c) :
    Qb (.ret (.ref D)) { s with heap := h', toks := tk' } := place_end (D := D) hret F (news_end1 N) hb ap hp h1 h2 h3 h4
theorem place_end3 {s : Shared} {Qb : Flow → Shared → Prop} {L D : Addr} {c hh ww : Nat} {h' : Heap} {tk' : Nat} {m' : Str → Option Value} {r : Led} {ch' : Led} {t' : Int} {p : Place} {o : Obj} {y z : Addr × Obj} (hret : Ret s G L (PlacePost w b t left c hh ww) Qb)
    (F : Fr G L h' m') (N : News G L h' ((D, o) :: y :: z :: (ch' ++ r))) (hb : BowlIs w b ch' t' left) (ap : Apart ch' [(D, o), (y.1, y.2), (z.1, z.2)]) (hp : PlaceIs (seeL [(D, o), y, z]) (.ref D) p) (h1 : htP p ≤ hh) (h2 : widP p ≤ ww) (h3 : t ≤ t') (h4 : t' ≤ t + c) :
    Qb (.ret (.ref D)) { s with heap := h', toks := tk' } := place_end (D := D) hret F (news_end3 N) hb ap hp h1 h2 h3 h4
theorem place_endL {s : Shared} {Qb : Flow → Shared → Prop} {L D : Addr} {c hh ww : Nat} {h' : Heap} {tk' : Nat} {m' : Str → Option Value} {rs r : Led} {d : Addr × Obj} {ch' : Led} {t' : Int} {p : Place} {o : Obj} (hret : Ret s G L (PlacePost w b t left c hh ww) Qb)
    (F : Fr G L h' m') (N : News G L h' ((D, o) :: (ch' ++ (d :: (rs ++ r))))) (hb : BowlIs w b ch' t' left) (ap : Apart ch' (d :: (rs ++ r))) (lt : ∀ p ∈ ch', @LT.lt Nat _ p.1 D) (hp : PlaceIs (seeL ((D, o) :: d :: rs)) (.ref D) p) (h1 : htP p ≤ hh) (h2 : widP p ≤ ww) (h3 : t ≤ t') (h4 : t' ≤ t + c) :
    Qb (.ret (.ref D)) { s with heap := h', toks := tk' } := place_end (D := D) hret F (news_endL N) hb (Apart.cons (ap.sub (fun z9 h => h) (by intro p hp; rcases List.mem_cons.mp hp with rfl | hp; exact List.mem_cons_self; exact List.mem_cons_of_mem _ (List.mem_append_left _ hp))) lt) hp h1 h2 h3 h4
theorem sig_item {v : Int} (h0 : 0 ≤ v) (h1 : v < 3) : Txt.item (Str.ofString "$@%") v ∈ sigs := by
  rcases (show v = 0 ∨ v = 1 ∨ v = 2 by lia) with rfl | rfl | rfl <;> decide +kernel
def PlaceC (w : World) (mean : ExcName → Option Value) (mg mb : Str → Option Value) (b : Addr) (left : Int) (e c' h' w' : Nat) : Prop := ∀ {G : Heap} {ch : Led} {t : Int} {tk : Tok}, BowlIs w b ch t left → 0 ≤ t → t + c' ≤ 10000 →
      Triple w mean mg mb G 317 [.ref b, .int e tk] (e + 2) ch (PlacePost w b t left c' h' w') No
inductive PlaceI (w : World) (mean : ExcName → Option Value) (mg mb : Str → Option Value) (b : Addr) (left : Int) (e c hh ww : Nat) : Prop
  | mk (c' h' w' : Nat) (h1 : 2 + 2 * c' ≤ c) (h2 : 3 + h' ≤ hh) (h3 : 2 * w' ≤ ww) (h4 : PlaceC w mean mg mb b left e c' h' w') : PlaceI w mean mg mb b left e c hh ww
def PlaceIh (w : World) (mean : ExcName → Option Value) (mg mb : Str → Option Value) (b : Addr) (left : Int) (d c hh ww : Nat) : Prop := ∀ e, d = e + 1 → PlaceI w mean mg mb b left e c hh ww
theorem place_step (d : Nat) {tk : Tok} (c hh ww : Nat) (g1 : 3 ≤ c) (g2 : 4 ≤ hh) (g3 : 1 ≤ ww)
    (ih : PlaceIh w mean mg mb b left d c hh ww)
    (hd2 : d ≤ 2) (hb : BowlIs w b ch t left) (ht : 0 ≤ t) (ht2 : t + c ≤ 10000) :
    Triple w mean mg mb G 317 [.ref b, .int d tk] (d + 2) ch (PlacePost w b t left c hh ww) No := by
  refine' enterC (binds := [("bowl", .ref b), ("deep", .int d tk)]) ?k6 ?k7 ?k9 ?kB ?kD ?_ ?kn ?c2 ?c3 ?c4
  case k6 => k_is
  case k7 => k_is
  case k9 => exact rfl
  case kB => exact rfl
  case kD => decide +kernel
  case kn => lia
  case c2 => exact rfl
  case c3 => exact rfl
  case c4 => exact rfl
  k_whole
  intro dp un gd frs base A₀ s L h₁ tk₁ cells Qb Eb B X T hdp hun F N hlt Y Ap hret hexc hown
  have hY := CellsAre.two Y
  refine cps fun k_ => ?_
  obtain ⟨o1, o2, hE, d1, d2⟩ := hY
  apply k_
  clear k_
  subst hE
  clear Y
  (try dsimp only at F N Ap d1 d2)
  replace F : Fr G L h₁ (fun z9 => none) := F
  k_steps
  all_goals (try dsimp only [kRe, kS])
  · refine place_end1 (p := .name _ _) hret (by assumption) (by assumption) (by assumption) (by tb_start) ⟨_, _, _, _, rfl, ?_, by assumption, List.mem_singleton_self _⟩ (by simp only [htP]; lia) (by simp only [widP]; lia) (by lia) (by lia)
    exact sig_item (by assumption) (by assumption)
  · refine place_end3 (p := .elem _) hret (by assumption) (by assumption) (by assumption) (by tb_start) ⟨_, _, _, _, _, _, _, _, _, rfl, by assumption, List.mem_cons_self, List.mem_cons_of_mem _ (List.mem_cons_of_mem _ (List.mem_singleton_self _)), List.mem_cons_of_mem _ List.mem_cons_self⟩ (by simp only [htP]; lia) (by simp only [widP]; lia) (by lia) (by lia)
  · refine place_end1 (p := .told _ _) hret (by assumption) (by assumption) (by assumption) (by tb_start) ⟨_, _, _, _, rfl, by assumption, List.mem_singleton_self _⟩ (by simp only [htP]; lia) (by simp only [widP]; lia) (by lia) (by lia)
  · refine place_end1 (p := .told _ _) hret (by assumption) (by assumption) (by assumption) (by tb_start) ⟨_, _, _, _, rfl, by assumption, List.mem_singleton_self _⟩ (by simp only [htP]; lia) (by simp only [widP]; lia) (by lia) (by lia)
  · refine Halt.mk ?_
    refine compK (by assumption) (by assumption) (by assumption) rfl rfl rfl (by exact rfl) (by decide) rfl (by decide) (by exact rfl) (Ex := No) (fun z9 z9 z9 z9 z9 z9 h => h.elim) ?_
    k_steps
    rename_i v9 tkk9 lo9 hi9 hb9 h9 tk9 t9 u9 w9 hr9 F9 N9 keep9
    obtain ⟨n9, hn9⟩ : ∃ n : Nat, 1 + v9 = n := ⟨(1 + v9).toNat, by lia⟩
    rw [hn9] at hr9
    obtain ⟨e, rfl⟩ : ∃ e, d = e + 1 := ⟨d - 1, by lia⟩
    refine cps fun k_ => ?_
    obtain ⟨c', hh', ww', g4, g5, g6, IH⟩ := ih e rfl
    apply k_
    clear k_
    refine comp_at_range (n := n9) (J := fun i ch₁ rs ys => ∃ t₁ ps, BowlIs w b ch₁ t₁ left ∧ t ≤ t₁ ∧ t₁ ≤ t + 2 + ((i * c' : Nat) : Int) ∧ Paired (fun v p => PlaceIs (seeL rs) v p ∧ htP p ≤ hh' ∧ widP p ≤ ww') ys ps)
      F9 N9 (by assumption) hr9 (by lia) ⟨t + 1 + 1, [], hb9, by lia, by lia, .nil⟩ ?_ ?_
    · intro h₂ tk₂ i v G₂ C h tk ch₁ rs ys own m₂ E' hi hP hJ gst grest B₂ X₂ T₂ F₂ hx₂ N₂ A₂ hE' R9 hR9
      refine cps fun k_ => ?_
      obtain ⟨t₁, ps, hb1, q1, q2, hps⟩ := hJ
      apply k_
      clear k_
      have c1 := grest (L + 1, o2) (by k_mem)
      have c2 := grest (L + 1 + 1, o1) (by k_mem)
      dsimp only at c1 c2
      clear B X T hr9 F9 N9 hret hexc hown
      k_steps
      refine Halt.mk ?_
      have z0 : i * c' ≤ 1 * c' := Nat.mul_le_mul_right _ (by lia)
      have z3 : (i + 1) * c' = i * c' + c' := Nat.succ_mul i c'
      rw [show ((e + 1 : Nat) : Int) - 1 = (e : Int) by lia]
      refine useC B₂ F₂ N₂ X₂ T₂ A₂ hdp hun (by first | exact Nat.lt_succ_self _ | lia) (fun G₃ z9 z9 => IH hb1 (by lia) (by lia)) ?_ (fun z9 z9 z9 z9 z9 h => h.elim)
      intro r ch' h' tk' F' N' A' P
      refine cps fun k_ => ?_
      obtain ⟨p, fz, bw, t', rfl, hp, hh1, hw1, z1, z2, hb', ap⟩ := P
      apply k_
      clear k_
      (try k_unfold)
      refine hR9 _ _ ⟨bw, fz, h', tk', rfl, F', news_assoc N', apart_split A' ap, apart_right A', t', ps ++ [p], hb', by lia, by rw [z3]; lia, (hps.mono fun v q hq => ⟨hq.1.mono fun z9 z9 hm => List.mem_append_right _ hm, hq.2⟩).snoc ⟨hp.mono fun z9 z9 hm => List.mem_append_left _ hm, hh1, hw1⟩⟩
    · intro D ch' rs ys k h' tk' hlen hJ F' N' A'
      refine cps fun k_ => ?_
      obtain ⟨t₁, ps, hb1, q1, q2, hps⟩ := hJ
      apply k_
      clear k_
      replace F' : Fr G L h' _ := F'
      replace N' : News G L h' _ := N'
      k_steps
      (try dsimp only [kRe, kS])
      have z0 : n9 * c' ≤ 2 * c' := Nat.mul_le_mul_right _ (by lia)
      rcases (show n9 = 1 ∨ n9 = 2 by lia) with rfl | rfl
      · obtain ⟨y, rfl⟩ := List.length_eq_one_iff.mp hlen
        cases hps with
        | cons k1 k2 =>
          cases k2
          exact place_endL (p := .one _) hret (by assumption) (by assumption) hb1 A' (by tb_rel)
            ⟨_, _, D, k, y, rfl, List.mem_cons_self, List.mem_cons_of_mem _ List.mem_cons_self, k1.1.mono fun z9 z9 hm => List.mem_cons_of_mem _ (List.mem_cons_of_mem _ hm)⟩ (by simp only [htP]; lia) (by simp only [widP]; lia) (by lia) (by lia)
      · refine cps fun k_ => ?_
        obtain ⟨y1, y2, rfl⟩ := len2 hlen
        apply k_
        clear k_
        cases hps with
        | cons k1 k2 =>
          cases k2 with
          | cons k2 k3 =>
            cases k3
            exact place_endL (p := .two _ _) hret (by assumption) (by assumption) hb1 A' (by tb_rel)
              ⟨_, _, D, k, y1, y2, rfl, List.mem_cons_self, List.mem_cons_of_mem _ List.mem_cons_self, k1.1.mono fun z9 z9 hm => List.mem_cons_of_mem _ (List.mem_cons_of_mem _ hm), k2.1.mono fun z9 z9 hm => List.mem_cons_of_mem _ (List.mem_cons_of_mem _ hm)⟩ (by simp only [htP]; lia) (by simp only [widP]; lia) (by lia) (by lia)
theorem place_ok2 {tk : Tok} (hb : BowlIs w b ch t left) (ht : 0 ≤ t) (ht2 : t + 18 ≤ 10000) : Triple w mean mg mb G 317 [.ref b, .int (2 : Nat) tk] 4 ch (PlacePost w b t left 18 10 4) No :=
  place_step 2 18 10 4 (by lia) (by lia) (by lia) (fun e he => ⟨8, 7, 2, by lia, by lia, by lia, fun {G ch t tk} hb ht ht2 => by
    obtain rfl : e = 1 := by lia
    exact place_step 1 8 7 2 (by lia) (by lia) (by lia) (fun e he => ⟨3, 4, 1, by lia, by lia, by lia, fun {G ch t tk} hb ht ht2 => by
      obtain rfl : e = 0 := by lia
      exact place_step 0 3 4 1 (by lia) (by lia) (by lia) (fun e he => by lia) (by lia) hb ht ht2⟩) (by lia) hb ht ht2⟩) (by lia) hb ht ht2
theorem place_use {base : Heap} {dp un nN : Nat} {gd : Option (List Code)} {outer : List Env} {env : Env} {A₀ : Around} {s : Shared} {Q E : Value → Shared → Prop} {L : Addr} {m : Str → Option Value} {rest : Led} {tk : Tok}
    (B : Below A₀ base outer G) (F : Fr G L s.heap m) (N : News G L s.heap (ch ++ rest)) (X : (hd.heap_39 w.params).In G) (T : Top hd.view_39 LO mean mg mb G) (Ap : Apart ch rest)
    (hf : env.frame = some L) (hke : env.scope.kind = .function) (hdp : dp + nN ≤ recursionLimit) (hun : un + 8 * nN ≤ cLine + 3) (hn : 4 < nN)
    (hb : BowlIs w b ch t left) (ht : 0 ≤ t) (ht2 : t + 18 ≤ 10000)
    (hq : ∀ r h' tk' p fz bw t', Fr G L h' m → News G L h' (bw ++ (fz ++ rest)) → Apart bw (fz ++ rest) → PlaceIs (seeL fz) r p → htP p ≤ 10 → widP p ≤ 4 → t ≤ t' → t' ≤ t + (18 : Nat) → BowlIs w b bw t' left → Apart bw fz → Q r { s with heap := h', toks := tk' }) :
    wpAny (model PG w) (arn dp un gd (env :: outer)) (call (.ref 317) [.ref b, .int 2 tk]) Q E s :=
  use B F N X T Ap hf hke hdp hun hn (fun G₂ z9 z9 => place_ok2 hb ht ht2) (fun r ch' h' tk' F' N' A' ⟨p, fz, bw, t', e, hp, hh, hw, lo, hi, hb', ap⟩ => by
    subst e
    exact hq r h' tk' p fz bw t' F' (news_assoc N') (apart_split A' ap) hp hh hw lo hi hb' ap) (fun z9 z9 z9 z9 z9 h => h.elim)
end
local macro_rules | `(tactic| walk_at "call ref") => `(tactic| (k_here; k_dflt (refine name_use (by assumption) (by assumption) (by kd_p1) (by assumption) (by assumption) (by tb_start) (by exact rfl) (by exact rfl) (by assumption) (by assumption) (by first | exact Nat.lt_succ_self _ | lia) (by k_memK) (by lia) (by lia) ?_; intro ch' h' tk' F' N' Ap' x' tk'' t' hx' lo' hi' hb'; (try k_sweep))))
local macro_rules | `(tactic| walk_at "call ref") => `(tactic| (k_here; k_dflt (refine place_use (by assumption) (by assumption) (by kd_p1) (by assumption) (by assumption) (by tb_start) (by exact rfl) (by exact rfl) (by assumption) (by assumption) (by first | exact Nat.lt_succ_self _ | lia) (by k_memK) (by lia) (by lia) ?_; intro r' h' tk' p' fz' bw' t' F' N' Ap' hp' hh' hw' lo' hi' hb' ap'; (try k_sweep))))
section
variable {w : World} {mean : ExcName → Option Value} {mg mb : Str → Option Value} {G : Heap} {ch : Led} {b : Addr} {t lf : Int}
inductive TermPost (w : World) (b : Addr) (t lf : Int) (c hh ww : Nat) (r : Value) (ch' : Led) : Prop
  | mk (tm : _) (fz : _) (bw : _) (t' : _) (lf' : _) (h1_ : ch' = bw ++ fz) (h2_ : TermIs (seeL fz) r tm) (h3_ : htT tm ≤ hh) (h4_ : widT tm ≤ ww) (h5_ : 0 ≤ lf') (h6_ : lf' ≤ lf) (h7_ : t ≤ t') (h8_ : t' + 100 * lf' ≤ t + 100 * lf + c) (h9_ : BowlIs w b bw t' lf') (h10_ : Apart bw fz) : TermPost w b t lf c hh ww r ch'
inductive BlkPost (w : World) (b : Addr) (t lf : Int) (c hh : Nat) (r : Value) (ch' : Led) : Prop
  | mk (bl : _) (fz : _) (bw : _) (t' : _) (lf' : _) (h1_ : ch' = bw ++ fz) (h2_ : BlkIs (seeL fz) r bl) (h3_ : htB bl ≤ hh) (h4_ : 0 ≤ lf') (h5_ : lf' ≤ lf) (h6_ : t ≤ t') (h7_ : t' + 100 * lf' ≤ t + 100 * lf + c) (h8_ : BowlIs w b bw t' lf') (h9_ : Apart bw fz) : BlkPost w b t lf c hh r ch'
inductive StmPost (w : World) (b : Addr) (t lf : Int) (c hh : Nat) (r : Value) (ch' : Led) : Prop
  | mk (st : _) (fz : _) (bw : _) (t' : _) (lf' : _) (h1_ : ch' = bw ++ fz) (h2_ : StmIs (seeL fz) r st) (h3_ : htS st ≤ hh) (h4_ : 0 ≤ lf') (h5_ : lf' ≤ lf) (h6_ : t ≤ t') (h7_ : t' + 100 * lf' ≤ t + 100 * lf + c) (h8_ : BowlIs w b bw t' lf') (h9_ : Apart bw fz) : StmPost w b t lf c hh r ch'
def TermC (w : World) (mean : ExcName → Option Value) (mg mb : Str → Option Value) (b : Addr) (d l c hh ww : Nat) : Prop :=
  ∀ {G : Heap} {ch : Led} {t : Int} {tk : Tok} {k lf : Int}, BowlIs w b ch t lf → k = d → 0 ≤ lf → lf ≤ l → 0 ≤ t → t + 100 * lf + c ≤ 10000 → Triple w mean mg mb G 324 [.ref b, .int k tk] (5 * l + 10 + d) ch (TermPost w b t lf c hh ww) No
def BlkC (w : World) (mean : ExcName → Option Value) (mg mb : Str → Option Value) (b : Addr) (l hh : Nat) : Prop :=
  ∀ {G : Heap} {ch : Led} {t : Int} {tk : Tok} {k lf : Int}, BowlIs w b ch t lf → 0 ≤ k → k ≤ 2 → 0 ≤ lf → lf ≤ l → 0 ≤ t → t + 100 * lf + 1 ≤ 10000 → Triple w mean mg mb G 338 [.ref b, .int k tk] (5 * l + 10) ch (BlkPost w b t lf 1 hh) No
def StmC (w : World) (mean : ExcName → Option Value) (mg mb : Str → Option Value) (b : Addr) (l hh : Nat) : Prop :=
  ∀ {G : Heap} {ch : Led} {t : Int} {tk : Tok} {k lf : Int}, BowlIs w b ch t lf → 0 ≤ k → k ≤ 2 → 0 ≤ lf → lf ≤ l → 0 ≤ t → t + 100 * lf + 81 ≤ 10000 → Triple w mean mg mb G 331 [.ref b, .int k tk] (5 * l + 14) ch (StmPost w b t lf 81 hh) No
theorem term_end {s : Shared} {Qb : Flow → Shared → Prop} {L : Addr} {c hh ww : Nat} {h' : Heap} {tk' : Nat} {m' : Str → Option Value} {r : Value} {fz ch' : Led} {t' lf' : Int} {tm : Term} (hret : Ret s G L (TermPost w b t lf c hh ww) Qb)
    (F : Fr G L h' m') (N : News G L h' (ch' ++ fz)) (hb : BowlIs w b ch' t' lf') (ap : Apart ch' fz) (hp : TermIs (seeL fz) r tm) (h1 : htT tm ≤ hh) (h2 : widT tm ≤ ww) (h5 : 0 ≤ lf') (h6 : lf' ≤ lf) (h3 : t ≤ t') (h4 : t' + 100 * lf' ≤ t + 100 * lf + c) :
    Qb (.ret r) { s with heap := h', toks := tk' } := hret (.ret r) (ch' ++ fz) h' tk' m' F N ⟨tm, fz, ch', t', lf', rfl, hp, h1, h2, h5, h6, h3, h4, hb, ap⟩
local macro_rules | `(tactic| walk_at "subscriptTail") => `(tactic| (k_here; k_dflt (refine word_item (by k_memK) (by k_mem) (by lia) (by lia) ?_ (by with_unfolding_all rfl); intro my' tk')))
inductive TermI (w : World) (mean : ExcName → Option Value) (mg mb : Str → Option Value) (b : Addr) (e l c hh ww : Nat) : Prop
  | mk (c1 h1 w1 c0 h0 w0 h3 : Nat) (t1 : TermC w mean mg mb b e l c1 h1 w1) (t0 : TermC w mean mg mb b 0 l c0 h0 w0) (b1 : BlkC w mean mg mb b l h3) (q1 : 1 + 2 * c1 ≤ c) (q2 : 1 + c0 + c1 ≤ c) (q3 : 2 ≤ c) (q4 : 3 + h1 ≤ hh) (q5 : 3 + h0 ≤ hh) (q6 : 6 + h3 ≤ hh) (q7 : 2 * w1 ≤ ww) (q8 : w0 + w1 ≤ ww) : TermI w mean mg mb b e l c hh ww
def TermIh (w : World) (mean : ExcName → Option Value) (mg mb : Str → Option Value) (b : Addr) (d l c hh ww : Nat) : Prop := ∀ e, d = e + 1 → TermI w mean mg mb b e l c hh ww
theorem term_step (d l c hh ww : Nat) (g1 : 19 ≤ c) (g2 : 13 ≤ hh) (g3 : 4 ≤ ww) (hd2 : d ≤ 2)
    (ih : TermIh w mean mg mb b d l c hh ww) :
    TermC w mean mg mb b d l c hh ww := by
  intro G ch t tk k lf hb hk hlf0 hlf ht ht2
  subst hk
  refine' enter (binds := [("bowl", .ref b), ("deep", .int d tk)]) ?k6 ?k7 ?k9 ?kB ?_ ?kn ?c5 ?c2 ?c3 ?c4
  case k6 => k_is
  case k7 => k_is
  case k9 => exact rfl
  case kB => exact locs rfl
  case kn => lia
  case c5 => decide
  case c2 => exact rfl
  case c3 => exact rfl
  case c4 => exact rfl
  k_whole
  intro dp un gd frs base A₀ s L h₁ tk₁ Qb Eb B X T hdp hun F N hlt hret hexc hown
  (try dsimp only at F)
  replace N := news_nilr N
  k_steps
  all_goals (try dsimp only [kRe, kS])
  · refine term_end (tm := .told _ _ _) hret (by assumption) (news_end1 (by assumption)) (by assumption) (by tb_start) ⟨_, _, _, _, rfl, ?_, by assumption, List.mem_singleton_self _⟩ (by simp only [htT]; lia) (by simp only [widT]; lia) (by lia) (by lia) (by lia) (by lia)
    exact sig_item (by assumption) (by assumption)
  · exact term_end (tm := .loc _) hret (by assumption) (nl1 (by assumption)) (by assumption) (by tb_start) ⟨_, _, _, rfl, List.mem_cons_self, PlaceIs.mono (fun z9 z9 hm => List.mem_cons_of_mem _ hm) _ (by assumption)⟩ (by simp only [htT]; lia) (by simp only [widT]; lia) (by lia) (by lia) (by lia) (by lia)
  · exact term_end (tm := .name _) hret (by assumption) (news_end1 (by assumption)) (by assumption) (by tb_start) ⟨_, _, _, _, rfl, by assumption, List.mem_singleton_self _⟩ (by simp only [htT]; lia) (by simp only [widT]; lia) (by lia) (by lia) (by lia) (by lia)
  · refine Halt.mk ?_
    obtain ⟨e, rfl⟩ : ∃ e, d = e + 1 := ⟨d - 1, by lia⟩
    refine cps fun k_ => ?_
    obtain ⟨c1, h1, w1, c0, h0, w0, h3, T1, T0, B1, q1, q2, q3, q4, q5, q6, q7, q8⟩ := ih e rfl
    apply k_
    clear k_
    refine useN (by assumption) (by assumption) (by first | with_reducible assumption | exact news_rot (by with_reducible assumption) | exact news_rot (news_rot (by with_reducible assumption)) | exact news_rot (news_rot (news_rot (by with_reducible assumption)))) (by assumption) (by assumption) (by tb_start) (by exact rfl) (by exact rfl) hdp hun (by first | exact Nat.lt_succ_self _ | lia) (fun G₂ z9 z9 => T1 (by with_reducible assumption) (by lia) (by lia) (by lia) (by lia) (by lia)) ?_
    intro r9 ch9 h9 tk9 F9 N9 A9 P9
    refine cps fun k_ => ?_
    obtain ⟨tm1, fz1, bw1, t1, lf1, rfl, ht1, hh1, hw1, za1, zb1, zc1, zd1, hb1, ap1⟩ := P9
    apply k_
    clear k_
    replace N9 := news_assoc N9
    replace A9 := apart_split A9 ap1
    (try k_sweep)
    k_steps
    (try dsimp only [kRe, kS])
    refine Halt.mk ?_
    refine useN (by assumption) (by assumption) (by first | with_reducible assumption | exact news_rot (by with_reducible assumption) | exact news_rot (news_rot (by with_reducible assumption)) | exact news_rot (news_rot (news_rot (by with_reducible assumption)))) (by assumption) (by assumption) (by tb_start) (by exact rfl) (by exact rfl) hdp hun (by first | exact Nat.lt_succ_self _ | lia) (fun G₂ z9 z9 => T1 (by with_reducible assumption) (by lia) (by lia) (by lia) (by lia) (by lia)) ?_
    intro r9 ch9 h9 tk9 F9 N9 A9 P9
    refine cps fun k_ => ?_
    obtain ⟨tm2, fz2, bw2, t2, lf2, rfl, ht2, hh2, hw2, za2, zb2, zc2, zd2, hb2, ap2⟩ := P9
    apply k_
    clear k_
    replace N9 := news_assoc N9
    replace A9 := apart_split A9 ap2
    (try k_sweep)
    k_steps
    (try dsimp only [kRe, kS])
    exact term_end (tm := .assign tm1 tm2) hret (by assumption) (nl1_2 (by assumption)) (by assumption) (by tb_start)
      ⟨_, _, _, _, rfl, List.mem_cons_self, ht1.mono fun z9 z9 hm => List.mem_cons_of_mem _ (List.mem_append_right _ hm), ht2.mono fun z9 z9 hm => List.mem_cons_of_mem _ (List.mem_append_left _ hm)⟩ (by simp only [htT]; lia) (by simp only [widT]; lia) (by lia) (by lia) (by lia) (by lia)
  · refine Halt.mk ?_
    obtain ⟨e, rfl⟩ : ∃ e, d = e + 1 := ⟨d - 1, by lia⟩
    refine cps fun k_ => ?_
    obtain ⟨c1, h1, w1, c0, h0, w0, h3, T1, T0, B1, q1, q2, q3, q4, q5, q6, q7, q8⟩ := ih e rfl
    apply k_
    clear k_
    refine useN (by assumption) (by assumption) (by first | with_reducible assumption | exact news_rot (by with_reducible assumption) | exact news_rot (news_rot (by with_reducible assumption)) | exact news_rot (news_rot (news_rot (by with_reducible assumption)))) (by assumption) (by assumption) (by tb_start) (by exact rfl) (by exact rfl) hdp hun (by first | exact Nat.lt_succ_self _ | lia) (fun G₂ z9 z9 => B1 (by with_reducible assumption) (by lia) (by lia) (by lia) (by lia) (by lia) (by lia)) ?_
    intro r9 ch9 h9 tk9 F9 N9 A9 P9
    refine cps fun k_ => ?_
    obtain ⟨tm1, fz1, bw1, t1, lf1, rfl, ht1, hh1, za1, zb1, zc1, zd1, hb1, ap1⟩ := P9
    apply k_
    clear k_
    replace N9 := news_assoc N9
    replace A9 := apart_split A9 ap1
    (try k_sweep)
    k_steps
    (try dsimp only [kRe, kS])
    exact term_end (tm := .anon tm1) hret (by assumption) (nl3 (by assumption)) (by assumption) (by tb_start)
      ⟨_, _, _, _, _, _, _, _, _, rfl, List.mem_cons_self, List.mem_cons_of_mem _ List.mem_cons_self, List.mem_cons_of_mem _ (List.mem_cons_of_mem _ List.mem_cons_self),
        ht1.mono (fun z9 z9 hm => List.mem_cons_of_mem _ (List.mem_cons_of_mem _ (List.mem_cons_of_mem _ hm))) fun z9 => StmsAre.mono (fun z9 z9 hm => List.mem_cons_of_mem _ (List.mem_cons_of_mem _ (List.mem_cons_of_mem _ hm))) _⟩ (by simp only [htT]; lia) (by simp only [widT]; lia) (by lia) (by lia) (by lia) (by lia)
  · refine Halt.mk ?_
    obtain ⟨e, rfl⟩ : ∃ e, d = e + 1 := ⟨d - 1, by lia⟩
    refine cps fun k_ => ?_
    obtain ⟨c1, h1, w1, c0, h0, w0, h3, T1, T0, B1, q1, q2, q3, q4, q5, q6, q7, q8⟩ := ih e rfl
    apply k_
    clear k_
    refine useN (by assumption) (by assumption) (by first | with_reducible assumption | exact news_rot (by with_reducible assumption) | exact news_rot (news_rot (by with_reducible assumption)) | exact news_rot (news_rot (news_rot (by with_reducible assumption)))) (by assumption) (by assumption) (by tb_start) (by exact rfl) (by exact rfl) hdp hun (by first | exact Nat.lt_succ_self _ | lia) (fun G₂ z9 z9 => T0 (by with_reducible assumption) (by lia) (by lia) (by lia) (by lia) (by lia)) ?_
    intro r9 ch9 h9 tk9 F9 N9 A9 P9
    refine cps fun k_ => ?_
    obtain ⟨tm1, fz1, bw1, t1, lf1, rfl, ht1, hh1, hw1, za1, zb1, zc1, zd1, hb1, ap1⟩ := P9
    apply k_
    clear k_
    replace N9 := news_assoc N9
    replace A9 := apart_split A9 ap1
    (try k_sweep)
    k_steps
    (try dsimp only [kRe, kS])
    refine Halt.mk ?_
    refine useN (by assumption) (by assumption) (by first | with_reducible assumption | exact news_rot (by with_reducible assumption) | exact news_rot (news_rot (by with_reducible assumption)) | exact news_rot (news_rot (news_rot (by with_reducible assumption)))) (by assumption) (by assumption) (by tb_start) (by exact rfl) (by exact rfl) hdp hun (by first | exact Nat.lt_succ_self _ | lia) (fun G₂ z9 z9 => T1 (by with_reducible assumption) (by lia) (by lia) (by lia) (by lia) (by lia)) ?_
    intro r9 ch9 h9 tk9 F9 N9 A9 P9
    refine cps fun k_ => ?_
    obtain ⟨tm2, fz2, bw2, t2, lf2, rfl, ht2, hh2, hw2, za2, zb2, zc2, zd2, hb2, ap2⟩ := P9
    apply k_
    clear k_
    replace N9 := news_assoc N9
    replace A9 := apart_split A9 ap2
    (try k_sweep)
    k_steps
    (try dsimp only [kRe, kS])
    exact term_end (tm := .list tm1 tm2) hret (by assumption) (nl2_2 (by assumption)) (by assumption) (by tb_start)
      ⟨_, _, _, _, _, _, rfl, List.mem_cons_self, List.mem_cons_of_mem _ List.mem_cons_self, ht1.mono fun z9 z9 hm => List.mem_cons_of_mem _ (List.mem_cons_of_mem _ (List.mem_append_right _ hm)), ht2.mono fun z9 z9 hm => List.mem_cons_of_mem _ (List.mem_cons_of_mem _ (List.mem_append_left _ hm))⟩ (by simp only [htT]; lia) (by simp only [widT]; lia) (by lia) (by lia) (by lia) (by lia)
  · refine term_end (tm := .told _ _ _) hret (by assumption) (news_end1 (by assumption)) (by assumption) (by tb_start) ⟨_, _, _, _, rfl, ?_, by assumption, List.mem_singleton_self _⟩ (by simp only [htT]; lia) (by simp only [widT]; lia) (by lia) (by lia) (by lia) (by lia)
    exact sig_item (by assumption) (by assumption)
  · exact term_end (tm := .loc _) hret (by assumption) (nl1 (by assumption)) (by assumption) (by tb_start) ⟨_, _, _, rfl, List.mem_cons_self, PlaceIs.mono (fun z9 z9 hm => List.mem_cons_of_mem _ hm) _ (by assumption)⟩ (by simp only [htT]; lia) (by simp only [widT]; lia) (by lia) (by lia) (by lia) (by lia)
  · exact term_end (tm := .name _) hret (by assumption) (news_end1 (by assumption)) (by assumption) (by tb_start) ⟨_, _, _, _, rfl, by assumption, List.mem_singleton_self _⟩ (by simp only [htT]; lia) (by simp only [widT]; lia) (by lia) (by lia) (by lia) (by lia)
  · exfalso; lia
end
section
variable {w : World} {mean : ExcName → Option Value} {mg mb : Str → Option Value} {G : Heap} {ch : Led} {b : Addr} {t lf : Int}
theorem stm_end {s : Shared} {Qb : Flow → Shared → Prop} {L : Addr} {c hh : Nat} {h' : Heap} {tk' : Nat} {m' : Str → Option Value} {r : Value} {fz ch' : Led} {t' lf' : Int} {tm : Stm} (hret : Ret s G L (StmPost w b t lf c hh) Qb)
    (F : Fr G L h' m') (N : News G L h' (ch' ++ fz)) (hb : BowlIs w b ch' t' lf') (ap : Apart ch' fz) (hp : StmIs (seeL fz) r tm) (h1 : htS tm ≤ hh) (h5 : 0 ≤ lf') (h6 : lf' ≤ lf) (h3 : t ≤ t') (h4 : t' + 100 * lf' ≤ t + 100 * lf + c) :
    Qb (.ret r) { s with heap := h', toks := tk' } := hret (.ret r) (ch' ++ fz) h' tk' m' F N ⟨tm, fz, ch', t', lf', rfl, hp, h1, h5, h6, h3, h4, hb, ap⟩
theorem stm_step (l : Nat) (T0 : TermC w mean mg mb b 0 l 19 13 4) (T1 : TermC w mean mg mb b 1 l 39 (29 + 13 * l) 8) (T2 : TermC w mean mg mb b 2 l 79 (32 + 13 * l) 16) (B1 : BlkC w mean mg mb b l (23 + 13 * l)) : StmC w mean mg mb b l (35 + 13 * l) := by
  intro G ch t tk k lf hb hk0 hk2 hlf0 hlf ht ht2
  refine' enter (binds := [("bowl", .ref b), ("deep", .int k tk)]) ?k6 ?k7 ?k9 ?kB ?_ ?kn ?c5 ?c2 ?c3 ?c4
  case k6 => k_is
  case k7 => k_is
  case k9 => exact rfl
  case kB => exact locs rfl
  case kn => lia
  case c5 => decide
  case c2 => exact rfl
  case c3 => exact rfl
  case c4 => exact rfl
  k_whole
  intro dp un gd frs base A₀ s L h₁ tk₁ Qb Eb B X T hdp hun F N hlt hret hexc hown
  (try dsimp only at F)
  replace N := news_nilr N
  k_steps
  all_goals (try dsimp only [kRe, kS])
  · refine Halt.mk ?_
    refine useN (by assumption) (by assumption) (by first | with_reducible assumption | exact news_rot (by with_reducible assumption) | exact news_rot2 (by with_reducible assumption) | exact news_rot3 (by with_reducible assumption)) (by assumption) (by assumption) (by tb_start) (by exact rfl) (by exact rfl) hdp hun (by first | exact Nat.lt_succ_self _ | lia) (fun G₂ z9 z9 => T1 (by with_reducible assumption) (by lia) (by lia) (by lia) (by lia) (by lia)) ?_
    intro r9 ch9 h9 tk9 F9 N9 A9 P9
    refine cps fun k_ => ?_
    obtain ⟨tm1, fz1, bw1, t1, lf1, rfl, ht1, hh1, hw1, za1, zb1, zc1, zd1, hb1, ap1⟩ := P9
    apply k_
    clear k_
    replace N9 := news_assoc N9
    replace A9 := apart_split A9 ap1
    (try k_sweep)
    k_steps
    (try dsimp only [kRe, kS])
    refine Halt.mk ?_
    refine useN (by assumption) (by assumption) (by first | with_reducible assumption | exact news_rot (by with_reducible assumption) | exact news_rot2 (by with_reducible assumption) | exact news_rot3 (by with_reducible assumption)) (by assumption) (by assumption) (by tb_start) (by exact rfl) (by exact rfl) hdp hun (by first | exact Nat.lt_succ_self _ | lia) (fun G₂ z9 z9 => B1 (by with_reducible assumption) (by lia) (by lia) (by lia) (by lia) (by lia) (by lia)) ?_
    intro r9 ch9 h9 tk9 F9 N9 A9 P9
    refine cps fun k_ => ?_
    obtain ⟨tm2, fz2, bw2, t2, lf2, rfl, ht2, hh2, za2, zb2, zc2, zd2, hb2, ap2⟩ := P9
    apply k_
    clear k_
    replace N9 := news_assoc N9
    replace A9 := apart_split A9 ap2
    (try k_sweep)
    k_steps
    (try dsimp only [kRe, kS])
    refine Halt.mk ?_
    refine useN (by assumption) (by assumption) (by first | with_reducible assumption | exact news_rot (by with_reducible assumption) | exact news_rot2 (by with_reducible assumption) | exact news_rot3 (by with_reducible assumption)) (by assumption) (by assumption) (by tb_start) (by exact rfl) (by exact rfl) hdp hun (by first | exact Nat.lt_succ_self _ | lia) (fun G₂ z9 z9 => B1 (by with_reducible assumption) (by lia) (by lia) (by lia) (by lia) (by lia) (by lia)) ?_
    intro r9 ch9 h9 tk9 F9 N9 A9 P9
    refine cps fun k_ => ?_
    obtain ⟨tm3, fz3, bw3, t3, lf3, rfl, ht3, hh3, za3, zb3, zc3, zd3, hb3, ap3⟩ := P9
    apply k_
    clear k_
    replace N9 := news_assoc N9
    replace A9 := apart_split A9 ap3
    (try k_sweep)
    k_steps
    (try dsimp only [kRe, kS])
    exact stm_end (tm := .ifs tm1 tm2 tm3) hret (by assumption) (news_rot (by assumption)) (by assumption) (by tb_start)
      ⟨_, _, _, _, _, _, _, _, rfl, (by lia), (List.mem_cons_self), (List.mem_cons_of_mem _ (List.mem_append_right _ (List.mem_cons_self))), (List.mem_cons_of_mem _ (List.mem_append_right _ (List.mem_cons_of_mem _ (List.mem_cons_self)))), ht1.mono (fun a o (hm : (a, o) ∈ fz1) => show (a, o) ∈ _ by simp only [List.mem_cons, List.mem_append, hm, true_or, or_true]), ht2.mono (fun a o (hm : (a, o) ∈ fz2) => show (a, o) ∈ _ by simp only [List.mem_cons, List.mem_append, hm, true_or, or_true]) fun z9 => StmsAre.mono (fun a o (hm : (a, o) ∈ fz2) => show (a, o) ∈ _ by simp only [List.mem_cons, List.mem_append, hm, true_or, or_true]) _, ht3.mono (fun a o (hm : (a, o) ∈ fz3) => show (a, o) ∈ _ by simp only [List.mem_cons, List.mem_append, hm, true_or, or_true]) fun z9 => StmsAre.mono (fun a o (hm : (a, o) ∈ fz3) => show (a, o) ∈ _ by simp only [List.mem_cons, List.mem_append, hm, true_or, or_true]) _⟩ (by simp only [htS]; lia) (by lia) (by lia) (by lia) (by lia)
  · refine Halt.mk ?_
    refine useN (by assumption) (by assumption) (by first | with_reducible assumption | exact news_rot (by with_reducible assumption) | exact news_rot2 (by with_reducible assumption) | exact news_rot3 (by with_reducible assumption)) (by assumption) (by assumption) (by tb_start) (by exact rfl) (by exact rfl) hdp hun (by first | exact Nat.lt_succ_self _ | lia) (fun G₂ z9 z9 => T0 (by with_reducible assumption) (by lia) (by lia) (by lia) (by lia) (by lia)) ?_
    intro r9 ch9 h9 tk9 F9 N9 A9 P9
    refine cps fun k_ => ?_
    obtain ⟨tm1, fz1, bw1, t1, lf1, rfl, ht1, hh1, hw1, za1, zb1, zc1, zd1, hb1, ap1⟩ := P9
    apply k_
    clear k_
    replace N9 := news_assoc N9
    replace A9 := apart_split A9 ap1
    (try k_sweep)
    k_steps
    (try dsimp only [kRe, kS])
    refine Halt.mk ?_
    refine useN (by assumption) (by assumption) (by first | with_reducible assumption | exact news_rot (by with_reducible assumption) | exact news_rot2 (by with_reducible assumption) | exact news_rot3 (by with_reducible assumption)) (by assumption) (by assumption) (by tb_start) (by exact rfl) (by exact rfl) hdp hun (by first | exact Nat.lt_succ_self _ | lia) (fun G₂ z9 z9 => T1 (by with_reducible assumption) (by lia) (by lia) (by lia) (by lia) (by lia)) ?_
    intro r9 ch9 h9 tk9 F9 N9 A9 P9
    refine cps fun k_ => ?_
    obtain ⟨tm2, fz2, bw2, t2, lf2, rfl, ht2, hh2, hw2, za2, zb2, zc2, zd2, hb2, ap2⟩ := P9
    apply k_
    clear k_
    replace N9 := news_assoc N9
    replace A9 := apart_split A9 ap2
    (try k_sweep)
    k_steps
    (try dsimp only [kRe, kS])
    refine Halt.mk ?_
    refine useN (by assumption) (by assumption) (by first | with_reducible assumption | exact news_rot (by with_reducible assumption) | exact news_rot2 (by with_reducible assumption) | exact news_rot3 (by with_reducible assumption)) (by assumption) (by assumption) (by tb_start) (by exact rfl) (by exact rfl) hdp hun (by first | exact Nat.lt_succ_self _ | lia) (fun G₂ z9 z9 => B1 (by with_reducible assumption) (by lia) (by lia) (by lia) (by lia) (by lia) (by lia)) ?_
    intro r9 ch9 h9 tk9 F9 N9 A9 P9
    refine cps fun k_ => ?_
    obtain ⟨tm3, fz3, bw3, t3, lf3, rfl, ht3, hh3, za3, zb3, zc3, zd3, hb3, ap3⟩ := P9
    apply k_
    clear k_
    replace N9 := news_assoc N9
    replace A9 := apart_split A9 ap3
    (try k_sweep)
    k_steps
    (try dsimp only [kRe, kS])
    exact stm_end (tm := .foreach tm1 tm2 tm3) hret (by assumption) (news_rot (by assumption)) (by assumption) (by tb_start)
      ⟨_, _, _, _, _, _, _, _, _, _, rfl, (by lia), (List.mem_cons_self), (List.mem_cons_of_mem _ (List.mem_append_right _ (List.mem_cons_self))), (List.mem_cons_of_mem _ (List.mem_append_right _ (List.mem_cons_of_mem _ (List.mem_cons_self)))), ht1.mono (fun a o (hm : (a, o) ∈ fz1) => show (a, o) ∈ _ by simp only [List.mem_cons, List.mem_append, hm, true_or, or_true]), ht2.mono (fun a o (hm : (a, o) ∈ fz2) => show (a, o) ∈ _ by simp only [List.mem_cons, List.mem_append, hm, true_or, or_true]), ht3.mono (fun a o (hm : (a, o) ∈ fz3) => show (a, o) ∈ _ by simp only [List.mem_cons, List.mem_append, hm, true_or, or_true]) fun z9 => StmsAre.mono (fun a o (hm : (a, o) ∈ fz3) => show (a, o) ∈ _ by simp only [List.mem_cons, List.mem_append, hm, true_or, or_true]) _⟩ (by simp only [htS]; lia) (by lia) (by lia) (by lia) (by lia)
  · refine Halt.mk ?_
    refine useN (by assumption) (by assumption) (by first | with_reducible assumption | exact news_rot (by with_reducible assumption) | exact news_rot2 (by with_reducible assumption) | exact news_rot3 (by with_reducible assumption)) (by assumption) (by assumption) (by tb_start) (by exact rfl) (by exact rfl) hdp hun (by first | exact Nat.lt_succ_self _ | lia) (fun G₂ z9 z9 => B1 (by with_reducible assumption) (by lia) (by lia) (by lia) (by lia) (by lia) (by lia)) ?_
    intro r9 ch9 h9 tk9 F9 N9 A9 P9
    refine cps fun k_ => ?_
    obtain ⟨tm1, fz1, bw1, t1, lf1, rfl, ht1, hh1, za1, zb1, zc1, zd1, hb1, ap1⟩ := P9
    apply k_
    clear k_
    replace N9 := news_assoc N9
    replace A9 := apart_split A9 ap1
    (try k_sweep)
    k_steps
    (try dsimp only [kRe, kS])
    exact stm_end (tm := .bare tm1) hret (by assumption) (news_rot (by assumption)) (by assumption) (by tb_start)
      ⟨_, _, _, _, rfl, (List.mem_cons_self), ht1.mono (fun a o (hm : (a, o) ∈ fz1) => show (a, o) ∈ _ by simp only [List.mem_cons, List.mem_append, hm, true_or, or_true]) fun z9 => StmsAre.mono (fun a o (hm : (a, o) ∈ fz1) => show (a, o) ∈ _ by simp only [List.mem_cons, List.mem_append, hm, true_or, or_true]) _⟩ (by simp only [htS]; lia) (by lia) (by lia) (by lia) (by lia)
  · refine Halt.mk ?_
    refine useN (by assumption) (by assumption) (by first | with_reducible assumption | exact news_rot (by with_reducible assumption) | exact news_rot2 (by with_reducible assumption) | exact news_rot3 (by with_reducible assumption)) (by assumption) (by assumption) (by tb_start) (by exact rfl) (by exact rfl) hdp hun (by first | exact Nat.lt_succ_self _ | lia) (fun G₂ z9 z9 => T2 (by with_reducible assumption) (by lia) (by lia) (by lia) (by lia) (by lia)) ?_
    intro r9 ch9 h9 tk9 F9 N9 A9 P9
    refine cps fun k_ => ?_
    obtain ⟨tm1, fz1, bw1, t1, lf1, rfl, ht1, hh1, hw1, za1, zb1, zc1, zd1, hb1, ap1⟩ := P9
    apply k_
    clear k_
    replace N9 := news_assoc N9
    replace A9 := apart_split A9 ap1
    (try k_sweep)
    k_steps
    (try dsimp only [kRe, kS])
    exact stm_end (tm := .expr _ tm1) hret (by assumption) (news_rot (by assumption)) (by assumption) (by tb_start)
      ⟨_, _, _, _, rfl, (by lia), (by lia), (List.mem_cons_self), ht1.mono (fun a o (hm : (a, o) ∈ fz1) => show (a, o) ∈ _ by simp only [List.mem_cons, List.mem_append, hm, true_or, or_true])⟩ (by simp only [htS]; lia) (by lia) (by lia) (by lia) (by lia)
  · refine Halt.mk ?_
    refine useN (by assumption) (by assumption) (by first | with_reducible assumption | exact news_rot (by with_reducible assumption) | exact news_rot2 (by with_reducible assumption) | exact news_rot3 (by with_reducible assumption)) (by assumption) (by assumption) (by tb_start) (by exact rfl) (by exact rfl) hdp hun (by first | exact Nat.lt_succ_self _ | lia) (fun G₂ z9 z9 => T2 (by with_reducible assumption) (by lia) (by lia) (by lia) (by lia) (by lia)) ?_
    intro r9 ch9 h9 tk9 F9 N9 A9 P9
    refine cps fun k_ => ?_
    obtain ⟨tm1, fz1, bw1, t1, lf1, rfl, ht1, hh1, hw1, za1, zb1, zc1, zd1, hb1, ap1⟩ := P9
    apply k_
    clear k_
    replace N9 := news_assoc N9
    replace A9 := apart_split A9 ap1
    (try k_sweep)
    k_steps
    (try dsimp only [kRe, kS])
    exact stm_end (tm := .expr _ tm1) hret (by assumption) (news_rot (by assumption)) (by assumption) (by tb_start)
      ⟨_, _, _, _, rfl, (by lia), (by lia), (List.mem_cons_self), ht1.mono (fun a o (hm : (a, o) ∈ fz1) => show (a, o) ∈ _ by simp only [List.mem_cons, List.mem_append, hm, true_or, or_true])⟩ (by simp only [htS]; lia) (by lia) (by lia) (by lia) (by lia)
end
local macro_rules | `(tactic| kd_p1) => `(tactic| first | with_reducible assumption | exact news_rot (by k_memK) | exact news_rot2 (by k_memK) | exact news_rot3 (by k_memK))
local macro_rules | `(tactic| walk_at "exec For Name Call cons nil") => `(tactic| (refine Halt.out ?_))
local macro_rules | `(tactic| k_all) => `(tactic| with_reducible assumption)
def Blk.snoc : Blk → Stm → Blk
  | .nil, s => .cons s .nil
  | .cons a b, s => .cons a (b.snoc s)
theorem StmsAre.snoc {P : See} {v : Value} {s : Stm} (hv : StmIs P v s) : ∀ (b : Blk) {vs : List Value}, StmsAre P vs b → StmsAre P (vs ++ [v]) (b.snoc s)
  | .nil, _, e => by
    simp only [StmsAre] at e; subst e
    exact ⟨v, [], rfl, hv, rfl⟩
  | .cons a b, _, x => by
    simp only [StmsAre] at x
    refine cps fun k_ => ?_
    obtain ⟨u, r, rfl, i, j⟩ := x
    apply k_
    clear k_
    exact ⟨u, r ++ [v], rfl, i, StmsAre.snoc hv b j⟩
theorem htB_snoc (s : Stm) : ∀ b : Blk, htB (b.snoc s) = max (htB b) (1 + htS s)
  | .nil => Nat.max_comm _ _
  | .cons a b => by simp only [Blk.snoc, htB, htB_snoc s b]; exact (Nat.max_assoc _ _ _).symm
section
variable {w : World} {mean : ExcName → Option Value} {mg mb : Str → Option Value} {G : Heap} {ch : Led} {b : Addr} {t lf : Int}
theorem news_p1 {h : Heap} {L : Addr} {x a c d : Addr × Obj} {r : Led} (N : News G L h (x :: a :: c :: d :: r)) : News G L h ([a, c] ++ (x :: d :: r)) := fun p hp => N p (by
  simp only [List.mem_append, List.mem_cons, List.not_mem_nil, or_false] at hp ⊢
  rcases hp with (hp | hp) | hp | hp | hp <;> simp only [hp, true_or, or_true])
theorem news_p2 {h : Heap} {L : Addr} {x d : Addr × Obj} {a c : Led} (N : News G L h (d :: x :: (a ++ c))) : News G L h (x :: ([] ++ (a ++ (d :: c)))) := fun p hp => N p (by
  simp only [List.mem_append, List.mem_cons, List.nil_append] at hp ⊢
  rcases hp with hp | hp | hp | hp <;> simp only [hp, true_or, or_true])
theorem fr_name {h : Heap} {L : Addr} {m : Str → Option Value} {x : Str} {v : Value} (F : Fr G L h m) (hx : m x = some v) : Fr G L h (fun y => if y = x then some v else m y) := by
  have e : (fun y => if y = x then some v else m y) = m := by
    funext y
    split
    · next e => rw [e, hx]
    · rfl
  rw [e]; exact F
theorem turn_name {M : Model} {A : Around} {E : Value → Shared → Prop} {s : Shared} {env : Env} {m₁ m0 : Str → Option Value} {x : Str} {pos : Pos} {v : Value} {led : Led} {Q : Unit → Shared → Prop} (F : Fr G env.locals s.heap m₁) (N : News G env.locals s.heap led) (hx : env.kindOf x = some .local)
    (hp : (env.scope.kind == .class || (env.scope.kind == .module && env.locals != env.globals)) = false) (hm : ∀ y, y ≠ x → m₁ y = m0 y)
    (h : ∀ h' tk', Fr G env.locals h' (fun y => if y = x then some v else m0 y) → News G env.locals h' led → Q () { s with heap := h', toks := tk' }) : wpAny M A (assign (.Name x pos) env v) Q E s := by
  refine wpAny_assign_Name (wpAny_storeName_local hx F.ns (fun h' hn hs => ?_) hp)
  refine h h' _ ?_ (N.set hs)
  have e : (fun y => if y = x then some v else m0 y) = fun y => if y = x then some v else m₁ y := by
    funext y
    split
    · rfl
    · next hne => exact (hm y hne).symm
  rw [e]
  exact F.set hn hs
inductive BJ6 (w : World) (b D0 : Addr) (k : Int) (tk0 : Tok) (l : Nat) (t lf : Int) (i : Nat) (m₁ : Str → Option Value) : Led → Prop
  | mk (ch₁ fz₁ : Led) (vs : List Value) (bl : Blk) (t₁ lf₁ : Int) (kk : Nat) (a : ∀ y, y ≠ Str.ofString "turn" → m₁ y = (if y = Str.ofString "found" then some (Value.ref D0) else List.lookup y ([(Str.ofString "bowl", Value.ref b), (Str.ofString "deep", Value.int k tk0)] : List (Str × Value)).reverse))
    (c : BowlIs w b ch₁ t₁ lf₁) (d : Apart ch₁ ((D0, lstX vs kk) :: fz₁)) (e : ∀ p ∈ fz₁, p.1 ≠ D0) (f : StmsAre (seeL fz₁) vs bl) (g : vs.length ≤ i) (h : htB bl ≤ 23 + 13 * l) (q1 : 0 ≤ lf₁) (q2 : lf₁ ≤ lf) (q3 : t ≤ t₁) (q4 : t₁ + 100 * lf₁ ≤ t + 100 * lf + 1) : BJ6 w b D0 k tk0 l t lf i m₁ (ch₁ ++ ((D0, lstX vs kk) :: fz₁))
theorem blk_step (l : Nat) (ih : ∀ l', l = l' + 1 → StmC w mean mg mb b l' (35 + 13 * l')) : BlkC w mean mg mb b l (23 + 13 * l) := by
  intro G ch t tk0 k lf hb hk0 hk2 hlf0 hlf ht ht2
  refine' enter (binds := [("bowl", .ref b), ("deep", .int k tk0)]) ?k6 ?k7 ?k9 ?kB ?_ ?kn ?c5 ?c2 ?c3 ?c4
  case k6 => k_is
  case k7 => k_is
  case k9 => exact rfl
  case kB => exact locs rfl
  case kn => lia
  case c5 => decide
  case c2 => exact rfl
  case c3 => exact rfl
  case c4 => exact rfl
  k_whole
  intro dp un gd frs base A₀ s L h₁ tk₁ Qb Eb B X T hdp hun F N hlt hret hexc hown
  (try dsimp only at F)
  replace N := news_nilr N
  k_steps
  refine Halt.mk ?_
  refine forK (G := G) hown ?_
  k_steps
  (try dsimp only [kRe, kS])
  rename_i D0 _ _ _ ch9 h9 tk9 F9 N9 A9 v9 tkk9 lo9 hi9 hb9 h8 tk8 t8 u8 w8 hr8 F8 N8 keep8
  obtain ⟨n9, hn9⟩ : ∃ n : Nat, v9 = n := ⟨v9.toNat, by lia⟩
  subst hn9
  dsimp only at hr8
  refine for_at_range (n := n9) (J := BJ6 w b D0 k tk0 l t lf)
    F8 N8 hr8 (by lia) (.mk ch9 [] [] .nil (t + 1) lf 0 (fun y hy => rfl) hb9 A9 (fun z9 h => nomatch h) rfl (Nat.le_refl _) (by simp only [htB]; lia) (by lia) (by lia) (by lia) (by lia)) ?_ ?_
  · intro I h₂ tk₂ i v h tk m₁ led₁ oI hi hP hJ F₁ N₁ hne R hR
    obtain ⟨tkv, rfl⟩ := hP
    refine cps fun k_ => ?_
    obtain ⟨ch₁, fz₁, vs, bl, t₁, lf₁, kk, hm, hb₁, Ap₁, ap₁, hs₁, hlen, hh, q1, q2, q3, q4⟩ := hJ
    apply k_
    clear k_
    refine turn_name F₁ N₁ rfl rfl hm fun h₃ tk₃ F₃ N₃ => ?_
    clear hr8 F8 N8 keep8 hb9 A9 N9 F9 F₁ N₁ hret hexc
    refine cps fun k_ => ?_
    obtain ⟨cc, ob, cells, ns, tk1, tk2, rfl, hcc, hlo, hI, hob, hcl⟩ := hb₁
    apply k_
    clear k_
    have hIb : @Ne Nat I b := (hne (b, ob) (by simp)).symm
    have hIc : @Ne Nat I cc := (hne (cc, ({ cls := .type "list", data := .seq (List.toArray cells) } : Obj)) (by simp)).symm
    have hID : @Ne Nat D0 I := hne (D0, lstX vs kk) (by simp)
    have hDb : @Ne Nat D0 b := (Ap₁ (b, ob) (by simp) (D0, lstX vs kk) (by simp)).symm
    have hDc : @Ne Nat D0 cc := (Ap₁ (cc, ({ cls := .type "list", data := .seq (List.toArray cells) } : Obj)) (by simp) (D0, lstX vs kk) (by simp)).symm
    have hcb : @Ne Nat cc b := hcc.symm
    have hfb : ∀ p ∈ fz₁, p.1 ≠ b := fun p hp => (Ap₁ (b, ob) (by simp) p (by simp [hp])).symm
    have hfc : ∀ p ∈ fz₁, p.1 ≠ cc := fun p hp => (Ap₁ (cc, ({ cls := .type "list", data := .seq (List.toArray cells) } : Obj)) (by simp) p (by simp [hp])).symm
    replace N₃ : News G L h₃ ((I, oI) :: (b, ob) :: (cc, ({ cls := .type "list", data := .seq (List.toArray cells) } : Obj)) :: (D0, lstX vs kk) :: fz₁) := N₃
    replace F₃ : Fr G L h₃ _ := F₃
    k_steps
    all_goals (try dsimp only [kRe, kS])
    · refine Halt.mk ?_
      obtain ⟨l', rfl⟩ : ∃ l', l = l' + 1 := ⟨l - 1, by lia⟩
      have S : StmC w mean mg mb b l' (35 + 13 * l') := ih l' rfl
      rename News _ _ _ _ => N4
      rename Obj.IsDictOf _ _ _ => hob2
      have hb2 := (⟨cc, _, cells, ns, _, _, rfl, hcc, hlo, hI, hob2, hcl⟩ : BowlIs w b _ t₁ (lf₁ - 1))
      replace N4 := news_p1 N4
      obtain ⟨lf9, hlf9⟩ : ∃ x, x = lf₁ - 1 := ⟨_, rfl⟩
      rw [← hlf9] at hb2
      have ap9 : ∀ ob9, Apart [(b, ob9), (cc, ({ cls := .type "list", data := .seq (List.toArray cells) } : Obj))] ((I, oI) :: (D0, lstX vs kk) :: fz₁) := fun ob9 p hp q hq => by
        simp only [List.mem_cons, List.not_mem_nil, or_false] at hp hq
        rcases hp with rfl | rfl <;> rcases hq with rfl | rfl | hq
        · exact hIb.symm
        · exact hDb.symm
        · exact (hfb q hq).symm
        · exact hIc.symm
        · exact hDc.symm
        · exact (hfc q hq).symm
      refine useN (by assumption) (by assumption) (by exact N4) (by assumption) (by assumption) (by exact ap9 _) (by exact rfl) (by exact rfl) hdp hun (by first | exact Nat.lt_succ_self _ | lia) (fun G₂ z9 z9 => S (by exact hb2) (by lia) (by lia) (by lia) (by lia) (by lia) (by lia)) ?_
      intro r9 ch9 h9 tk9 F9 N9 A9 P9
      refine cps fun k_ => ?_
      obtain ⟨st, fz2, bw2, t2, lf2, rfl, hst, hhs, za, zb, zc, zd, hb3, ap3⟩ := P9
      apply k_
      clear k_
      have hall : ∀ p ∈ bw2 ++ (fz2 ++ fz₁), p.1 ≠ D0 := fun p hp => by
        rw [← List.append_assoc] at hp
        rcases List.mem_append.mp hp with hp | hp
        · exact A9 p hp (D0, lstX vs kk) (by simp)
        · exact ap₁ p hp
      have hall2 : ∀ p ∈ bw2 ++ (fz2 ++ fz₁), p.1 ≠ I := fun p hp => by
        rw [← List.append_assoc] at hp
        rcases List.mem_append.mp hp with hp | hp
        · exact A9 p hp (I, oI) (by simp)
        · exact hne p (by simp [hp])
      have A4 : Apart bw2 (fz2 ++ fz₁) := apart_split (A9.sub (fun z9 h => h) fun p hp => by simp [hp]) ap3
      replace N9 := news_sub (l' := (D0, lstX vs kk) :: (I, oI) :: (bw2 ++ (fz2 ++ fz₁))) N9 (fun p hp => by
        simp only [List.mem_append, List.mem_cons] at hp ⊢
        rcases hp with hp | hp | hp | hp | hp <;> simp only [hp, true_or, or_true])
      clear N4 A9
      (try k_sweep)
      have hDI : @Ne Nat I D0 := hID.symm
      k_steps
      rename News _ _ _ _ => N5
      rw [List.push_toArray] at N5
      refine hR _ _ ⟨_, bw2 ++ ((D0, lstX (vs ++ [r9]) (kk + 1)) :: (fz2 ++ fz₁)), _, _, rfl, by assumption, news_p2 N5, fun p hp => ?_, .mk bw2 (fz2 ++ fz₁) (vs ++ [r9]) (bl.snoc st) t2 lf2 (kk + 1) (fun y hy => if_neg hy) hb3 ?_ ?_ ?_ ?_ ?_ (by lia) (by lia) (by lia) (by lia)⟩
      · simp only [List.mem_append, List.mem_cons] at hp
        rcases hp with hp | rfl | hp | hp
        · exact hall2 p (by simp [hp])
        · exact hID
        · exact hall2 p (by simp [hp])
        · exact hall2 p (by simp [hp])
      · intro p hp q hq
        rcases List.mem_cons.mp hq with rfl | hq
        · exact hall p (List.mem_append_left _ hp)
        · exact A4 p hp q hq
      · exact fun p hp => hall p (List.mem_append_right _ hp)
      · exact StmsAre.snoc (hst.mono fun z9 z9 hm => List.mem_append_left _ hm) bl (StmsAre.mono (fun z9 z9 hm => List.mem_append_right _ hm) bl hs₁)
      · rw [List.length_append, List.length_singleton]; lia
      · rw [htB_snoc]; lia
    · refine hR _ _ ⟨_, _, _, _, rfl, by assumption, N₃, hne, .mk _ fz₁ vs bl t₁ lf₁ kk (fun y hy => if_neg hy) ⟨cc, ob, cells, ns, tk1, tk2, rfl, hcc, hlo, hI, hob, hcl⟩ Ap₁ ap₁ hs₁ (by lia) hh q1 q2 q3 q4⟩
  · intro m' led' h' tk' hJ F' N'
    refine cps fun k_ => ?_
    obtain ⟨ch₁, fz₁, vs, bl, t₁, lf₁, kk, hm, hb₁, Ap₁, ap₁, hs₁, hlen, hh, q1, q2, q3, q4⟩ := hJ
    apply k_
    clear k_
    clear hr8 F8 N8 keep8 hb9 A9 N9 F9
    replace N' : News G L h' _ := N'
    replace F' : Fr G L h' m' := F'
    replace F' := fr_name F' (show m' (Str.ofString "found") = some (Value.ref D0) from hm _ (by decide))
    k_steps
    (try dsimp only [kRe, kS])
    refine hret (.ret (.ref _)) (ch₁ ++ (_ :: (D0, lstX vs kk) :: fz₁)) _ _ _ (by assumption) (news_rot (by assumption)) ⟨bl, _, ch₁, t₁, lf₁, rfl, ⟨_, _, D0, kk, vs, rfl, List.mem_cons_self, List.mem_cons_of_mem _ List.mem_cons_self, by lia, StmsAre.mono (fun z9 z9 hm => List.mem_cons_of_mem _ (List.mem_cons_of_mem _ hm)) bl hs₁⟩, hh, q1, q2, q3, q4, hb₁, by tb_start⟩
theorem t0_ok (l : Nat) : TermC w mean mg mb b 0 l 19 13 4 := term_step 0 l 19 13 4 (by lia) (by lia) (by lia) (by lia) (fun e he => by lia)
theorem t1_ok (l : Nat) (B : BlkC w mean mg mb b l (23 + 13 * l)) : TermC w mean mg mb b 1 l 39 (29 + 13 * l) 8 := term_step 1 l 39 (29 + 13 * l) 8 (by lia) (by lia) (by lia) (by lia) (fun e he => by
  obtain rfl : e = 0 := by lia
  exact ⟨19, 13, 4, 19, 13, 4, 23 + 13 * l, t0_ok l, t0_ok l, B, by lia, by lia, by lia, by lia, by lia, by lia, by lia, by lia⟩)
theorem t2_ok (l : Nat) (B : BlkC w mean mg mb b l (23 + 13 * l)) : TermC w mean mg mb b 2 l 79 (32 + 13 * l) 16 := term_step 2 l 79 (32 + 13 * l) 16 (by lia) (by lia) (by lia) (by lia) (fun e he => by
  obtain rfl : e = 1 := by lia
  exact ⟨39, 29 + 13 * l, 8, 19, 13, 4, 23 + 13 * l, t1_ok l B, t0_ok l, B, by lia, by lia, by lia, by lia, by lia, by lia, by lia, by lia⟩)
theorem all_ok : ∀ l : Nat, BlkC w mean mg mb b l (23 + 13 * l) ∧ StmC w mean mg mb b l (35 + 13 * l)
  | 0 => have B : BlkC w mean mg mb b 0 (23 + 13 * 0) := blk_step 0 fun l' h => by lia
    ⟨B, stm_step 0 (t0_ok 0) (t1_ok 0 B) (t2_ok 0 B) B⟩
  | l + 1 => have B : BlkC w mean mg mb b (l + 1) (23 + 13 * (l + 1)) := blk_step (l + 1) fun l' h => (show l = l' by lia) ▸ (all_ok l).2
    ⟨B, stm_step (l + 1) (t0_ok _) (t1_ok _ B) (t2_ok _ B) B⟩
end
end
/-! what a program is to answer: the line of the first fault, or ok -/
abbrev Vis := List (Str × Bool)
def keyOf (sg x : Str) : Str := sg ++ x
def allKeys : List Str := sigs.flatMap fun s => allNames.map (keyOf s)
def colonNames : List Str := ["a::b", "::x"]
def oddNames : List Str := ["_", "1", "&", "0"]
def badName (my : Bool) (x : Str) : Bool := colonNames.contains x || (my && oddNames.contains x)
def runP (new : Vis) : Place → Vis
  | .name _ _ => new
  | .elem _ => new
  | .told my x => (keyOf "$" x, my) :: new
  | .one p => runP new p
  | .two p q => runP (runP new p) q
def toldP (seen : Vis) : Place → Bool
  | .name sg x => seen.lookup (keyOf sg x) == some true
  | .elem _ => false
  | .told my _ => my
  | .one p => toldP seen p
  | .two p q => toldP seen p || toldP seen q
mutual
def runT (ln : Int) (seen : Vis) : Vis → Term → Except Int Vis
  | new, .told my sg x => if badName my x then .error ln else .ok ((keyOf sg x, my) :: new)
  | new, .loc p => if toldP seen p then .error ln else .ok (runP new p)
  | new, .name _ => .ok new
  | new, .num => .ok new
  | new, .assign a b => match runT ln seen new a with
    | .error e => .error e
    | .ok n => runT ln seen n b
  | new, .anon b => match runB ln seen b with
    | .error e => .error e
    | .ok _ => .ok new
  | new, .list a b => match runT ln seen new a with
    | .error e => .error e
    | .ok n => runT ln seen n b
def runS (ln : Int) (seen : Vis) : Stm → Except Int (Int × Vis)
  | .ifs t b c => match runT ln seen [] t with
    | .error e => .error e
    | .ok n => match runB ln (n ++ seen) b with
      | .error e => .error e
      | .ok l => match runB l (n ++ seen) c with
        | .error e => .error e
        | .ok l' => .ok (l', [])
  | .foreach v i b => match runT ln seen [] v with
    | .error e => .error e
    | .ok n => match runT ln seen n i with
      | .error e => .error e
      | .ok n' => match runB ln (n' ++ seen) b with
        | .error e => .error e
        | .ok l => .ok (l, [])
  | .bare b => match runB ln seen b with
    | .error e => .error e
    | .ok l => .ok (l, [])
  | .expr l t => match runT l seen [] t with
    | .error e => .error e
    | .ok n => .ok (l, n)
def runB (ln : Int) (seen : Vis) : Blk → Except Int Int
  | .nil => .ok ln
  | .cons s b => match runS ln seen s with
    | .error e => .error e
    | .ok (l, n) => runB l (n ++ seen) b
end
/-! the lines are told from 1 -/
mutual
def linT : Term → Prop
  | .assign a b => linT a ∧ linT b
  | .anon b => linB b
  | .list a b => linT a ∧ linT b
  | _ => True
def linS : Stm → Prop
  | .ifs t b c => linT t ∧ linB b ∧ linB c
  | .foreach v i b => linT v ∧ linT i ∧ linB b
  | .bare b => linB b
  | .expr l t => 1 ≤ l ∧ linT t
def linB : Blk → Prop
  | .nil => True
  | .cons s b => linS s ∧ linB b
end
def PosT (r : Except Int Vis) : Prop := ∀ e, r = .error e → 1 ≤ e
def PosS (r : Except Int (Int × Vis)) : Prop := (∀ e, r = .error e → 1 ≤ e) ∧ ∀ l n, r = .ok (l, n) → 1 ≤ l
def PosB (r : Except Int Int) : Prop := (∀ e, r = .error e → 1 ≤ e) ∧ ∀ l, r = .ok l → 1 ≤ l
mutual
theorem posT {ln : Int} (hl : 1 ≤ ln) {seen : Vis} : ∀ (t : Term) {new : Vis}, linT t → PosT (runT ln seen new t)
  | .told my sg x, _, _ => fun e he => by simp only [runT] at he; split at he <;> cases he; exact hl
  | .loc p, _, _ => fun e he => by simp only [runT] at he; split at he <;> cases he; exact hl
  | .name _, _, _ => fun e he => by simp only [runT] at he; cases he
  | .num, _, _ => fun e he => by simp only [runT] at he; cases he
  | .assign a b, new, h => fun e he => by
    simp only [linT] at h
    simp only [runT] at he
    split at he
    · next e' h' => cases he; exact posT hl a h.1 _ h'
    · exact posT hl b h.2 _ he
  | .anon b, _, h => fun e he => by
    simp only [linT] at h
    simp only [runT] at he
    split at he
    · next e' h' => cases he; exact (posB hl b h).1 _ h'
    · cases he
  | .list a b, new, h => fun e he => by
    simp only [linT] at h
    simp only [runT] at he
    split at he
    · next e' h' => cases he; exact posT hl a h.1 _ h'
    · exact posT hl b h.2 _ he
theorem posS {ln : Int} (hl : 1 ≤ ln) {seen : Vis} : ∀ (s : Stm), linS s → PosS (runS ln seen s)
  | .ifs t b c, h => by
    simp only [linS] at h
    simp only [runS]
    split
    · next e he => exact ⟨fun e' h' => by cases h'; exact posT hl t h.1 _ he, fun z9 z9 h' => by cases h'⟩
    · split
      · next e he => exact ⟨fun e' h' => by cases h'; exact (posB hl b h.2.1).1 _ he, fun z9 z9 h' => by cases h'⟩
      · next l hb =>
        have hl2 := (posB hl b h.2.1).2 _ hb
        split
        · next e he => exact ⟨fun e' h' => by cases h'; exact (posB hl2 c h.2.2).1 _ he, fun z9 z9 h' => by cases h'⟩
        · next l' hc => exact ⟨fun z9 h' => (by cases h'), fun z9 z9 h' => by cases h'; exact (posB hl2 c h.2.2).2 _ hc⟩
  | .foreach v i b, h => by
    simp only [linS] at h
    simp only [runS]
    split
    · next e he => exact ⟨fun e' h' => by cases h'; exact posT hl v h.1 _ he, fun z9 z9 h' => by cases h'⟩
    · split
      · next e he => exact ⟨fun e' h' => by cases h'; exact posT hl i h.2.1 _ he, fun z9 z9 h' => by cases h'⟩
      · split
        · next e he => exact ⟨fun e' h' => by cases h'; exact (posB hl b h.2.2).1 _ he, fun z9 z9 h' => by cases h'⟩
        · next l' hc => exact ⟨fun z9 h' => (by cases h'), fun z9 z9 h' => by cases h'; exact (posB hl b h.2.2).2 _ hc⟩
  | .bare b, h => by
    simp only [linS] at h
    simp only [runS]
    split
    · next e he => exact ⟨fun e' h' => by cases h'; exact (posB hl b h).1 _ he, fun z9 z9 h' => by cases h'⟩
    · next l' hc => exact ⟨fun z9 h' => (by cases h'), fun z9 z9 h' => by cases h'; exact (posB hl b h).2 _ hc⟩
  | .expr l t, h => by
    simp only [linS] at h
    simp only [runS]
    split
    · next e he => exact ⟨fun e' h' => by cases h'; exact posT h.1 t h.2 _ he, fun z9 z9 h' => by cases h'⟩
    · exact ⟨fun z9 h' => (by cases h'), fun z9 z9 h' => by cases h'; exact h.1⟩
theorem posB {ln : Int} (hl : 1 ≤ ln) {seen : Vis} : ∀ (b : Blk), linB b → PosB (runB ln seen b)
  | .nil, _ => ⟨fun z9 h => (by simp only [runB] at h; cases h), fun z9 h => by simp only [runB] at h; cases h; exact hl⟩
  | .cons s b, h => by
    simp only [linB] at h
    simp only [runB]
    split
    · next e he => exact ⟨fun e' h' => by cases h'; exact (posS hl s h.1).1 _ he, fun z9 h' => (by cases h')⟩
    · next l n hs => exact posB ((posS hl s h.1).2 _ _ hs) b h.2
end
mutual
theorem TermIs.lin {P : See} : ∀ (t : Term) {v : Value}, TermIs P v t → linT t
  | .told _ _ _, _, _ => trivial
  | .loc _, _, _ => trivial
  | .name _, _, _ => trivial
  | .num, _, _ => trivial
  | .assign p q, _, x => let ⟨_, _, _, _, _, _, i, j⟩ := x; ⟨TermIs.lin p i, TermIs.lin q j⟩
  | .anon b, _, x => let ⟨_, _, _, _, _, _, _, _, _, _, _, _, _, m⟩ := x; let ⟨_, _, _, _, _, _, _, _, _, z⟩ := m; show linB b from StmsAre.lin b z
  | .list p q, _, x => let ⟨_, _, _, _, _, _, _, _, _, i, j⟩ := x; ⟨TermIs.lin p i, TermIs.lin q j⟩
theorem StmIs.lin {P : See} : ∀ (t : Stm) {v : Value}, StmIs P v t → linS t
  | .ifs t b c, _, x => let ⟨_, _, _, _, _, _, _, _, _, _, _, _, _, m, r, q⟩ := x; ⟨TermIs.lin t m, (let ⟨_, _, _, _, _, _, _, _, _, z⟩ := r; StmsAre.lin b z), (let ⟨_, _, _, _, _, _, _, _, _, z⟩ := q; StmsAre.lin c z)⟩
  | .foreach y z b, _, x => let ⟨_, _, _, _, _, _, _, _, _, _, _, _, _, _, _, m, r, q⟩ := x; ⟨TermIs.lin y m, TermIs.lin z r, (let ⟨_, _, _, _, _, _, _, _, _, u⟩ := q; StmsAre.lin b u)⟩
  | .bare b, _, x => let ⟨_, _, _, _, _, _, q⟩ := x; show linB b from (let ⟨_, _, _, _, _, _, _, _, _, u⟩ := q; StmsAre.lin b u)
  | .expr _ t, _, x => let ⟨_, _, _, _, _, i, _, _, q⟩ := x; ⟨i, TermIs.lin t q⟩
theorem StmsAre.lin {P : See} : ∀ (b : Blk) {vs : List Value}, StmsAre P vs b → linB b
  | .nil, _, _ => trivial
  | .cons s b, _, x => let ⟨_, _, _, i, j⟩ := x; ⟨StmIs.lin s i, StmsAre.lin b j⟩
end
theorem mro_dict : mroOf (.type "dict") = pure [.type "dict", .type "object"] := by rw [mroOf_type]; kernel_rfl
theorem lookup_dict_new : typeLookup (.type "dict") "__new__" = pure (some (.builtin "dict.__new__")) := by rw [typeLookup_type, builtinLookup_eq_fast]; kernel_rfl
theorem called_dict : TypeCalled "dict" "dict.__new__" "dict.__init__" :=
  ⟨by decide +kernel, by decide +kernel, ⟨_, _, mro_dict⟩, madeBy_type mro_dict lookup_dict_new (by decide +kernel), by decide +kernel, by rw [isSubtype_type]; kernel_rfl, F.slot_dict_init⟩
theorem typeCall_dict_1 (a : Value) : checkTypeCall "dict" ⟨[a], []⟩ = pure () := by kernel_rfl
theorem newCall_dict_1 (a : Value) : checkBuiltinCall "dict.__new__" ⟨[.type "dict", a], []⟩ = pure () := by kernel_rfl
theorem entry_dict_new : entryFor table "dict.__new__" = some Builtin.«dict.__new__» := entryFor_of_tree (by kernel_rfl)
theorem plain_dict_new : plainId "dict.__new__" = true := by decide +kernel
section
variable {prog : Program} {w : World} {A : Around} {E : Value → Shared → Prop} {s : Shared}
theorem code_dict_new (a : Value) {Q₁ : Value → Shared → Prop}
    (h : Q₁ (.ref s.heap.objs.size) { s with heap := s.heap.push { cls := .type "dict", data := .dict #[] } }) :
    codeAny (model prog w) A (.call (.builtin "dict.__new__") ⟨[.type "dict", a], []⟩) (wants Q₁ E) s := by
  refine codeAny_of_tree ?_
  show wpAny _ A.in1 (do checkBuiltinCall "dict.__new__" ⟨[.type "dict", a], []⟩; again (.builtin "dict.__new__" ⟨[.type "dict", a], []⟩)) _ _ s
  refine wpAny_bind (wpAny_of_eq (newCall_dict_1 a) (wpAny_pure ⟨plainId_quiet plain_dict_new _, codeAny_builtin entry_dict_new ?_⟩))
  rw [Around.under_plainId plain_dict_new _]
  have hsub := isSubtype_dict_dict
  have hmro := mro_dict
  obtain ⟨hp, g, d, tk, os⟩ := s
  wp_walk
  exact h
theorem call_dict_init {arg : Value} {Q : Value → Shared → Prop}
    (h : wpAny (model prog w) A.in1.in1 (Builtin.Dict.updateFrom "dict.__init__" s.heap.objs.size arg [] .none)
      (fun fin s' => match fin with | .done f => wants (fun r s₂ => r = .none ∧ Q (.ref s.heap.objs.size) s₂) E (.ok f) s' | .again c' => c'.quiet = true ∧ codeAny (model prog w) A.in1 c' (wants (fun r s₂ => r = .none ∧ Q (.ref s.heap.objs.size) s₂) E) s')
      (fun e s' => wants (fun r s₂ => r = .none ∧ Q (.ref s.heap.objs.size) s₂) E (.error e) s') { s with heap := s.heap.push { cls := .type "dict", data := .dict #[] } }) :
    wpAny (model prog w) A (call (.type "dict") [arg]) Q E s := by
  refine callType_codes (Q₁ := fun obj s₁ => obj = .ref s.heap.objs.size ∧ s₁ = { s with heap := s.heap.push { cls := .type "dict", data := .dict #[] } }) called_dict (typeCall_dict_1 _) F.entry_dict_init
    (code_dict_new _ ⟨rfl, rfl⟩) fun obj s₁ h₁ => ?_
  obtain ⟨rfl, rfl⟩ := h₁
  have hS : (s.heap.push { cls := .type "dict", data := .dict #[] }).get? s.heap.objs.size = some { cls := .type "dict", data := .dict #[] } := Heap.get?_push_size _ rfl
  refine ⟨⟨_, hS, rfl⟩, F.args_dict_init_2 _ _, ?_⟩
  show wpAny _ _ (Builtin.«dict.__init__» ⟨[.ref s.heap.objs.size, arg], []⟩) _ _ _
  unfold Builtin.«dict.__init__»
  refine wpAny_bind ?_
  unfold Builtin.Dict.selfAndRest
  refine wpAny_bind (wpAny_notOrdered_dict ⟨_, hS, rfl⟩ ?_)
  show wpAny _ _ (pure (s.heap.objs.size, [arg])) _ _ _
  exact wpAny_pure h
theorem call_dict_copy {K : Type} [DecidableEq K] {knd : KeyKind prog w K} {o : Addr} {kvs : List (K × Value)} {Q : Value → Shared → Prop} (ho : s.heap.DictOf knd o kvs) (hoS : (o == sysModules) = false) (hsz : kvs.length ≤ sizeLine)
    (h : ∀ h', h'.DictOf knd s.heap.objs.size kvs → (∀ b ob, s.heap.get? b = some ob → h'.get? b = some ob) → Q (.ref s.heap.objs.size) { s with heap := h' }) :
    wpAny (model prog w) A (call (.type "dict") [.ref o]) Q E s := by
  refine call_dict_init ?_
  have hS : (s.heap.push { cls := .type "dict", data := .dict #[] }).get? s.heap.objs.size = some { cls := .type "dict", data := .dict #[] } := Heap.get?_push_size _ rfl
  have hne : s.heap.objs.size ≠ o := fun e => by
    obtain ⟨oo, _, _, hh, _⟩ := ho
    exact Nat.lt_irrefl _ (e ▸ Heap.lt_size hh)
  have ho' : (s.heap.push { cls := .type "dict", data := .dict #[] }).DictOf knd o kvs := ho.keep fun b ob e => Heap.get?_push_of_some _ e
  have hd' : (s.heap.push { cls := .type "dict", data := .dict #[] }).DictOf knd s.heap.objs.size ([] : List (K × Value)) :=
    ⟨_, #[], 0, hS, ⟨rfl, rfl, rfl⟩, rfl, (fun e he => by simp at he), .nil, .nil⟩
  unfold Builtin.Dict.updateFrom
  refine wpAny_bind (wpAny_typeOf ho'.typeIs ?_)
  rw [if_neg (by decide)]
  refine wpAny_bind ?_
  unfold Builtin.Dict.merge
  refine wpAny_bind ?_
  · unfold Builtin.Dict.readDirectly
    refine wpAny_bind (wpAny_isInstance ho'.typeIs isSubtype_dict_dict ?_)
    simp only [Bool.not_true, Bool.false_eq_true, if_false]
    refine wpAny_bind (wpAny_specialOf ho'.typeIs F.slot_dict_iter.lookup (wpAny_pure ?_))
    simp only [beq_self_eq_true, if_true]
    refine wpAny_bind (wpAny_pure ?_)
    refine wpAny_mergeDict (hsz := by simpa using hsz) hne hoS hd' ho' fun h' hd'' ho'' hs' => ?_
    show wpAny _ _ (Builtin.Dict.addKeywords _ [] >>= _) _ _ _
    have hn : (kvs.map (·.1)).Nodup := by obtain ⟨_, _, _, _, _, _, _, _, hn⟩ := ho; exact hn
    rw [merged_nil_of_nodup kvs hn] at hd''
    exact wpAny_bind (wpAny_pure (wpAny_pure ⟨rfl, h h' hd'' fun b ob e => hs'.extBut b ob (fun q => Nat.lt_irrefl _ (q ▸ Heap.lt_size e)) (Heap.get?_push_of_some _ e)⟩))
end
theorem lk_list_keys : typeLookup (.type "list") "keys" = pure none := by rw [typeLookup_type, builtinLookup_eq_fast]; kernel_rfl
theorem entry_upd_loop : entryFor table "dict.update.loop" = some Builtin.«dict.update.loop» := entryFor_of_tree (by kernel_rfl)
theorem plain_upd_loop : plainId "dict.update.loop" = true := by decide +kernel
section
variable {prog : Program} {w : World} {A : Around} {E : Value → Shared → Prop} {s : Shared}
theorem getAttrQ_miss_list {a : Addr} {o : Obj} {xs : Array Value} {k : Nat} {name : Str} {Q : Option Value → Shared → Prop}
    (hx : s.heap.get? a = some o) (hc : o.cls = .type "list") (hdat : o.data = .seq xs k) (hd : o.dict = none) (hmiss : typeLookup (.type "list") name = pure none) (hname : (["__module__", "__name__", "__qualname__", "__doc__", "__annotations__"] : List Str).contains name = false) (hA : A.handled = none)
    (h : ∀ h' tk, (∀ b ob, s.heap.get? b = some ob → h'.get? b = some ob) → Q none { s with heap := h', toks := tk }) (hsz : name.length + 100 ≤ sizeLine := by size_fits) :
    wpAny (model prog w) A (getAttr? (.ref a) name) Q E s := by
  refine cps fun k_ => ?_
  obtain ⟨c, dct, dat, sl⟩ := o
  apply k_
  clear k_
  simp only at hc hdat hd
  subst hc hdat hd
  refine cps fun k_ => ?_
  obtain ⟨hp, g, d, tk, os⟩ := s
  apply k_
  clear k_
  have hT : ∀ tk', (⟨hp, g, d, tk', os⟩ : Shared).TypeIs (.ref a) "list" := fun z9 => ⟨_, hx, rfl⟩
  have f1 := sub_AttributeError
  have f3 := F.slot_list_getattribute.lookup
  have f4 := F.slot_list_getattribute.bind (.ref a)
  have f5 := am_list_getattr_none
  unfold getAttr? getAttrBy? getAttrBy
  repeat (any_goals (first | assumption | exact hT _ | ((with_reducible show wpAny _ _ (call (Value.builtin "list.__getattribute__") _ _) _ _ _); refine call_meets F.slot_list_getattribute (hT _) am_entry_list_getattribute (F.args_list_getattribute_2 _ _) (meets_getattribute_miss_list a xs k sl name _ hmiss hname hsz) ⟨hx, hA, fun h' tk' e hx' => ?_⟩) | wp_step))
  refine cps fun k_ => ?_
  obtain ⟨t', u', he⟩ := hx'.there
  apply k_
  clear k_
  show wpAny _ _ (getattributeRaised _ _ _ _ _ _ _) _ _ _
  unfold getattributeRaised
  repeat (any_goals (first | assumption | wp_step))
  exact h _ _ fun b ob hb => hx'.keeps b ob hb
def PairsAt {K : Type} [DecidableEq K] (knd : PySem.KeyKind prog w K) (h : Heap) (items : Array Value) (more : List (K × Value)) : Prop :=
  items.size = more.length ∧ ∀ (j : Nat) (kv : K × Value), more[j]? = some kv → ∃ t key u, items[j]? = some (Value.ref t) ∧ h.get? t = some { cls := .type "tuple", data := .seq #[key, kv.2] u } ∧ knd.is kv.1 key = true
theorem upd_loop {K : Type} [DecidableEq K] {knd : PySem.KeyKind prog w K} (hh : A.handled = none) {R : Result → Shared → Prop} {d l I : Addr} {items : Array Value} {more kvs : List (K × Value)} (hld : l ≠ d) (hlI : l ≠ I) (hdI : d ≠ I) (hsz : kvs.length + more.length ≤ sizeLine) (ts : List Addr) (hts : ∀ t ∈ ts, t ≠ d ∧ t ≠ I)
    (hpairs : ∀ (j : Nat) (kv : K × Value), more[j]? = some kv → ∃ t ∈ ts, items[j]? = some (Value.ref t)) (hn : items.size = more.length) :
    ∀ (k i : Nat) (s : Shared), items.size - i = k → i ≤ items.size → s.heap.IsListIter I l i → s.heap.IsList l items → s.heap.DictOf knd d (merged kvs (more.take i)) → PairsAt knd s.heap items more →
      (∀ h' tk, h'.DictOf knd d (merged kvs more) → (∀ b ob, b ≠ d → b ≠ I → s.heap.get? b = some ob → h'.get? b = some ob) → R (.ok (.ret .none)) { s with heap := h', toks := tk }) →
      codeAny (model prog w) A (.builtin "dict.update.loop" ⟨[.ref d, .ref I, .int i 0, .none], []⟩) R s := by
  intro k
  induction k with
  | zero =>
    intro i s hk hi hit hl hd hp hR
    obtain rfl : i = items.size := sub_end hk hi
    refine codeAny_builtin entry_upd_loop ?_
    rw [Around.under_plainId plain_upd_loop _]
    show wpAny _ A.in1 (pyNext (.ref I) >>= _) _ _ s
    refine wpAny_bind ((Walks.list (A := A.in1) hh I l hlI items).done s _ _ ⟨hit, hl⟩ fun h' tk hk' => ?_)
    rw [hn, List.take_length] at hd
    refine wpAny_pure (hR h' tk ?_ fun b ob hb hb' e => hk' b ob (by simpa using hb') e)
    refine cps fun k_ => ?_
    obtain ⟨o, es, ep, ho, r⟩ := hd
    apply k_
    clear k_
    exact ⟨o, es, ep, hk' d o (by simpa using hdI) ho, r⟩
  | succ k ih =>
    intro i s hk hi hit hl hd hp hR
    have hlt : i < items.size := sub_lt hk
    refine codeAny_builtin entry_upd_loop ?_
    rw [Around.under_plainId plain_upd_loop _]
    show wpAny _ A.in1 (pyNext (.ref I) >>= _) _ _ s
    refine wpAny_bind ((Walks.list (A := A.in1) hh I l hlI items).item i s _ _ hlt ⟨hit, hl⟩ fun v h' tk hP hst hk' => ?_)
    have hm : i < more.length := hn ▸ hlt
    refine cps fun k_ => ?_
    obtain ⟨t, htm, hti⟩ := hpairs i more[i] (List.getElem?_eq_getElem hm)
    apply k_
    clear k_
    refine cps fun k_ => ?_
    obtain ⟨t', key, u, ht1, ht2, hkey⟩ := hp.2 i more[i] (List.getElem?_eq_getElem hm)
    apply k_
    clear k_
    rw [hti] at ht1; cases ht1
    rw [hti] at hP; cases hP
    have keep : ∀ b ob, b ≠ I → s.heap.get? b = some ob → h'.get? b = some ob := fun b ob hb e => hk' b ob (by simpa using hb) e
    have ht3 := keep t _ (hts t htm).2 ht2
    have hd' : h'.DictOf knd d (merged kvs (more.take i)) := by
      refine cps fun k_ => ?_
      obtain ⟨o, es, ep, ho, r⟩ := hd
      apply k_
      clear k_
      exact ⟨o, es, ep, keep d o hdI ho, r⟩
    refine wpAny_bind (wpAny_holding (wpAny_bind (wpAny_tryCatch ?_)))
    unfold Builtin.Dict.pairItems
    refine wpAny_bind (wpAny_typeOf ⟨_, ht3, rfl⟩ ?_)
    rw [if_pos (by decide)]
    refine wpAny_bind (wpAny_seqItems ht3 rfl (wpAny_pure ?_))
    · show wpAny _ _ (holding [key, more[i].2] (dictSet d key more[i].2)) _ _ _
      have hmx : (merged kvs (more.take i)).length ≤ sizeLine := by
        have e1 := merged_length_le kvs (more.take i)
        have e2 : (more.take i).length ≤ more.length := by rw [List.length_take]; lia
        lia
      refine wpAny_holding (wpAny_dictSet_pairs (hsz := hmx) hkey hd' fun h₂ hd₂ hs₂ => ?_)
      have e : merged kvs (more.take (i + 1)) = stored (merged kvs (more.take i)) more[i].1 more[i].2 := merged_take_succ kvs more i more[i] (List.getElem?_eq_getElem hm)
      rw [← e] at hd₂
      refine wpAny_pure ⟨plainId_quiet plain_upd_loop _, ?_⟩
      have c : rawInt ((i : Int) + 1) = Value.int ((i + 1 : Nat) : Int) 0 := by simp [rawInt]
      rw [c]
      refine ih (i + 1) _ (sub_step hk) hlt (hst.1.at fun o e => (hs₂.2 I hdI.symm).trans e) (hst.2.at fun o e => (hs₂.2 l hld).trans e) hd₂ ⟨hp.1, fun j kv hj => ?_⟩ fun h₃ tk₃ a b => hR h₃ tk₃ a fun x ob hx hx' e => b x ob hx hx' ((hs₂.2 x hx).trans (keep x ob hx' e))
      refine cps fun k_ => ?_
      obtain ⟨t2, htm2, hti2⟩ := hpairs j kv hj
      apply k_
      clear k_
      refine cps fun k_ => ?_
      obtain ⟨t3, key3, u3, q1, q2, q3⟩ := hp.2 j kv hj
      apply k_
      clear k_
      rw [hti2] at q1; cases q1
      exact ⟨t2, key3, u3, hti2, (hs₂.2 t2 (hts t2 htm2).1).trans (keep t2 _ (hts t2 htm2).2 q2), q3⟩
theorem call_dict_pairs {K : Type} [DecidableEq K] {knd : PySem.KeyKind prog w K} (hh : A.handled = none) {l : Addr} {items : Array Value} {n : Nat} {more : List (K × Value)} {Q : Value → Shared → Prop} (hl : s.heap.get? l = some { cls := .type "list", data := .seq items n }) (hp : PairsAt knd s.heap items more) (hsz : more.length ≤ sizeLine)
    (h : ∀ h' tk, h'.DictOf knd s.heap.objs.size (merged [] more) → (∀ b ob, s.heap.get? b = some ob → h'.get? b = some ob) → Q (.ref s.heap.objs.size) { s with heap := h', toks := tk }) :
    wpAny (model prog w) A (call (.type "dict") [.ref l]) Q E s := by
  refine call_dict_init ?_
  have up : ∀ b ob, s.heap.get? b = some ob → (s.heap.push { cls := .type "dict", data := .dict #[] }).get? b = some ob := fun b ob e => Heap.get?_push_of_some _ e
  have hS : (s.heap.push { cls := .type "dict", data := .dict #[] }).get? s.heap.objs.size = some { cls := .type "dict", data := .dict #[] } := Heap.get?_push_size _ rfl
  generalize (s.heap.push { cls := .type "dict", data := .dict #[] }) = h₁ at up hS ⊢
  have hl₁ := up _ _ hl
  unfold Builtin.Dict.updateFrom
  refine wpAny_bind (wpAny_typeOf ⟨_, hl₁, rfl⟩ ?_)
  rw [if_pos (by decide)]
  refine wpAny_bind (getAttrQ_miss_list hl₁ rfl rfl rfl lk_list_keys (by decide) hh fun h₂ tk₂ hk₂ => ?_)
  show wpAny _ _ (rule _ >>= _) _ _ _
  refine wpAny_bind (wpAny_rule ?_)
  have hl₂ : h₂.IsList l items := ⟨_, hk₂ _ _ hl₁, rfl, _, rfl⟩
  refine wpAny_bind (wpAny_pyIter_list hl₂ ?_)
  have hlI : ∀ b ob, h₂.get? b = some ob → b ≠ h₂.objs.size := fun b ob e q => Nat.lt_irrefl _ (q ▸ Heap.lt_size e)
  have hlD : ∀ b ob, s.heap.get? b = some ob → b ≠ s.heap.objs.size := fun b ob e q => Nat.lt_irrefl _ (q ▸ Heap.lt_size e)
  have up3 : ∀ b ob, h₂.get? b = some ob → (h₂.push { cls := .type "list_iterator", data := .fields #[.ref l, .int 0 0] }).get? b = some ob := fun b ob e => Heap.get?_push_of_some _ e
  have hI : (h₂.push { cls := .type "list_iterator", data := .fields #[.ref l, .int 0 0] }).get? h₂.objs.size = some { cls := .type "list_iterator", data := .fields #[.ref l, .int 0 0] } := Heap.get?_push_size _ rfl
  have hDI := hlI _ _ (hk₂ _ _ hS)
  dsimp only
  generalize (h₂.push { cls := .type "list_iterator", data := .fields #[.ref l, .int 0 0] }) = h₃ at up3 hI ⊢
  have all3 : ∀ b ob, s.heap.get? b = some ob → h₃.get? b = some ob := fun b ob e => up3 b ob (hk₂ b ob (up b ob e))
  refine wpAny_pure ⟨plainId_quiet plain_upd_loop _, ?_⟩
  have ts : ∀ j kv, more[j]? = some kv → ∃ t ∈ items.toList.filterMap (fun | .ref t => if (s.heap.get? t).isSome then some t else none | _ => none), items[j]? = some (Value.ref t) := fun j kv hj => by
    refine cps fun k_ => ?_
    obtain ⟨t, key, u, q1, q2, q3⟩ := hp.2 j kv hj
    apply k_
    clear k_
    refine ⟨t, List.mem_filterMap.mpr ⟨.ref t, ?_, by simp [q2]⟩, q1⟩
    exact Array.mem_toList_iff.mpr (Array.mem_of_getElem? q1)
  have hD₃ := up3 _ _ (hk₂ _ _ hS)
  have hd0 : h₃.DictOf knd s.heap.objs.size ([] : List (K × Value)) := ⟨_, #[], 0, hD₃, ⟨rfl, rfl, rfl⟩, rfl, (fun e he => by simp at he), .nil, .nil⟩
  refine upd_loop (A := A.in1) (R := wants (fun r s₂ => r = Value.none ∧ Q (Value.ref s.heap.objs.size) s₂) E) (knd := knd) (more := more) (kvs := []) hh (hlD _ _ hl) (hlI _ _ (hk₂ _ _ hl₁)) hDI (by simpa using hsz) _ (fun t ht => ?_) ts hp.1 _ 0 { s with heap := h₃, toks := tk₂ } rfl (Nat.zero_le _) ⟨_, hI, rfl, rfl⟩ ⟨_, up3 _ _ (hk₂ _ _ hl₁), rfl, _, rfl⟩
    (by simpa [merged] using hd0) ⟨hp.1, fun j kv hj => ?_⟩ fun h' tk' a b => ⟨rfl, h h' tk' a fun x ob e => b x ob (hlD _ _ e) (hlI _ _ (hk₂ _ _ (up _ _ e))) (all3 _ _ e)⟩
  · refine cps fun k_ => ?_
    obtain ⟨v, hv, hvt⟩ := List.mem_filterMap.mp ht
    apply k_
    clear k_
    cases v with
    | ref t' =>
      dsimp only at hvt
      split at hvt
      · next hs =>
        cases hvt
        obtain ⟨ob, hob⟩ := Option.isSome_iff_exists.mp hs
        exact ⟨hlD _ _ hob, hlI _ _ (hk₂ _ _ (up _ _ hob))⟩
      · cases hvt
    | _ => simp at hvt
  · refine cps fun k_ => ?_
    obtain ⟨t, key, u, q1, q2, q3⟩ := hp.2 j kv hj
    apply k_
    clear k_
    exact ⟨t, key, u, q1, all3 _ _ q2, q3⟩
end
abbrev ItIter (h : Heap) (it d : Addr) (f0 f1 : Value) (i n ep : Nat) (ok ov : Value) : Prop :=
  h.get? it = some { cls := .type "dict_itemiterator", dict := none, data := .fields #[f0, f1, .ref d, .int i 0, .int n 0, .int ep 0, ok, ov], slots := #[] }
section
variable {prog : Program} {w : World} {A : Around} {E : Value → Shared → Prop} {s : Shared}
theorem wpAny_loadIfAlive {M : Model} {a : Addr} {o : Obj} {Q : Option Obj → Shared → Prop} (ho : s.heap.get? a = some o) (h : Q (some o) s) : wpAny M A (loadIfAlive a) Q E s := fun Γ p hΓ => by
  unfold loadIfAlive
  rw [Sem.wp_loadIfAlive, ho]
  exact Sem.wp_pure .. ▸ h
theorem items_next {K : Type} [DecidableEq K] {knd : PySem.KeyKind prog w K} {it d : Addr} {i ep : Nat} {kvs : List (K × Value)} {k : K} {v ok ov f0 f1 : Value} {Q : Option Value → Shared → Prop} (hit : ItIter s.heap it d f0 f1 i kvs.length ep ok ov)
    (hf : (f0 = .none ∧ f1 = .bool false) ∨ ∃ a o, f0 = rawInt ((a : Nat) : Int) ∧ s.heap.get? a = some o ∧ a ≠ it)
    (hm : s.heap.DictAt knd d kvs ep) (hx : kvs[i]? = some (k, v))
    (hQ : ∀ key h' a f1' ok' ov' o, (a = s.heap.objs.size ∨ f0 = rawInt ((a : Nat) : Int)) → knd.is k key = true → ItIter h' it d (rawInt ((a : Nat) : Int)) f1' (i + 1) kvs.length ep ok' ov' → h'.get? a = some o → a ≠ it →
      h'.get? s.heap.objs.size = some { cls := .type "tuple", data := .seq #[key, v] } → h'.objs.size = s.heap.objs.size + 1 →
      (∀ b o, b ≠ it → s.heap.get? b = some o → h'.get? b = some o) → Q (some (.ref s.heap.objs.size)) { s with heap := h' }) :
    wpAny (model prog w) A (pyNext (.ref it)) Q E s := by
  rcases hf with ⟨rfl, rfl⟩ | ⟨a, oa, rfl, hoa, hai⟩
  · refine wpAny_pyNext_items_item hit hm hx fun key h' q1 q2 q3 q4 q5 => hQ key h' s.heap.objs.size _ _ _ _ (.inl rfl) q1 q2 q3 (Nat.ne_of_gt (Heap.lt_size hit)) q3 q4 q5
  refine cps fun k_ => ?_
  obtain ⟨hp, g, dr, tk, os⟩ := s
  apply k_
  clear k_
  refine cps fun k_ => ?_
  obtain ⟨od, es, hod, hcd, hdd, hk, hpr, hn⟩ := id hm
  apply k_
  clear k_
  have hT : Shared.TypeIs ⟨hp, g, dr, tk, os⟩ (.ref it) "dict_itemiterator" := ⟨_, hit, rfl⟩
  unfold pyNext
  refine wpAny_bind (wpAny_attempt (wpAny_callSpecial?_slot (name := Str.ofString "__next__") hT F.slot_dict_itemiterator_next
    (wpAny_call_entry F.slot_dict_itemiterator_next hT F.entry_dict_itemiterator_next ?_ (F.args_dict_itemiterator_next_1 _))))
  refine wpAny_bind (wpAny_pure ?_)
  refine wpAny_bind ?_
  refine wpAny_bind ?_
  first | refine wpAny_bind (wpAny_typeNameOfWhole_itemiter hT (wpAny_pure ?_)) | refine wpAny_bind (wpAny_typeNameOf_itemiter hT (wpAny_pure ?_))
  refine wpAny_bind (wpAny_fieldsOf hit rfl ?_)
  have hown : Builtin.Dict_items.ownsTuple "dict_itemiterator" = true := by decide
  simp only [hown, if_true]
  show wpAny _ _ (if (Value.ref d == Value.none) = true then _ else _) _ _ _
  rw [if_neg (show ¬ ((Value.ref d == Value.none) = true) from Bool.false_ne_true)]
  refine wpAny_bind (wpAny_pure ?_)
  refine wpAny_bind (wpAny_dictEntries hod hdd ?_)
  have hsz : es.size = kvs.length := by rw [← hpr.length]; simp
  rw [if_neg (by rw [hsz]; simp)]
  refine wpAny_bind (wpAny_pure ?_)
  refine wpAny_bind (wpAny_dictEpoch hod hdd ?_)
  rw [if_neg (by simp)]
  refine wpAny_pure ?_
  have hlt : i < kvs.length := by
    rcases Nat.lt_or_ge i kvs.length with h | h
    · exact h
    · simp [List.getElem?_eq_none h] at hx
  have hlt' : i < es.size := by rw [hsz]; exact hlt
  obtain ⟨hkey, hval⟩ := hpr.get? (e := es[i]) (by simp [hlt']) hx
  simp only [show ¬ ((i : Int) < 0) from by lia, if_false, Int.toNat_natCast, Array.getElem?_eq_getElem hlt']
  refine wpAny_bind ?_
  first | refine wpAny_bind (wpAny_typeNameOfWhole_itemiter hT (wpAny_pure ?_)) | refine wpAny_bind (wpAny_typeNameOf_itemiter hT (wpAny_pure ?_))
  refine wpAny_bind (wpAny_isOneOf_itemiter hT ?_)
  show wpAny _ _ (setField (.ref it) 3 (rawInt ((i : Int) + 1)) >>= _) _ _ ⟨hp, g, dr, tk, os⟩
  refine wpAny_bind (wpAny_setField_rec hit (by simp) fun h₁ he₁ hs₁ => ?_)
  replace hs₁ : Heap.SameBut it hp h₁ := hs₁
  replace he₁ : ItIter h₁ it d (rawInt ((a : Nat) : Int)) f1 (i + 1) kvs.length ep ok ov := by
    have e : ((i + 1 : Nat) : Int) = (i : Int) + 1 := by lia
    unfold ItIter; rw [e]; simpa [rawInt] using he₁
  have hT₁ : Shared.TypeIs ⟨h₁, g, dr, tk, os⟩ (.ref it) "dict_itemiterator" := ⟨_, he₁, rfl⟩
  refine wpAny_bind (wpAny_holding ?_)
  refine wpAny_bind (wpAny_isOneOf_itemiter hT₁ ?_)
  refine wpAny_bind (wpAny_isOneOf_itemiter hT₁ ?_)
  show wpAny _ _ (Builtin.Dict_items.pairFromOwner (.ref it) 6 es[i].key es[i].val) _ _ ⟨h₁, g, dr, tk, os⟩
  unfold Builtin.Dict_items.pairFromOwner
  refine wpAny_bind (wpAny_newTuple ?_)
  have he₂ : ItIter (h₁.push { cls := .type "tuple", data := .seq #[es[i].key, es[i].val] }) it d (rawInt ((a : Nat) : Int)) f1 (i + 1) kvs.length ep ok ov := Heap.get?_push_of_some _ he₁
  generalize hh₂ : h₁.push { cls := .type "tuple", data := .seq #[es[i].key, es[i].val] } = h₂ at he₂
  have hz₁ : h₁.objs.size = hp.objs.size := hs₁.1
  have hil : it < hp.objs.size := Heap.lt_size hit
  have ht₂ : h₂.get? hp.objs.size = some { cls := .type "tuple", data := .seq #[es[i].key, es[i].val] } := by rw [← hh₂, ← hz₁]; exact Heap.get?_push_size _ rfl
  have hz₂ : h₂.objs.size = hp.objs.size + 1 := by rw [← hh₂, Heap.size_push, hz₁]
  have hk₂ : ∀ b o, b ≠ it → hp.get? b = some o → h₂.get? b = some o := fun b o hb e => by rw [← hh₂]; exact Heap.get?_push_of_some _ (hs₁.extBut b o hb e)
  show wpAny _ _ (Builtin.Dict_items.ownedTupleIsFree (.ref it) >>= _) _ _ ⟨h₂, g, dr, tk, os⟩
  rw [hz₁]
  clear hh₂ he₁ hs₁ hT₁ hz₁ h₁
  refine wpAny_bind ?_
  unfold Builtin.Dict_items.ownedTupleIsFree
  refine wpAny_bind (wpAny_field he₂ rfl (x := rawInt ((a : Nat) : Int)) rfl ?_)
  show wpAny _ _ (loadIfAlive ((a : Int).toNat) >>= _) _ _ _
  rw [Int.toNat_natCast]
  refine wpAny_bind (wpAny_loadIfAlive (hk₂ a oa hai hoa) ?_)
  rw [if_neg (by simp)]
  refine wpAny_bind (wpAny_field he₂ rfl (x := f1) rfl ?_)
  have fin : ∀ h₃ f1', ItIter h₃ it d (rawInt ((a : Nat) : Int)) f1' (i + 1) kvs.length ep ok ov → (∀ b o, b ≠ it → h₂.get? b = some o → h₃.get? b = some o) → h₃.objs.size = h₂.objs.size →
      Q (some (.ref hp.objs.size)) { heap := h₃, gens := g, drawn := dr, toks := tk, os := os } := fun h₃ f1' he₃ hk₃ hz₃ =>
    hQ es[i].key h₃ a f1' ok ov oa (.inr rfl) hkey he₃ (hk₃ a oa hai (hk₂ a oa hai hoa)) hai (by rw [← hval]; exact hk₃ _ _ (Nat.ne_of_gt hil) ht₂) (hz₃.trans hz₂) fun b o hb e => hk₃ b o hb (hk₂ b o hb e)
  by_cases hb : (f1 != Value.bool true) = true
  · simp only [hb, if_true]
    refine wpAny_bind (wpAny_setField_rec he₂ (by simp) fun h₃ he₃ hs₃ => ?_)
    refine wpAny_pure ?_
    simp only [Bool.false_eq_true, if_false]
    exact wpAny_pure (wpAny_pure ⟨_, rfl, wpAny_pure (fin h₃ (.bool true) he₃ (fun b o hb e => hs₃.extBut b o hb e) hs₃.1)⟩)
  · simp only [hb, Bool.false_eq_true, if_false]
    refine wpAny_pure ?_
    simp only [Bool.false_eq_true, if_false]
    exact wpAny_pure (wpAny_pure ⟨_, rfl, wpAny_pure (fin h₂ f1 he₂ (fun z9 z9 z9 e => e) rfl)⟩)
theorem items_end {K : Type} [DecidableEq K] {knd : PySem.KeyKind prog w K} {it d : Addr} {i ep : Nat} {kvs : List (K × Value)} {ok ov f0 f1 : Value} {Q : Option Value → Shared → Prop} (hh : A.handled = none) (hit : ItIter s.heap it d f0 f1 i kvs.length ep ok ov)
    (hm : s.heap.DictAt knd d kvs ep) (hx : kvs[i]? = none)
    (hQ : ∀ h', Heap.ExtBut it s.heap h' → Q none { s with heap := h' }) : wpAny (model prog w) A (pyNext (.ref it)) Q E s := by
  refine cps fun k_ => ?_
  obtain ⟨od, es, hod, hcd, hdd, hk, hpr, hn⟩ := id hm
  apply k_
  clear k_
  have hT : s.TypeIs (.ref it) "dict_itemiterator" := ⟨_, hit, rfl⟩
  unfold pyNext
  refine wpAny_bind (wpAny_attempt (wpAny_callSpecial?_slot (name := Str.ofString "__next__") hT F.slot_dict_itemiterator_next
    (wpAny_call_entry F.slot_dict_itemiterator_next hT F.entry_dict_itemiterator_next ?_ (F.args_dict_itemiterator_next_1 _))))
  refine wpAny_bind (wpAny_pure ?_)
  refine wpAny_bind ?_
  refine wpAny_bind ?_
  first | refine wpAny_bind (wpAny_typeNameOfWhole_itemiter hT (wpAny_pure ?_)) | refine wpAny_bind (wpAny_typeNameOf_itemiter hT (wpAny_pure ?_))
  refine wpAny_bind (wpAny_fieldsOf hit rfl ?_)
  have hown : Builtin.Dict_items.ownsTuple "dict_itemiterator" = true := by decide
  simp only [hown, if_true]
  show wpAny _ _ (if (Value.ref d == Value.none) = true then _ else _) _ _ s
  rw [if_neg (show ¬ ((Value.ref d == Value.none) = true) from Bool.false_ne_true)]
  refine wpAny_bind (wpAny_pure ?_)
  refine wpAny_bind (wpAny_dictEntries hod hdd ?_)
  have hsz : es.size = kvs.length := by rw [← hpr.length]; simp
  rw [if_neg (by rw [hsz]; simp)]
  refine wpAny_bind (wpAny_pure ?_)
  refine wpAny_bind (wpAny_dictEpoch hod hdd ?_)
  rw [if_neg (by simp)]
  refine wpAny_pure ?_
  have hge : es.size ≤ i := by rw [hsz]; simpa using hx
  simp only [show ¬ ((i : Int) < 0) from by lia, if_false, Int.toNat_natCast, Array.getElem?_eq_none hge]
  refine wpAny_bind ?_
  first | refine wpAny_bind (wpAny_typeNameOfWhole_itemiter hT (wpAny_pure ?_)) | refine wpAny_bind (wpAny_typeNameOf_itemiter hT (wpAny_pure ?_))
  show wpAny _ _ (setField (.ref it) 2 .none >>= _) _ _ s
  refine wpAny_bind (wpAny_setField hit rfl (by simp) ?_)
  show wpAny _ _ (newExc (.type "StopIteration") [] >>= _) _ _ _
  refine wpAny_bind ?_
  simp only [newExc, newTuple]
  refine wpAny_bind (wpAny_newObj_type ?_ (by size_fits))
  refine wpAny_bind (m := firstArgMember _ _) (wpAny_of_eq (a := Value.none) (by first | rfl | (simp only [firstArgMember]; rfl)) ?_)
  refine wpAny_newObj_type ?_ (by size_fits)
  simp only [raiseNew]
  refine wpAny_bind (wpAny_handled ?_)
  rw [show A.in1.handled = none from hh]
  refine wpAny_bind (wpAny_pure (wpAny_throw ?_))
  refine wpAny_bind (wpAny_isInstance (T := "StopIteration") (b := true) ⟨_, Heap.get?_push_size _ rfl, rfl⟩ isSubtype_stop ?_)
  exact wpAny_pure (hQ _ (((Heap.SameBut.update ..).extBut.push _).push _))
theorem items_loop {K : Type} [DecidableEq K] {knd : PySem.KeyKind prog w K} (hh : A.handled = none) {R : Result → Shared → Prop} {S it d : Addr} {kvs : List (K × Value)} {ep : Nat} (hSi : S ≠ it) (hSd : S ≠ d) (hid : it ≠ d) (hsz : kvs.length ≤ sizeLine) :
    ∀ (k i : Nat) (s : Shared) (acc : Array Value) (c : Nat) (f0 f1 ok ov : Value), kvs.length - i = k → i ≤ kvs.length → ItIter s.heap it d f0 f1 i kvs.length ep ok ov →
      ((f0 = .none ∧ f1 = .bool false) ∨ ∃ a o, f0 = rawInt ((a : Nat) : Int) ∧ s.heap.get? a = some o ∧ a ≠ it ∧ a ≠ S) →
      s.heap.DictAt knd d kvs ep → s.heap.get? S = some { cls := .type "list", data := .seq acc c } →
      PairsAt knd s.heap acc (kvs.take i) → (∀ t, Value.ref t ∈ acc → t ≠ S ∧ t ≠ it) →
      (∀ h' acc' c', h'.get? S = some { cls := .type "list", data := .seq acc' c' } → PairsAt knd h' acc' kvs → (∀ b ob, b ≠ S → b ≠ it → s.heap.get? b = some ob → h'.get? b = some ob) → R (.ok (.ret .none)) { s with heap := h' }) →
      codeAny (model prog w) A (.builtin "list.extend.loop" ⟨[.ref S, .ref it, .none], []⟩) R s := by
  intro k
  induction k with
  | zero =>
    intro i s acc c f0 f1 ok ov hk hi hit hf hd hS hp hne hR
    obtain rfl : i = kvs.length := sub_end hk hi
    refine codeAny_builtin F.entry_extend_loop ?_
    rw [Around.under_plainId F.plain_extend_loop _]
    show wpAny _ A.in1 (pyNext (.ref it) >>= _) _ _ s
    refine wpAny_bind (items_end (A := A.in1) hh hit hd (by simp) fun h' he => ?_)
    rw [List.take_length] at hp
    refine wpAny_pure (hR h' acc c (he S _ hSi hS) ⟨hp.1, fun j kv hj => ?_⟩ fun b ob hb hb' e => he b ob hb' e)
    refine cps fun k_ => ?_
    obtain ⟨t, key, u, q1, q2, q3⟩ := hp.2 j kv hj
    apply k_
    clear k_
    exact ⟨t, key, u, q1, he t _ (hne t (Array.mem_of_getElem? q1)).2 q2, q3⟩
  | succ k ih =>
    intro i s acc c f0 f1 ok ov hk hi hit hf hd hS hp hne hR
    have hlt : i < kvs.length := sub_lt hk
    refine codeAny_builtin F.entry_extend_loop ?_
    rw [Around.under_plainId F.plain_extend_loop _]
    show wpAny _ A.in1 (pyNext (.ref it) >>= _) _ _ s
    refine wpAny_bind (items_next (A := A.in1) (k := kvs[i].1) (v := kvs[i].2) hit (hf.imp id fun ⟨a, o, q1, q2, q3, q4⟩ => ⟨a, o, q1, q2, q3⟩) hd (List.getElem?_eq_getElem hlt) fun key h' a f1' ok' ov' o q0 q1 q2 q3 q4 q5 q6 q7 => ?_)
    have hSz : S ≠ s.heap.objs.size := fun e => Nat.lt_irrefl _ (e ▸ Heap.lt_size hS)
    have hiz : it ≠ s.heap.objs.size := fun e => Nat.lt_irrefl _ (e ▸ Heap.lt_size hit)
    have haS : a ≠ S := by
      rcases q0 with rfl | q0
      · exact hSz.symm
      · rcases hf with ⟨rfl, _⟩ | ⟨a', o', r1, r2, r3, r4⟩
        · simp [rawInt] at q0
        · rw [r1] at q0; simp [rawInt] at q0; exact Int.ofNat_inj.mp q0 ▸ r4
    have hS' := q7 S _ hSi hS
    have hd' := hd.at' fun o e => q7 d o hid.symm e
    have hacc : acc.size = i := by rw [hp.1, List.length_take]; exact Nat.min_eq_left hi
    show wpAny _ A.in1 (updateSeq S (·.push (.ref s.heap.objs.size)) >>= _) _ _ _
    refine wpAny_bind ?_
    have oth : ∀ b ob, b ≠ S → h'.get? b = some ob → (h'.update S (Obj.mapSeq (·.push (Value.ref s.heap.objs.size)))).get? b = some ob := fun b ob hb e => (Heap.get?_update_other _ _ (Ne.symm hb)).trans e
    refine wpAny_updateSeq hS' rfl (wpAny_pure ⟨plainId_quiet F.plain_extend_loop _, ?_⟩) (by lia) (by show (acc.push _).size ≤ sizeLine + 1; rw [Array.size_push]; lia)
    refine ih (i + 1) _ (acc.push (.ref s.heap.objs.size)) _ _ _ _ _ (sub_step hk) hlt (oth it _ hSi.symm q2) (.inr ⟨a, o, rfl, oth a _ haS q3, q4, haS⟩) (hd'.at' fun o e => oth d o hSd.symm e) (Heap.get?_update_self _ hS' rfl) ⟨by rw [Array.size_push, hacc, List.length_take]; lia, fun j kv hj => ?_⟩ (fun t ht => ?_)
      fun h₂ acc₂ c₂ a1 a2 a3 => hR h₂ acc₂ c₂ a1 a2 fun b ob hb hb' e => a3 b ob hb hb' (oth b ob hb (q7 b ob hb' e))
    · rw [List.getElem?_take] at hj
      split at hj
      · next hji =>
        rcases Nat.lt_or_ge j i with hlt2 | hge
        · refine cps fun k_ => ?_
          obtain ⟨t, key', u, r1, r2, r3⟩ := hp.2 j kv (by rw [List.getElem?_take, if_pos hlt2]; exact hj)
          apply k_
          clear k_
          have hne' := hne t (Array.mem_of_getElem? r1)
          refine ⟨t, key', u, ?_, oth t _ hne'.1 (q7 t _ hne'.2 r2), r3⟩
          rw [Array.getElem?_push_lt (by lia)]
          rw [← r1, Array.getElem?_eq_getElem (by lia)]
        · obtain rfl : j = i := by lia
          rw [List.getElem?_eq_getElem hlt] at hj
          cases hj
          refine ⟨s.heap.objs.size, key, 0, ?_, oth _ _ hSz.symm q5, q1⟩
          rw [← hacc, Array.getElem?_push_size]
      · cases hj
    · rcases Array.mem_push.mp ht with ht | ht
      · exact hne t ht
      · cases ht; exact ⟨hSz.symm, hiz.symm⟩
theorem lk_items_len : typeLookup (.type "dict_items") "__len__" = pure (some (.builtin "dict_items.__len__")) := by rw [typeLookup_type, builtinLookup_eq_fast]; kernel_rfl
theorem call_list_items {K : Type} [DecidableEq K] {knd : PySem.KeyKind prog w K} (hh : A.handled = none) {v d : Addr} {kvs : List (K × Value)} {Q : Value → Shared → Prop} (hv : s.heap.IsItemsView v d) (hd : s.heap.DictOf knd d kvs) (hsz : kvs.length ≤ sizeLine)
    (h : ∀ h' acc c, h'.get? s.heap.objs.size = some { cls := .type "list", data := .seq acc c } → PairsAt knd h' acc kvs → (∀ b ob, s.heap.get? b = some ob → h'.get? b = some ob) → Q (.ref s.heap.objs.size) { s with heap := h' }) :
    wpAny (model prog w) A (call (.type "list") [.ref v]) Q E s := by
  have hlS : ∀ b ob, s.heap.get? b = some ob → b ≠ s.heap.objs.size := fun b ob e q => Nat.lt_irrefl _ (q ▸ Heap.lt_size e)
  refine callType_codes (Q₁ := fun obj s₁ => obj = .ref s.heap.objs.size ∧ s₁ = { s with heap := s.heap.push { cls := .type "list", data := .seq #[] } }) F.called_list (F.typeCall_list_1 _) F.entry_list_init
    (code_list_new _ ⟨rfl, rfl⟩) fun obj s₁ h₁ => ?_
  obtain ⟨rfl, rfl⟩ := h₁
  have hS : (s.heap.push { cls := .type "list", data := .seq #[] }).get? s.heap.objs.size = some { cls := .type "list", data := .seq #[] } := Heap.get?_push_size _ rfl
  have up : ∀ b ob, s.heap.get? b = some ob → (s.heap.push { cls := .type "list", data := .seq #[] }).get? b = some ob := fun b ob e => Heap.get?_push_of_some _ e
  generalize hH : (s.heap.push { cls := .type "list", data := .seq #[] }) = H at hS up ⊢
  refine ⟨⟨_, hS, rfl⟩, F.args_list_init_2 _ _, ?_⟩
  show wpAny _ A.in1.in1 (do let old ← Builtin.List.listItems (.ref s.heap.objs.size); Builtin.List.listUpdate (.ref s.heap.objs.size) (fun z9 => #[]); letGo old.toList.reverse; Builtin.List.listExtendWith (.ref s.heap.objs.size) (.ref v) .none) _ _ _
  refine wpAny_bind ?_
  unfold Builtin.List.listItems
  refine wpAny_bind (wpAny_seqItems hS rfl (wpAny_pure ?_))
  show wpAny _ A.in1.in1 (updateSeq s.heap.objs.size (fun z9 => #[]) >>= fun z9 => letGo (#[] : Array Value).toList.reverse >>= fun z9 => Builtin.List.listExtendWith (.ref s.heap.objs.size) (.ref v) .none) _ _ _
  refine wpAny_bind (wpAny_updateSeq hS rfl ?_)
  have hS₂ := Heap.get?_update_self (Obj.mapSeq (fun z9 => (#[] : Array Value))) hS rfl
  have oth : ∀ b o, b ≠ s.heap.objs.size → H.get? b = some o → (H.update s.heap.objs.size (Obj.mapSeq (fun z9 => (#[] : Array Value)))).get? b = some o :=
    fun b o hb e => (Heap.get?_update_other _ _ (Ne.symm hb)).trans e
  refine wpAny_bind (wpAny_letGo ?_)
  have up2 : ∀ b ob, s.heap.get? b = some ob → (H.update s.heap.objs.size (Obj.mapSeq (fun z9 => (#[] : Array Value)))).get? b = some ob := fun b ob e => oth b ob (hlS b ob e) (up b ob e)
  dsimp only at hS₂ ⊢
  generalize hH2 : H.update s.heap.objs.size (Obj.mapSeq (fun z9 => (#[] : Array Value))) = H2 at hS₂ up2 ⊢
  refine cps fun k_ => ?_
  obtain ⟨ov, hov, hcv, hdv⟩ := hv
  apply k_
  clear k_
  have hv2 : H2.IsItemsView v d := ⟨ov, up2 _ _ hov, hcv, hdv⟩
  refine cps fun k_ => ?_
  obtain ⟨od, es, ep, hod, r1, r2, r3, r4, r5⟩ := hd
  apply k_
  clear k_
  have hd2 : H2.DictAt knd d kvs ep := ⟨od, es, up2 _ _ hod, r1, r2, r3, r4, r5⟩
  unfold Builtin.List.listExtendWith
  refine wpAny_bind (wpAny_typeOf (T := "dict_items") hv2.typeIs ?_)
  have h1 : Builtin.List.listSameRef (.ref s.heap.objs.size) (.ref v) = false := by simp [Builtin.List.listSameRef, (hlS _ _ hov).symm]
  have h2 : (Value.type "dict_items" == Value.type "list") = false := by decide
  have h3 : (Value.type "dict_items" == Value.type "tuple") = false := by decide
  simp only [h1, h2, h3, Bool.or_false, Bool.false_eq_true, if_false]
  refine wpAny_bind (wpAny_pyIter_items hv2 hd2 ?_)
  have up3 : ∀ b ob, H2.get? b = some ob → (H2.push { cls := .type "dict_itemiterator", data := .fields #[.none, .bool false, .ref d, .int 0 0, .int kvs.length 0, .int ep 0, .none, .none] }).get? b = some ob := fun b ob e => Heap.get?_push_of_some _ e
  have hI : (H2.push { cls := .type "dict_itemiterator", data := .fields #[.none, .bool false, .ref d, .int 0 0, .int kvs.length 0, .int ep 0, .none, .none] }).get? H2.objs.size = some { cls := .type "dict_itemiterator", data := .fields #[.none, .bool false, .ref d, .int 0 0, .int kvs.length 0, .int ep 0, .none, .none] } := Heap.get?_push_size _ rfl
  have hlI : ∀ b ob, H2.get? b = some ob → b ≠ H2.objs.size := fun b ob e q => Nat.lt_irrefl _ (q ▸ Heap.lt_size e)
  dsimp only
  generalize (H2.push { cls := .type "dict_itemiterator", data := .fields #[.none, .bool false, .ref d, .int 0 0, .int kvs.length 0, .int ep 0, .none, .none] }) = H3 at up3 hI ⊢
  have hv3 : H3.IsItemsView v d := ⟨ov, up3 _ _ (up2 _ _ hov), hcv, hdv⟩
  refine wpAny_bind (wpAny_holding ?_)
  unfold Builtin.List.listLengthHint
  refine wpAny_bind (wpAny_specialOf (T := "dict_items") hv3.typeIs lk_items_len ?_)
  wp_delta
  refine wpAny_bind (wpAny_isInstance (T := "dict_items") (v := .ref v) (b := true) hv3.typeIs (by rw [isSubtype_type]; kernel_rfl) ?_)
  show wpAny _ A.in1.in1 (typeOf (Value.ref v) >>= _) _ _ _
  refine wpAny_bind (wpAny_typeOf (T := "dict_items") hv3.typeIs ?_)
  refine wpAny_pure ?_
  rw [if_pos (by decide)]
  refine wpAny_bind (wpAny_rule ?_)
  refine wpAny_bind ?_
  have hS3 := up3 _ _ hS₂
  show wpAny _ _ (updateSeq s.heap.objs.size (·.push .none) >>= fun z9 => updateSeq s.heap.objs.size (·.pop)) _ _ _
  refine wpAny_bind (wpAny_updateSeq hS3 rfl ?_)
  have hS4 := Heap.get?_update_self (Obj.mapSeq (·.push Value.none)) hS3 rfl
  refine wpAny_updateSeq hS4 rfl ?_ (by simp [Obj.mapSeq, sizeLine_eq]) (by simp [Obj.mapSeq, sizeLine_eq])
  have hS5 := Heap.get?_update_self (Obj.mapSeq (·.pop)) hS4 rfl
  have oth5 : ∀ b o, b ≠ s.heap.objs.size → H3.get? b = some o → ((H3.update s.heap.objs.size (Obj.mapSeq (·.push Value.none))).update s.heap.objs.size (Obj.mapSeq (·.pop))).get? b = some o :=
    fun b o hb e => (Heap.get?_update_other _ _ (Ne.symm hb)).trans ((Heap.get?_update_other _ _ (Ne.symm hb)).trans e)
  have hSI := hlI _ _ hS₂
  have hdI : d ≠ H2.objs.size := hlI _ _ (up2 _ _ hod)
  refine wpAny_pure ⟨plainId_quiet F.plain_extend_loop _, ?_⟩
  refine items_loop (A := A.in1) (knd := knd) (kvs := kvs) hh hSI (hlS _ _ hod).symm hdI.symm hsz _ 0 _ _ _ _ _ _ _ rfl (Nat.zero_le _) (oth5 _ _ hSI.symm hI) (.inl ⟨rfl, rfl⟩) ⟨od, es, oth5 _ _ (hlS _ _ hod) (up3 _ _ (up2 _ _ hod)), r1, r2, r3, r4, r5⟩ hS5 ⟨by simp [Obj.mapSeq], fun j kv hj => by simp at hj⟩ (fun t ht => by simp [Obj.mapSeq] at ht)
    fun h' acc' c' a b c => ⟨rfl, h h' acc' c' a b fun x ob e => c x ob (hlS _ _ e) (hlI _ _ (up2 _ _ e)) (oth5 _ _ (hlS _ _ e) (up3 _ _ (up2 _ _ e)))⟩
end
/-! dicts from names to 'my' | 'our' -/
def RelAt (ov : Option Value) (ob : Option Bool) : Prop := match ob with
  | none => ov = none
  | some my => ∃ tk, ov = some (.str (myWord my) tk)
def RelV (kvs : List (Str × Value)) (vis : Vis) : Prop := (∀ x ∈ kvs.map (·.1), x ∈ allKeys) ∧ ∀ k, RelAt (valueAt kvs k) (vis.lookup k)
theorem valueAt_cons (k' : Str) (v : Value) (kvs : List (Str × Value)) (k : Str) : valueAt ((k', v) :: kvs) k = if k' = k then some v else valueAt kvs k := by
  unfold valueAt
  rw [List.find?_cons]
  by_cases h : k' = k <;> simp [h]
theorem valueAt_append (a b : List (Str × Value)) (k : Str) : valueAt (a ++ b) k = (valueAt a k).or (valueAt b k) := by
  induction a with
  | nil => simp [valueAt]
  | cons x a ih =>
    obtain ⟨k', v⟩ := x
    rw [List.cons_append, valueAt_cons, valueAt_cons, ih]
    split <;> simp
theorem valueAt_map (kvs : List (Str × Value)) (k' : Str) (v : Value) (k : Str) : valueAt (kvs.map fun kv => if kv.1 = k' then (kv.1, v) else kv) k = if k = k' then (if (kvs.any fun kv => decide (kv.1 = k')) then some v else none) else valueAt kvs k := by
  induction kvs with
  | nil => simp [valueAt]
  | cons x a ih =>
    obtain ⟨k1, v1⟩ := x
    rw [List.map_cons]
    by_cases h1 : k1 = k'
    · subst h1
      simp only [if_true]
      rw [valueAt_cons, valueAt_cons, ih]
      by_cases h2 : k = k1
      · subst h2; simp
      · have h3 : ¬ k1 = k := fun e => h2 e.symm
        simp [h2, h3]
    · simp only [h1, if_false]
      rw [valueAt_cons, valueAt_cons, ih]
      by_cases h2 : k = k'
      · subst h2
        simp only [if_true, h1, if_false, List.any_cons, decide_false, Bool.false_or]
      · simp [h2]
theorem valueAt_stored (kvs : List (Str × Value)) (k' : Str) (v : Value) (k : Str) : valueAt (stored kvs k' v) k = if k = k' then some v else valueAt kvs k := by
  unfold stored
  split
  · next h => rw [valueAt_map, if_pos h]
  · next h =>
    have hn : valueAt kvs k' = none := by
      cases hv : valueAt kvs k' with
      | none => rfl
      | some x =>
        exfalso; apply h
        unfold valueAt at hv
        refine cps fun k_ => ?_
        obtain ⟨p, hp, _⟩ := Option.map_eq_some_iff.mp hv
        apply k_
        clear k_
        exact List.any_eq_true.mpr ⟨p, List.mem_of_find?_eq_some hp, by simpa using List.find?_some hp⟩
    rw [valueAt_append, valueAt_cons]
    by_cases e : k = k'
    · subst e; simp [hn]
    · have e' : ¬ k' = k := fun q => e q.symm
      simp [e, e', valueAt]
theorem keys_stored {kvs : List (Str × Value)} {k : Str} {v : Value} {K : List Str} (h : ∀ x ∈ kvs.map (·.1), x ∈ K) (hk : k ∈ K) : ∀ x ∈ (stored kvs k v).map (·.1), x ∈ K := by
  intro x hx
  unfold stored at hx
  split at hx
  · rw [keys_map_store] at hx; exact h x hx
  · rw [List.map_append] at hx
    rcases List.mem_append.mp hx with hx | hx
    · exact h x hx
    · simp only [List.map_cons, List.map_nil, List.mem_singleton] at hx; rw [hx]; exact hk
theorem valueAt_merged : ∀ (b a : List (Str × Value)), (b.map (·.1)).Nodup → ∀ k, valueAt (merged a b) k = (valueAt b k).or (valueAt a k)
  | [], a, _, k => by simp [merged, valueAt]
  | (k', v) :: b, a, hn, k => by
    rw [List.map_cons, List.nodup_cons] at hn
    have e : merged a ((k', v) :: b) = merged (stored a k' v) b := rfl
    rw [e, valueAt_merged b _ hn.2 k, valueAt_stored, valueAt_cons]
    by_cases h : k' = k
    · subst h
      rw [valueAt_none_of_not_mem hn.1]
      simp
    · have h' : ¬ k = k' := fun q => h q.symm
      simp [h, h']
theorem keys_merged {K : List Str} : ∀ (b a : List (Str × Value)), (∀ x ∈ a.map (·.1), x ∈ K) → (∀ x ∈ b.map (·.1), x ∈ K) → ∀ x ∈ (merged a b).map (·.1), x ∈ K
  | [], a, ha, _ => ha
  | (k', v) :: b, a, ha, hb => keys_merged b (stored a k' v) (keys_stored ha (hb k' (by simp))) fun x hx => hb x (by simp at hx ⊢; exact .inr hx)
theorem lookup_append (a b : Vis) (k : Str) : (a ++ b).lookup k = (a.lookup k).or (b.lookup k) := by
  induction a with
  | nil => simp
  | cons x a ih =>
    obtain ⟨k', v⟩ := x
    rw [List.cons_append, List.lookup_cons, List.lookup_cons, ih]
    split <;> simp
theorem RelAt.or {a b : Option Value} {x y : Option Bool} (h1 : RelAt a x) (h2 : RelAt b y) : RelAt (a.or b) (x.or y) := by
  cases x with
  | none => simp only [RelAt] at h1; subst h1; simpa using h2
  | some my => obtain ⟨tk, rfl⟩ := h1; exact ⟨tk, by simp⟩
theorem RelV.nil : RelV [] [] := ⟨fun z9 h => by simp at h, fun z9 => rfl⟩
theorem RelV.stored {kvs : List (Str × Value)} {vis : Vis} (h : RelV kvs vis) {k : Str} (hk : k ∈ allKeys) (my : Bool) (tk : Tok) : RelV (stored kvs k (.str (myWord my) tk)) ((k, my) :: vis) := by
  refine ⟨keys_stored h.1 hk, fun k' => ?_⟩
  rw [valueAt_stored, List.lookup_cons]
  by_cases e : k' = k
  · subst e; simp [RelAt]
  · have e' : (k' == k) = false := by simpa using e
    rw [if_neg e, e']; exact h.2 k'
theorem RelV.merged {a b : List (Str × Value)} {va vb : Vis} (ha : RelV a va) (hb : RelV b vb) (hn : (b.map (·.1)).Nodup) : RelV (merged a b) (vb ++ va) :=
  ⟨keys_merged b a ha.1 hb.1, fun k => by rw [valueAt_merged b a hn, lookup_append]; exact (hb.2 k).or (ha.2 k)⟩
theorem merged_two (a b : List (Str × Value)) (hn : (a.map (·.1)).Nodup) : merged [] (a ++ b) = merged a b := by
  have e : merged [] (a ++ b) = merged (merged [] a) b := by simp [merged, List.foldl_append]
  rw [e, merged_nil_of_nodup a hn]
theorem allKeys_len : allKeys.length = 39 := by decide +kernel
theorem RelV.len {kvs : List (Str × Value)} {vis : Vis} (h : RelV kvs vis) (hn : (kvs.map (·.1)).Nodup) : kvs.length ≤ 39 := by
  have := List.Nodup.length_le_of_subset hn (fun x hx => h.1 x hx : kvs.map (·.1) ⊆ allKeys)
  rw [List.length_map, allKeys_len] at this
  exact this
theorem line39 : 100 ≤ sizeLine := by rw [sizeLine_eq]; lia
inductive VisIs (w : World) (o : Obj) (vis : Vis) : Prop
  | mk (kvs : _) (h1_ : o.IsDictOf (strKind PG w) kvs) (h2_ : RelV kvs vis) : VisIs w o vis
theorem isDictOf_nodup {w : World} {o : Obj} {kvs : List (Str × Value)} (h : o.IsDictOf (strKind PG w) kvs) : (kvs.map (·.1)).Nodup := let ⟨_, _, _, _, _, _, hn⟩ := h; hn
theorem VisIs.len {w : World} {o : Obj} {vis : Vis} (h : VisIs w o vis) : ∃ kvs, o.IsDictOf (strKind PG w) kvs ∧ RelV kvs vis ∧ kvs.length ≤ 39 := let ⟨kvs, a, b⟩ := h; ⟨kvs, a, b, b.len (isDictOf_nodup a)⟩
section
variable {w : World} {A : Around} {E : Value → Shared → Prop} {s : Shared} {G : Heap} {L d : Addr} {m : Str → Option Value} {led : Led} {o : Obj} {g : Obj → Led} {kvs : List (Str × Value)} {vis : Vis} {k : Str} {t : Tok}
theorem set_kvs {v : Value} {Q : Unit → Shared → Prop} (F : Fr G L s.heap m) (N : News G L s.heap led) (hd : o.IsDictOf (strKind PG w) kvs) (U : UpdF d o led g) (hsz : kvs.length ≤ 100)
    (h : ∀ h' o', Fr G L h' m → News G L h' (g o') → o'.IsDictOf (strKind PG w) (stored kvs k v) → Q () { s with heap := h', toks := s.toks + 1 }) : wpAny (model PG w) A (setItem (.ref d) (.str k t) v) Q E s := by
  refine cps fun k_ => ?_
  obtain ⟨pre, post, rfl, hg, h1, h2⟩ := U.split
  apply k_
  clear k_
  have hm := N (d, o) (List.mem_append_right _ (.head _))
  refine wpAny_setItem_pairs (hsz := Nat.le_trans hsz line39) (strKind_is _ _ k t) (Heap.dictOf_iff.mpr ⟨o, hm.1, hd⟩) fun h' hmm hs => ?_
  refine cps fun k_ => ?_
  obtain ⟨o', ho', hd'⟩ := Heap.dictOf_iff.mp hmm
  apply k_
  clear k_
  exact h h' o' (F.change hs hm.2.1 hm.2.2) (hg o' ▸ N.setIn h1 h2 hs ho') hd'
theorem set_visS {my : Bool} {tk : Tok} {Q : Unit → Shared → Prop} (F : Fr G L s.heap m) (N : News G L s.heap led) (hv : VisIs w o vis) (U : UpdF d o led g) (hk : k ∈ allKeys)
    (h : ∀ h' o', Fr G L h' m → News G L h' (g o') → VisIs w o' ((k, my) :: vis) → Q () { s with heap := h', toks := s.toks + 1 }) : wpAny (model PG w) A (setItem (.ref d) (.str k t) (.str (myWord my) tk)) Q E s := by
  refine cps fun k_ => ?_
  obtain ⟨kvs, hd, hr, hl⟩ := hv.len
  apply k_
  clear k_
  exact set_kvs F N hd U (by lia) fun h' o' F' N' hd' => h h' o' F' N' ⟨_, hd', hr.stored hk my tk⟩
theorem set_vis {hp : Heap} {tk₀ : Nat} {my : Bool} {tk : Tok} {Q : Unit → Shared → Prop} (F : Fr G L hp m) (N : News G L hp led) (hv : VisIs w o vis) (U : UpdF d o led g) (hk : k ∈ allKeys)
    (h : ∀ h' o', Fr G L h' m → News G L h' (g o') → VisIs w o' ((k, my) :: vis) → Q () { s with heap := h', toks := tk₀ + 1 }) : wpAny (model PG w) A (setItem (.ref d) (.str k t) (.str (myWord my) tk)) Q E { s with heap := hp, toks := tk₀ } := set_visS (s := { s with heap := hp, toks := tk₀ }) F N hv U hk h
theorem get_visS {Q : Value → Shared → Prop} (ho : s.heap.get? d = some o) (hlo : (d == sysModules) = false) (hv : VisIs w o vis)
    (h : ∀ v, (match vis.lookup k with | none => v = .none | some my => ∃ tk, v = .str (myWord my) tk) → Q v { s with toks := s.toks + 1 }) : wpAny (model PG w) A (call (.builtin "dict.get") [.ref d, .str k t]) Q E s := by
  refine cps fun k_ => ?_
  obtain ⟨kvs, hd, hr⟩ := hv
  apply k_
  clear k_
  have hm : s.heap.DictOf (strKind PG w) d kvs := Heap.dictOf_iff.mpr ⟨o, ho, hd⟩
  refine call_meetsIn PySem.F.slot_dict_get hm.typeIs PySem.F.entry_dict_get (PySem.F.args_dict_get_2 _ _) (meets_dict_get (strKind PG w) d (strKind_is _ _ k t) hlo) ⟨_, hm.mapOf, h _ ?_⟩
  have := hr.2 k
  cases hl : vis.lookup k with
  | none => rw [hl] at this; simp only [RelAt] at this; rw [this]; rfl
  | some my => rw [hl] at this; obtain ⟨tk, e⟩ := this; rw [e]; exact ⟨tk, rfl⟩
theorem get_vis {hp : Heap} {tk₀ : Nat} {Q : Value → Shared → Prop} (ho : hp.get? d = some o) (hlo : (d == sysModules) = false) (hv : VisIs w o vis)
    (h : ∀ v, (match vis.lookup k with | none => v = .none | some my => ∃ tk, v = .str (myWord my) tk) → Q v { s with heap := hp, toks := tk₀ + 1 }) : wpAny (model PG w) A (call (.builtin "dict.get") [.ref d, .str k t]) Q E { s with heap := hp, toks := tk₀ } := get_visS (s := { s with heap := hp, toks := tk₀ }) ho hlo hv h
theorem item_kvsS {value slice : PySem.Expr} {v : Value} {Q : Value → Shared → Prop} (ho : s.heap.get? d = some o) (hd : o.IsDictOf (strKind PG w) kvs) (hv : valueAt kvs k = some v) (h : Q v { s with toks := s.toks + 1 })
    (hs : subscripted slice false (.ref d) (.str k t) = operate [.ref d, .str k t] (getItem (.ref d) (.str k t)) := by with_unfolding_all rfl) (hg : ∀ r, letTemporaryGo value (.ref d) r = pure () := by intro _; with_unfolding_all rfl) :
    wpAny (model PG w) A (subscriptTail value slice (.ref d) (.str k t)) Q E s := by
  have hm : s.heap.DictOf (strKind PG w) d kvs := Heap.dictOf_iff.mpr ⟨o, ho, hd⟩
  exact subscriptTail_builtin hm.typeIs slot_dict_getitem.lookup (wpAny_getItem_of (strKind_is _ _ k t) hm.mapOf hv h) hs hg
theorem item_kvs {hp : Heap} {tk₀ : Nat} {value slice : PySem.Expr} {v : Value} {Q : Value → Shared → Prop} (ho : hp.get? d = some o) (hd : o.IsDictOf (strKind PG w) kvs) (hv : valueAt kvs k = some v) (h : Q v { s with heap := hp, toks := tk₀ + 1 })
    (hs : subscripted slice false (.ref d) (.str k t) = operate [.ref d, .str k t] (getItem (.ref d) (.str k t)) := by with_unfolding_all rfl) (hg : ∀ r, letTemporaryGo value (.ref d) r = pure () := by intro _; with_unfolding_all rfl) :
    wpAny (model PG w) A (subscriptTail value slice (.ref d) (.str k t)) Q E { s with heap := hp, toks := tk₀ } := item_kvsS (s := { s with heap := hp, toks := tk₀ }) ho hd hv h hs hg
end
section
variable {w : World} {dp un : Nat} {gd : Option (List Code)} {frs : List Env} {G : Heap} {env : Env} {target : PySem.Expr} {body : List Stmt} {Q : Flow → Shared → Prop} {E : Value → Shared → Prop}
  {m : Str → Option Value} {led : Led} {J : Nat → (Str → Option Value) → Led → Prop} {s : Shared}
theorem for_at_dictS {d : Addr} {od : Obj} {kvs : List (Str × Value)} {own : Led} (F : Fr G env.locals s.heap m) (N : News G env.locals s.heap (own ++ led)) (hlo : (d == sysModules) = false) (hd : od.IsDictOf (strKind PG w) kvs) (hdo : (d, od) ∈ own) (hJ : J 0 m led)
    (turn : ∀ I h₂ tk₂, ForTurn w dp un gd frs G env target body Q E I kvs.length (fun i v => ∃ k x, kvs[i]? = some (k, x) ∧ (strKind PG w).is k v = true) own J { s with heap := h₂, toks := tk₂ })
    (done : ∀ m' led' h' tk', J kvs.length m' led' → Fr G env.locals h' m' → News G env.locals h' (own ++ led') → Q .next { s with heap := h', toks := tk' }) (ht : ∀ it v, letOwnedTupleGo target it v = pure () := by intro _ _; rfl) :
    wpAny (model PG w) (arn dp un gd frs) (pyIter (.ref d)) (fun it s₂ => (∃ h₂ tk₂, s₂ = { s with heap := h₂, toks := tk₂ }) ∧ ForAt w dp un gd frs G env target body Q E it s₂) E s := by
  have hod := (N (d, od) (List.mem_append_left _ hdo)).1
  dsimp only at hod
  obtain ⟨ep, hda⟩ := (Heap.dictOf_iff.mpr ⟨od, hod, hd⟩ : s.heap.DictOf (strKind PG w) d kvs).dictAt
  refine wpAny_pyIter_dict hlo hda ?_
  generalize hI : s.heap.objs.size = I
  generalize hh : s.heap.push { cls := .type "dict_keyiterator", data := .fields #[.ref d, .int 0 0, .int kvs.length 0, .int ep 0] } = h₂
  have up : ∀ b o, s.heap.get? b = some o → h₂.get? b = some o := fun b o e => by rw [← hh]; exact Heap.get?_push_of_some _ e
  have hlt : ∀ b o, s.heap.get? b = some o → b ≠ I := fun b o e q => absurd (Heap.lt_size e) (by rw [hI, q]; exact Nat.lt_irrefl _)
  refine cps fun k_ => ?_
  obtain ⟨oL, es, epL, hL, hr'⟩ := F.ns
  apply k_
  clear k_
  refine ⟨⟨h₂, s.toks, rfl⟩, I, [I, d], kvs.length, _, _, m, own, led, J, rfl, fun i h tk v Q' E' hi st hq => by rw [ht]; exact wpAny_pure hq, Walks.dictKeys (knd := strKind PG w) rfl I d (hlt _ _ hod) kvs ep, ⟨⟨_, by rw [← hh, ← hI]; exact Heap.get?_push_size _ rfl, rfl, rfl⟩, hda.at' fun o e => up _ _ e⟩,
    fun i h st => let ⟨o, ho, _⟩ := st.1; ⟨o, ho⟩, ⟨⟨oL, es, epL, up _ _ hL, hr'⟩, fun b o e => up b o (F.keep b o e), F.above⟩, fun p hp => ⟨up _ _ (N p hp).1, (N p hp).2⟩, ?_, (hlt _ _ hL).symm, fun p hp => hlt _ _ (N p hp).1,
    fun b hb => ?_, hJ, (turn I h₂ s.toks).raw, fun m' led' h' tk' a b c => done m' led' h' tk' a b c⟩
  · cases q : G.get? I with
    | none => rfl
    | some o => exact absurd rfl (hlt _ _ (F.keep _ _ q))
  · rcases List.mem_cons.mp hb with q | hb
    · exact .inl q
    · rw [List.mem_singleton.mp hb]; exact .inr (.inr ⟨od, hdo⟩)
theorem for_at_dict {hp : Heap} {tk₀ : Nat} {d : Addr} {od : Obj} {kvs : List (Str × Value)} {own : Led} (F : Fr G env.locals hp m) (N : News G env.locals hp (own ++ led)) (hlo : (d == sysModules) = false) (hd : od.IsDictOf (strKind PG w) kvs) (hdo : (d, od) ∈ own) (hJ : J 0 m led)
    (turn : ∀ I h₂ tk₂, ForTurn w dp un gd frs G env target body Q E I kvs.length (fun i v => ∃ k x, kvs[i]? = some (k, x) ∧ (strKind PG w).is k v = true) own J { s with heap := h₂, toks := tk₂ })
    (done : ∀ m' led' h' tk', J kvs.length m' led' → Fr G env.locals h' m' → News G env.locals h' (own ++ led') → Q .next { s with heap := h', toks := tk' }) (ht : ∀ it v, letOwnedTupleGo target it v = pure () := by intro _ _; rfl) :
    wpAny (model PG w) (arn dp un gd frs) (pyIter (.ref d)) (fun it s₂ => (∃ h₂ tk₂, s₂ = { s with heap := h₂, toks := tk₂ }) ∧ ForAt w dp un gd frs G env target body Q E it s₂) E { s with heap := hp, toks := tk₀ } := for_at_dictS (s := { s with heap := hp, toks := tk₀ }) F N hlo hd hdo hJ turn done ht
end
local macro_rules | `(tactic| walk_at "eval ListComp") => `(tactic| (refine Halt.out ?_))
local macro_rules | `(tactic| walk_at "eval Name") => `(tactic| (k_here; (with_reducible show wpAny _ _ (eval (PySem.Expr.Name _ _) (compEnvC _ _ _ _)) _ _ _); k_dflt (first
  | (refine cname_C (by k_memK) (by exact rfl) (by assumption) (by assumption) ?_ (by exact rfl) (by exact rfl))
  | (refine cname_L (by k_memK) (by k_memK) ?_ (by exact rfl) (by exact rfl))
  | (refine nameG_K (by k_memK) (by assumption) (topRead_of (by assumption)) (by k_is) ?_ (by exact rfl) (by exact rfl) (by exact rfl) (by decide)))))
section
variable {w : World} {mean : ExcName → Option Value} {mg mb : Str → Option Value} {G : Heap}
theorem tup_of {a : Addr} {l : List Value} (h : G.get? a = some (tupO l)) : IsTup G a (List.toArray l) := ⟨_, h, rfl, _, rfl⟩
theorem getm_vis {A : Around} {E : Value → Shared → Prop} {s : Shared} {L d : Addr} {m : Str → Option Value} {o : Obj} {vis : Vis} {pl : Sem Bool} {Q : Value × List Value → Shared → Prop} (F : Fr G L s.heap m) (ho : G.get? d = some o) (hv : VisIs w o vis) (h : Q (.builtin "dict.get", [.ref d]) s) :
    wpAny (model PG w) A (getMethod (.ref d) "get" pl) Q E s := by
  obtain ⟨kvs, hd, hr⟩ := hv
  have hm : s.heap.DictOf (strKind PG w) d kvs := Heap.dictOf_iff.mpr ⟨o, F.keep _ _ ho, hd⟩
  exact getMethod_builtin hm.typeIs PySem.F.plainAttrs_dict PySem.F.slot_dict_get PySem.F.type_dict_get hm.mapOf.noDict h
theorem get_vis3 {A : Around} {E : Value → Shared → Prop} {s : Shared} {L d : Addr} {m : Str → Option Value} {o : Obj} {vis : Vis} {k : Str} {t : Tok} {Q : Value → Shared → Prop} (F : Fr G L s.heap m) (ho : G.get? d = some o) (hlo : (d == sysModules) = false) (hv : VisIs w o vis)
    (h1 : vis.lookup k = none → Q .none { s with toks := s.toks + 1 }) (h2 : vis.lookup k = some true → ∀ tk, Q (.str "my" tk) { s with toks := s.toks + 1 }) (h3 : vis.lookup k = some false → ∀ tk, Q (.str "our" tk) { s with toks := s.toks + 1 }) :
    wpAny (model PG w) A (call (.builtin "dict.get") [.ref d, .str k t]) Q E s := by
  refine get_vis (F.keep _ _ ho) hlo hv fun v hv' => ?_
  split at hv'
  · next e => subst hv'; exact h1 e
  · next my e =>
    obtain ⟨tk, rfl⟩ := hv'
    cases my
    · exact h3 e tk
    · exact h2 e tk
theorem plain_all {x : Str} (h : x ∈ plainNames) : x ∈ allNames := List.mem_append_left _ h
theorem key_mem {sg x : Str} (hsg : sg ∈ sigs) (hx : x ∈ allNames) : keyOf sg x ∈ allKeys := List.mem_flatMap.mpr ⟨sg, hsg, List.mem_map_of_mem hx⟩
theorem key_fit {sg x : Str} (hsg : sg ∈ sigs) (hx : x ∈ allNames) : sg.length + x.length ≤ sizeLine := by
  have h1 : ∀ y ∈ sigs, y.length ≤ 10 := by decide +kernel
  have h2 : ∀ y ∈ allNames, y.length ≤ 10 := by decide +kernel
  have := h1 sg hsg; have := h2 x hx; have := line39
  omega
theorem add_key {A : Around} {E : Value → Shared → Prop} {s : Shared} {hp : Heap} {tk : Nat} {sg x : Str} {t u : Tok} {Q : Value → Shared → Prop} (hsg : sg ∈ sigs) (hx : x ∈ allNames) (h : ∀ t' k, Q (.str (keyOf sg x) t') { s with heap := hp, toks := k }) : wpAny (model PG w) A (binaryOp .Add (.str sg t) (.str x u)) Q E { s with heap := hp, toks := tk } :=
  PyProof.Rows.add_str (s := { s with heap := hp, toks := tk }) h (key_fit hsg hx)
theorem item_G {A : Around} {E : Value → Shared → Prop} {s : Shared} {L a : Addr} {m : Str → Option Value} {value slice : PySem.Expr} {l : List Value} {k : Int} {u : Tok} {j : Nat} {x : Value} {Q : Value → Shared → Prop} (F : Fr G L s.heap m) (hT : IsTup G a l.toArray)
    (hlo : -(2 ^ 63) ≤ k) (hhi : k < 2 ^ 63) (hj : seqIndex? k l.length = some j) (hx : l[j]? = some x) (h : Q x s)
    (hs : subscripted slice false (.ref a) (.int k u) = operate [.ref a, .int k u] (getItem (.ref a) (.int k u)) := by with_unfolding_all rfl) :
    wpAny (model PG w) A (subscriptTail value slice (.ref a) (.int k u)) Q E s := item_tupleT (IsTup.keeps hT F.keep) hlo hhi hj hx h hs
local macro_rules | `(tactic| walk_at "getMethod ref") => `(tactic| (k_here; k_dflt (refine getm_vis (by k_memK) (by assumption) (by assumption) ?_)))
local macro_rules | `(tactic| walk_at "call builtin:dict.get") => `(tactic| (k_here; k_dflt (refine get_vis3 (by k_memK) (by assumption) (by assumption) (by assumption) ?_ ?_ ?_ <;> (intros; skip))))
local macro_rules | `(tactic| walk_at "subscriptTail Name Constant ref int") => `(tactic| (k_here; k_dflt (refine item_G (by k_memK) (by k_memK) (by decide) (by decide) (by exact rfl) (by exact rfl) ?_ (by with_unfolding_all rfl))))
local macro_rules | `(tactic| walk_at "binaryOp Add str str") => `(tactic| (k_here; k_dflt (refine add_key (by k_memK) (by k_memK) ?_; intro _ _)))
local macro_rules | `(tactic| walk_at "compareOp") => `(tactic| refine halt_c2 ?_)
def ToldC (w : World) (mean : ExcName → Option Value) (mg mb : Str → Option Value) (p : Place) : Prop :=
  ∀ {G : Heap} {v : Value} {sd : Addr} {o : Obj} {vis : Vis}, PlaceIs (seeH G) v p → G.get? sd = some o → VisIs w o vis → (sd == sysModules) = false →
    Triple w mean mg mb G 343 [v, .ref sd] (htP p) [] (fun r ch' => ch' = [] ∧ r = .bool (toldP vis p)) No
theorem paired_get {α β : Type} {R : α → β → Prop} {vs : List α} {ps : List β} (h : Paired R vs ps) : ∀ (i : Nat) {v : α}, vs[i]? = some v → ∃ p, ps[i]? = some p ∧ R v p := by
  induction h with
  | nil => intro i v h; simp at h
  | cons h1 _ ih => intro i v h; cases i with
    | zero => simp at h; subst h; exact ⟨_, rfl, h1⟩
    | succ i => exact ih i (by simpa using h)
theorem news_nil {h : Heap} {L : Addr} : News G L h [] := fun z9 hp => nomatch hp
theorem told_name {sg x : Str} : ToldC w mean mg mb (.name sg x) := by
  intro G v sd o vis hp ho hv hlo
  obtain ⟨a, t1, t2, t3, rfl, hsg, hx, ha⟩ := hp
  replace hx := plain_all hx
  have hT : IsTup G a (List.toArray [.str "name" t1, .str sg t2, .str x t3]) := tup_of ha
  show Triple _ _ _ _ _ _ _ _ _ _ _
  refine' enterC (binds := [("node", .ref a), ("seen", .ref sd)]) ?k6 ?k7 ?k9 ?kB ?kD ?_ ?kn ?c2 ?c3 ?c4
  case k6 => k_is
  case k7 => k_is
  case k9 => exact rfl
  case kB => exact rfl
  case kD => decide +kernel
  case kn => first | omega | (simp only [htP, htT, htS, htB]; omega)
  case c2 => exact rfl
  case c3 => exact rfl
  case c4 => exact rfl
  k_whole
  intro dp un gd frs base A₀ s L h₁ tk₁ cells Qb Eb B X T hdp hun F N hlt Y Ap hret hexc hown
  have hY := CellsAre.one Y
  obtain ⟨o1, hE, d1⟩ := hY
  subst hE
  clear Y
  (try dsimp only at F N Ap d1)
  k_steps
  all_goals (try dsimp only [kRe, kS])
  all_goals (rename List.lookup _ _ = _ => e; exact hret _ [] _ _ _ (by assumption) news_nil ⟨rfl, congrArg Value.bool (by simp only [toldP, e]; decide +kernel)⟩)
theorem told_elem {x : Str} : ToldC w mean mg mb (.elem x) := by
  intro G v sd o vis hp ho hv hlo
  obtain ⟨a, t, a2, t1, t2, t3, a3, t4, t5, rfl, hx, ha, _, _⟩ := hp
  have hT : IsTup G a (List.toArray [.str "elem" t, .ref a2, .ref a3]) := tup_of ha
  show Triple _ _ _ _ _ _ _ _ _ _ _
  refine' enterC (binds := [("node", .ref a), ("seen", .ref sd)]) ?k6 ?k7 ?k9 ?kB ?kD ?_ ?kn ?c2 ?c3 ?c4
  case k6 => k_is
  case k7 => k_is
  case k9 => exact rfl
  case kB => exact rfl
  case kD => decide +kernel
  case kn => first | omega | (simp only [htP, htT, htS, htB]; omega)
  case c2 => exact rfl
  case c3 => exact rfl
  case c4 => exact rfl
  k_whole
  intro dp un gd frs base A₀ s L h₁ tk₁ cells Qb Eb B X T hdp hun F N hlt Y Ap hret hexc hown
  have hY := CellsAre.one Y
  obtain ⟨o1, hE, d1⟩ := hY
  subst hE
  clear Y
  (try dsimp only at F N Ap d1)
  k_steps
  all_goals (try dsimp only [kRe, kS])
  all_goals (exact hret _ [] _ _ _ (by assumption) news_nil ⟨rfl, rfl⟩)
theorem told_my {x : Str} : ToldC w mean mg mb (.told true x) := by
  intro G v sd o vis hp ho hv hlo
  obtain ⟨a, t1, t2, t3, rfl, hx, ha⟩ := hp
  have hT : IsTup G a (List.toArray [.str "my" t1, .str "$" t2, .str x t3]) := tup_of ha
  show Triple _ _ _ _ _ _ _ _ _ _ _
  refine' enterC (binds := [("node", .ref a), ("seen", .ref sd)]) ?k6 ?k7 ?k9 ?kB ?kD ?_ ?kn ?c2 ?c3 ?c4
  case k6 => k_is
  case k7 => k_is
  case k9 => exact rfl
  case kB => exact rfl
  case kD => decide +kernel
  case kn => first | omega | (simp only [htP, htT, htS, htB]; omega)
  case c2 => exact rfl
  case c3 => exact rfl
  case c4 => exact rfl
  k_whole
  intro dp un gd frs base A₀ s L h₁ tk₁ cells Qb Eb B X T hdp hun F N hlt Y Ap hret hexc hown
  have hY := CellsAre.one Y
  obtain ⟨o1, hE, d1⟩ := hY
  subst hE
  clear Y
  (try dsimp only at F N Ap d1)
  k_steps
  all_goals (try dsimp only [kRe, kS])
  all_goals (exact hret _ [] _ _ _ (by assumption) news_nil ⟨rfl, rfl⟩)
theorem told_our {x : Str} : ToldC w mean mg mb (.told false x) := by
  intro G v sd o vis hp ho hv hlo
  obtain ⟨a, t1, t2, t3, rfl, hx, ha⟩ := hp
  have hT : IsTup G a (List.toArray [.str "our" t1, .str "$" t2, .str x t3]) := tup_of ha
  show Triple _ _ _ _ _ _ _ _ _ _ _
  refine' enterC (binds := [("node", .ref a), ("seen", .ref sd)]) ?k6 ?k7 ?k9 ?kB ?kD ?_ ?kn ?c2 ?c3 ?c4
  case k6 => k_is
  case k7 => k_is
  case k9 => exact rfl
  case kB => exact rfl
  case kD => decide +kernel
  case kn => first | omega | (simp only [htP, htT, htS, htB]; omega)
  case c2 => exact rfl
  case c3 => exact rfl
  case c4 => exact rfl
  k_whole
  intro dp un gd frs base A₀ s L h₁ tk₁ cells Qb Eb B X T hdp hun F N hlt Y Ap hret hexc hown
  have hY := CellsAre.one Y
  obtain ⟨o1, hE, d1⟩ := hY
  subst hE
  clear Y
  (try dsimp only at F N Ap d1)
  k_steps
  all_goals (try dsimp only [kRe, kS])
  all_goals (exact hret _ [] _ _ _ (by assumption) news_nil ⟨rfl, rfl⟩)
theorem told_list {G : Heap} {sd : Addr} {o : Obj} {vis : Vis} {a l : Addr} {t n : Tok} {vs : List Value} {ps : List Place} (c : Nat) (hpair : Paired (fun v p => PlaceIs (seeH G) v p ∧ ToldC w mean mg mb p ∧ htP p ≤ c) vs ps) (hlen : ps.length = 1 ∨ ps.length = 2)
    (ha : G.get? a = some (tupO [.str "list" t, .ref l])) (hl : G.get? l = some (lstO vs n)) (ho : G.get? sd = some o) (hv : VisIs w o vis) (hlo : (sd == sysModules) = false) (tb : Bool) (htb : tb = ps.any (toldP vis)) :
    Triple w mean mg mb G 343 [.ref a, .ref sd] (3 + c) [] (fun r ch' => ch' = [] ∧ r = .bool tb) No := by
  subst htb
  have hT : IsTup G a (List.toArray [.str "list" t, .ref l]) := tup_of ha
  show Triple _ _ _ _ _ _ _ _ _ _ _
  refine' enterC (binds := [("node", .ref a), ("seen", .ref sd)]) ?k6 ?k7 ?k9 ?kB ?kD ?_ ?kn ?c2 ?c3 ?c4
  case k6 => k_is
  case k7 => k_is
  case k9 => exact rfl
  case kB => exact rfl
  case kD => decide +kernel
  case kn => first | omega | (simp only [htP, htT, htS, htB]; omega)
  case c2 => exact rfl
  case c3 => exact rfl
  case c4 => exact rfl
  k_whole
  intro dp un gd frs base A₀ s L h₁ tk₁ cells Qb Eb B X T hdp hun F N hlt Y Ap hret hexc hown
  have hY := CellsAre.one Y
  obtain ⟨o1, hE, d1⟩ := hY
  subst hE
  clear Y
  (try dsimp only at F N Ap d1)
  k_steps
  refine Halt.mk ?_
  refine compK (by assumption) (by assumption) (by assumption) rfl rfl rfl (by exact rfl) (by decide) rfl (by decide) (by exact rfl) (Ex := No) (fun z9 z9 z9 z9 z9 z9 h => h.elim) ?_
  k_steps
  (try dsimp only [kRe, kS])
  replace F : Fr G L _ _ := F
  refine comp_at_list (items := vs.toArray) (J := fun i ch₁ rs ys => ch₁ = [] ∧ rs = [] ∧ ys = (ps.take i).map fun p => Value.bool (toldP vis p)) F N Ap (stays_list F.keep ⟨_, hl, rfl, _, rfl⟩) (fun z9 h => nomatch h) (by have := hpair.length; simp only [List.size_toArray]; omega) ⟨rfl, rfl, rfl⟩ ?_ ?_
  · intro h₂ tk₂ i v G₂ C h tk ch₁ rs ys own m₂ E' hi hP hJ gst grest B₂ X₂ T₂ F₂ hx₂ N₂ A₂ hE' R9 hR9
    obtain ⟨rfl, rfl, rfl⟩ := hJ
    have c1 := grest (L + 1, o1) (by k_mem)
    dsimp only at c1
    obtain ⟨p, hp, hR⟩ := paired_get hpair i (show vs[i]? = some v by simpa using hP)
    clear B X T F N hret hexc hown
    k_steps
    refine Halt.mk ?_
    refine useC (ch := []) B₂ F₂ N₂ X₂ T₂ A₂ hdp hun (by first | exact Nat.lt_succ_self _ | lia) (fun G₃ st₃ z9 => hR.2.1 (hR.1.mono fun a o h => st₃ _ _ (gst _ _ h)) (st₃ _ _ (gst _ _ ho)) hv hlo) ?_ (fun z9 z9 z9 z9 z9 h => h.elim)
    intro r ch' h' tk' F' N' A' P
    obtain ⟨rfl, rfl⟩ := P
    (try k_unfold)
    refine hR9 _ _ ⟨[], [], h', tk', rfl, F', N', A', (fun z9 h => nomatch h), rfl, rfl, ?_⟩
    rw [List.take_add_one, hp]; simp
  · intro D ch' rs ys k h' tk' hlen' hJ F' N' A'
    obtain ⟨rfl, rfl, rfl⟩ := hJ
    replace F' : Fr G L h' _ := F'
    replace N' : News G L h' _ := N'
    have hlen2 := hpair.length
    rw [show vs.toArray.size = ps.length by simp only [List.size_toArray]; omega, List.take_length] at N'
    have hin : h'.IsList D (ps.map fun p => Value.bool (toldP vis p)).toArray := ⟨_, (N' (D, _) (List.mem_cons_self)).1, rfl, _, rfl⟩
    k_steps
    refine Halt.mk ?_
    refine PySem.SeqAt.in_listAt (fun y => y == Value.bool true) hin (fun y hy => ?_) ?_
    · obtain ⟨p, _, rfl⟩ := List.mem_map.mp (List.mem_toArray.mp hy)
      rw [show (Value.bool (toldP vis p) == Value.bool true) = (toldP vis p == true) by cases toldP vis p <;> rfl]
      exact PySem.SeqAt.EqAt.bool_bool _ _
    · rw [show (ps.map fun p => Value.bool (toldP vis p)).toArray.any (fun y => y == Value.bool true) = ps.any (toldP vis) by
        rw [List.any_toArray, List.any_map]; congr 1; funext p; show (Value.bool (toldP vis p) == Value.bool true) = _; cases toldP vis p <;> rfl]
      exact hret (.ret (.bool _)) [] _ _ _ F' news_nil ⟨rfl, rfl⟩
theorem told_ok : ∀ p : Place, ToldC w mean mg mb p
  | .name sg x => told_name
  | .elem x => told_elem
  | .told true x => told_my
  | .told false x => told_our
  | .one p => by
    intro hp ho hv hlo
    simp only [PlaceIs] at hp
    obtain ⟨a, t, l, n, v1, rfl, ha, hl, h1⟩ := hp
    exact told_list (ps := [p]) (htP p) (.cons ⟨h1, told_ok p, Nat.le_refl _⟩ .nil) (.inl rfl) ha hl ho hv hlo (toldP _ p) (by simp)
  | .two p q => by
    intro hp ho hv hlo
    simp only [PlaceIs] at hp
    obtain ⟨a, t, l, n, v1, v2, rfl, ha, hl, h1, h2⟩ := hp
    exact told_list (ps := [p, q]) (max (htP p) (htP q)) (.cons ⟨h1, told_ok p, Nat.le_max_left _ _⟩ (.cons ⟨h2, told_ok q, Nat.le_max_right _ _⟩ .nil)) (.inr rfl) ha hl ho hv hlo (toldP _ p || toldP _ q) (by simp)
end
section
variable {w : World} {mean : ExcName → Option Value} {mg mb : Str → Option Value}
def CompTurn1 (w : World) (mean : ExcName → Option Value) (mg mb : Str → Option Value) (dp un : Nat) (gd : Option (List Code)) (frs : List Env) (base G : Heap) (env : Env) (scope : Scope) (cl : List (Str × Addr)) (x : Str) (elt tst : PySem.Expr) (Ex : Int → Prop)
    (n : Nat) (P : Nat → Value → Prop) (rest : Led) (J : Nat → Led → Led → List Value → Prop) (s₂ : Shared) : Prop :=
  ∀ (i : Nat) (v : Value) (G₂ : Heap) (C : Addr) (h : Heap) (tk : Nat) (ch₁ rs : Led) (ys : List Value) (own : Led) (m₂ : Str → Option Value) (E' : Value → Shared → Prop), i < n → P i v → J i ch₁ rs ys →
    G.StaysIn G₂ → (∀ p ∈ rest, G₂.get? p.1 = some p.2) → Below (arn dp un gd (env :: frs)) base (env :: frs) G₂ → (hd.heap_39 w.params).In G₂ → Top hd.view_39 LO mean mg mb G₂ →
    Fr G₂ C h m₂ → m₂ x = some v → News G₂ C h (ch₁ ++ (rs ++ own)) → Apart ch₁ (rs ++ own) →
    (∀ e ln h' tk', (∃ G₃, Fr G₂ C G₃ m₂ ∧ Exn base (env :: frs) G₃ e ln h' ∧ G₃.UpToSlots h') → Ex ln → E' (.ref e) { s₂ with heap := h', toks := tk' }) →
    wpAny (model PG w) (arn dp un gd (env :: frs)) (isTrue tst (compEnvC scope cl C env) (eval tst (compEnvC scope cl C env)))
      (fun b s' => ∃ h' tk', s' = { s₂ with heap := h', toks := tk' } ∧ Fr G₂ C h' m₂ ∧ News G₂ C h' (ch₁ ++ (rs ++ own)) ∧ (b = false → J (i + 1) ch₁ rs ys) ∧
        (b = true → wpAny (model PG w) (arn dp un gd (env :: frs)) (eval elt (compEnvC scope cl C env))
          (fun y s' => ∃ ch₂ new h' tk', s' = { s₂ with heap := h', toks := tk' } ∧ Fr G₂ C h' m₂ ∧ News G₂ C h' (ch₂ ++ (new ++ (rs ++ own))) ∧ Apart ch₂ (new ++ (rs ++ own)) ∧ Apart new own ∧ J (i + 1) ch₂ (new ++ rs) (ys ++ [y]))
          E' { s₂ with heap := h', toks := tk' }))
      E' { s₂ with heap := h, toks := tk }
theorem CompTurn1.toG {dp un : Nat} {gd : Option (List Code)} {frs : List Env} {base G : Heap} {env : Env} {scope : Scope} {cl : List (Str × Addr)} {x : Str} {elt tst : PySem.Expr} {Ex : Int → Prop} {n : Nat} {P : Nat → Value → Prop} {rest : Led} {J : Nat → Led → Led → List Value → Prop} {s₂ : Shared}
    (t : CompTurn1 w mean mg mb dp un gd frs base G env scope cl x elt tst Ex n P rest J s₂) : CompTurnG w mean mg mb dp un gd frs base G env scope cl x elt [tst] Ex n P rest J s₂ :=
  fun i v G₂ C h tk ch₁ rs ys own m₂ E' a b c d e f g k l p q r o => wpAny_tests_one (t i v G₂ C h tk ch₁ rs ys own m₂ E' a b c d e f g k l p q r o)
end
section
variable {w : World} {mean : ExcName → Option Value} {mg mb : Str → Option Value}
section
variable {dp un : Nat} {gd : Option (List Code)} {frs : List Env} {base G : Heap} {env : Env} {scope : Scope} {cl : List (Str × Addr)} {x : Str} {elt tst : PySem.Expr} {Ex : Int → Prop} {Q : Value → Shared → Prop} {E : Value → Shared → Prop}
  {m : Str → Option Value} {ch rest : Led} {J : Nat → Led → Led → List Value → Prop} {s : Shared}
def CompDone1 (env : Env) (G : Heap) (m : Str → Option Value) (rest : Led) (n : Nat) (J : Nat → Led → Led → List Value → Prop) (Q : Value → Shared → Prop) (s : Shared) : Prop :=
  ∀ D ch' rs ys k h' tk', ys.length ≤ n → J n ch' rs ys → Fr G env.locals h' m → News G env.locals h' (ch' ++ ((D, lstX ys k) :: (rs ++ rest))) → Apart ch' ((D, lstX ys k) :: (rs ++ rest)) → Q (.ref D) { s with heap := h', toks := tk' }
theorem comp_at_tupS {l : Addr} {items : Array Value} (F : Fr G env.locals s.heap m) (N : News G env.locals s.heap (ch ++ rest)) (Ap : Apart ch rest) (hl : s.heap.IsTuple l items) (hlc : ∀ p ∈ ch, p.1 ≠ l) (hn : items.size ≤ 1000) (hJ : J 0 ch [] [])
    (turn : ∀ h₂ tk₂, CompTurn w mean mg mb dp un gd frs base G env scope cl x elt Ex items.size (fun i v => items[i]? = some v) rest J { s with heap := h₂, toks := tk₂ })
    (done : CompDone env G m rest items.size J Q s) :
    wpAny (model PG w) (arn dp un gd (env :: frs)) (pyIter (.ref l)) (fun it s₂ => (∃ h₂ tk₂, s₂ = { s with heap := h₂, toks := tk₂ }) ∧ CompAtG w mean mg mb dp un gd frs base G env scope cl x elt [] Ex Q it s₂) E s := by
  refine wpAny_pyIter_tuple hl ?_
  generalize hI : s.heap.objs.size = I
  generalize hh : s.heap.push { cls := .type "tuple_iterator", data := .fields #[.ref l, .int 0 0] } = h₂
  have up : ∀ b o, s.heap.get? b = some o → h₂.get? b = some o := fun b o e => by rw [← hh]; exact Heap.get?_push_of_some _ e
  have hlt : ∀ b o, s.heap.get? b = some o → b ≠ I := fun b o e q => absurd (Heap.lt_size e) (by rw [hI, q]; exact Nat.lt_irrefl _)
  refine cps fun k_ => ?_
  obtain ⟨oL, es, ep, hL, hr'⟩ := F.ns
  apply k_
  clear k_
  refine cps fun k_ => ?_
  obtain ⟨ol, hol, _⟩ := id hl
  apply k_
  clear k_
  refine ⟨⟨h₂, s.toks, rfl⟩, I, [I, l], items.size, _, _, m, ch, rest, (fun i ch rs ys => J i ch rs ys ∧ ys.length = i), rfl, Walks.tuple rfl I l (hlt _ _ hol) items, hn, ⟨⟨_, by rw [← hh, ← hI]; exact Heap.get?_push_size _ rfl, rfl, rfl⟩, hl.at fun o e => up _ _ e⟩,
    fun i h st => let ⟨o, ho, _⟩ := st.1; ⟨o, ho⟩, ⟨⟨oL, es, ep, up _ _ hL, hr'⟩, fun b o e => up b o (F.keep b o e), F.above⟩, fun p hp => ⟨up _ _ (N p hp).1, (N p hp).2⟩, Ap, ?_, (hlt _ _ hL).symm, fun p hp => hlt _ _ (N p hp).1,
    fun b hb => ?_, ⟨hJ, rfl⟩, (turn h₂ s.toks).toG, fun D ch' rs ys k h' tk' a b c d e => done D ch' rs ys k h' tk' b.2 b.1 c d e⟩
  · cases q : G.get? I with
    | none => rfl
    | some o => exact absurd rfl (hlt _ _ (F.keep _ _ q))
  · rcases List.mem_cons.mp hb with q | hb
    · exact .inl q
    · rw [List.mem_singleton.mp hb]; exact .inr ⟨⟨ol, up _ _ hol⟩, hlc⟩
theorem comp_at_tup {hp : Heap} {tk₀ : Nat} {l : Addr} {items : Array Value} (F : Fr G env.locals hp m) (N : News G env.locals hp (ch ++ rest)) (Ap : Apart ch rest) (hl : hp.IsTuple l items) (hlc : ∀ p ∈ ch, p.1 ≠ l) (hn : items.size ≤ 1000) (hJ : J 0 ch [] [])
    (turn : ∀ h₂ tk₂, CompTurn w mean mg mb dp un gd frs base G env scope cl x elt Ex items.size (fun i v => items[i]? = some v) rest J { s with heap := h₂, toks := tk₂ })
    (done : CompDone env G m rest items.size J Q s) :
    wpAny (model PG w) (arn dp un gd (env :: frs)) (pyIter (.ref l)) (fun it s₂ => (∃ h₂ tk₂, s₂ = { s with heap := h₂, toks := tk₂ }) ∧ CompAtG w mean mg mb dp un gd frs base G env scope cl x elt [] Ex Q it s₂) E { s with heap := hp, toks := tk₀ } := comp_at_tupS (s := { s with heap := hp, toks := tk₀ }) F N Ap hl hlc hn hJ turn done
theorem comp1_at_tupS {l : Addr} {items : Array Value} (F : Fr G env.locals s.heap m) (N : News G env.locals s.heap (ch ++ rest)) (Ap : Apart ch rest) (hl : s.heap.IsTuple l items) (hlc : ∀ p ∈ ch, p.1 ≠ l) (hn : items.size ≤ 1000) (hJ : J 0 ch [] [])
    (turn : ∀ h₂ tk₂, CompTurn1 w mean mg mb dp un gd frs base G env scope cl x elt tst Ex items.size (fun i v => items[i]? = some v) rest J { s with heap := h₂, toks := tk₂ })
    (done : CompDone1 env G m rest items.size J Q s) :
    wpAny (model PG w) (arn dp un gd (env :: frs)) (pyIter (.ref l)) (fun it s₂ => (∃ h₂ tk₂, s₂ = { s with heap := h₂, toks := tk₂ }) ∧ CompAtG w mean mg mb dp un gd frs base G env scope cl x elt [tst] Ex Q it s₂) E s := by
  refine wpAny_pyIter_tuple hl ?_
  generalize hI : s.heap.objs.size = I
  generalize hh : s.heap.push { cls := .type "tuple_iterator", data := .fields #[.ref l, .int 0 0] } = h₂
  have up : ∀ b o, s.heap.get? b = some o → h₂.get? b = some o := fun b o e => by rw [← hh]; exact Heap.get?_push_of_some _ e
  have hlt : ∀ b o, s.heap.get? b = some o → b ≠ I := fun b o e q => absurd (Heap.lt_size e) (by rw [hI, q]; exact Nat.lt_irrefl _)
  refine cps fun k_ => ?_
  obtain ⟨oL, es, ep, hL, hr'⟩ := F.ns
  apply k_
  clear k_
  refine cps fun k_ => ?_
  obtain ⟨ol, hol, _⟩ := id hl
  apply k_
  clear k_
  refine ⟨⟨h₂, s.toks, rfl⟩, I, [I, l], items.size, _, _, m, ch, rest, J, rfl, Walks.tuple rfl I l (hlt _ _ hol) items, hn, ⟨⟨_, by rw [← hh, ← hI]; exact Heap.get?_push_size _ rfl, rfl, rfl⟩, hl.at fun o e => up _ _ e⟩,
    fun i h st => let ⟨o, ho, _⟩ := st.1; ⟨o, ho⟩, ⟨⟨oL, es, ep, up _ _ hL, hr'⟩, fun b o e => up b o (F.keep b o e), F.above⟩, fun p hp => ⟨up _ _ (N p hp).1, (N p hp).2⟩, Ap, ?_, (hlt _ _ hL).symm, fun p hp => hlt _ _ (N p hp).1,
    fun b hb => ?_, hJ, (turn h₂ s.toks).toG, fun D ch' rs ys k h' tk' a b c d e => done D ch' rs ys k h' tk' a b c d e⟩
  · cases q : G.get? I with
    | none => rfl
    | some o => exact absurd rfl (hlt _ _ (F.keep _ _ q))
  · rcases List.mem_cons.mp hb with q | hb
    · exact .inl q
    · rw [List.mem_singleton.mp hb]; exact .inr ⟨⟨ol, up _ _ hol⟩, hlc⟩
theorem comp1_at_tup {hp : Heap} {tk₀ : Nat} {l : Addr} {items : Array Value} (F : Fr G env.locals hp m) (N : News G env.locals hp (ch ++ rest)) (Ap : Apart ch rest) (hl : hp.IsTuple l items) (hlc : ∀ p ∈ ch, p.1 ≠ l) (hn : items.size ≤ 1000) (hJ : J 0 ch [] [])
    (turn : ∀ h₂ tk₂, CompTurn1 w mean mg mb dp un gd frs base G env scope cl x elt tst Ex items.size (fun i v => items[i]? = some v) rest J { s with heap := h₂, toks := tk₂ })
    (done : CompDone1 env G m rest items.size J Q s) :
    wpAny (model PG w) (arn dp un gd (env :: frs)) (pyIter (.ref l)) (fun it s₂ => (∃ h₂ tk₂, s₂ = { s with heap := h₂, toks := tk₂ }) ∧ CompAtG w mean mg mb dp un gd frs base G env scope cl x elt [tst] Ex Q it s₂) E { s with heap := hp, toks := tk₀ } := comp1_at_tupS (s := { s with heap := hp, toks := tk₀ }) F N Ap hl hlc hn hJ turn done
end
end
local macro_rules | `(tactic| walk_at "exec For Name Name cons nil") => `(tactic| (refine Halt.out ?_))
local macro_rules | `(tactic| walk_at "Exists") => `(tactic| (refine Halt.out ?_))
section
variable {w : World} {mean : ExcName → Option Value} {mg mb : Str → Option Value}
inductive HereIs (w : World) (o : Obj) (ln : Int) : Prop
  | mk (tk : _) (h1_ : o.IsDictOf (strKind PG w) [("line", .int ln tk)]) : HereIs w o ln
inductive SErr (w : World) (hr nw : Addr) (e : Int) (r : Value) (ch' : Led) : Prop
  | mk (h0 : ∃ tk, r = .int e tk) (oh on : Obj) (n : Vis) (h1 : ch' = [(hr, oh), (nw, on)]) (h2 : VisIs w on n) : SErr w hr nw e r ch'
inductive SOk (w : World) (hr nw : Addr) (l : Int) (n : Vis) (r : Value) (ch' : Led) : Prop
  | mk (h0 : ∃ tk, r = .int 0 tk) (oh on : Obj) (h1 : ch' = [(hr, oh), (nw, on)]) (h2 : HereIs w oh l) (h3 : VisIs w on n) : SOk w hr nw l n r ch'
def SPost (w : World) (hr nw : Addr) (res : Except Int (Int × Vis)) (r : Value) (ch' : Led) : Prop := match res with
  | .error e => SErr w hr nw e r ch'
  | .ok (l, n) => SOk w hr nw l n r ch'
def WalkC (w : World) (mean : ExcName → Option Value) (mg mb : Str → Option Value) (isN : See → Value → Prop) (run : Int → Vis → Vis → Except Int (Int × Vis)) (n : Nat) : Prop :=
  ∀ {G : Heap} {v : Value} {hr sd nw : Addr} {o oh on : Obj} {ln : Int} {vis new : Vis}, isN (seeH G) v → G.get? sd = some o → VisIs w o vis → (sd == sysModules) = false → HereIs w oh ln → (∀ e, run ln vis new = .error e → 1 ≤ e) → VisIs w on new → @Ne Nat hr nw → (hr == sysModules) = false → (nw == sysModules) = false →
    Triple w mean mg mb G 348 [v, .ref hr, .ref sd, .ref nw] n [(hr, oh), (nw, on)] (SPost w hr nw (run ln vis new)) No
def runT' (t : Term) (ln : Int) (vis new : Vis) : Except Int (Int × Vis) := match runT ln vis new t with
  | .error e => .error e
  | .ok n => .ok (ln, n)
def runP' (p : Place) (ln : Int) (_ new : Vis) : Except Int (Int × Vis) := .ok (ln, runP new p)
theorem slice1_G {A : Around} {E : Value → Shared → Prop} {s : Shared} {G : Heap} {L : Addr} {m : Str → Option Value} {news : Led} {value slice : PySem.Expr} {t : Addr} {x : Value} {l : List Value} {u : Tok} {Q : Value → Shared → Prop}
    (F : Fr G L s.heap m) (N : News G L s.heap news) (ht : IsTup G t (List.toArray (x :: l))) (ha : 1 ≤ l.length + 1) (hsz : l.length ≤ 50)
    (h : ∀ (D : Addr) (h' : Heap), Fr G L h' m → News G L h' ((D, tupO l) :: news) → (∀ p ∈ news, @LT.lt Nat _ p.1 D) → Q (.ref D) { s with heap := h' })
    (hs : subscripted slice false (.ref t) (.ref s.heap.objs.size) = operate [.ref s.heap.objs.size, .ref t] (getItem (.ref t) (.ref s.heap.objs.size)) := by with_unfolding_all rfl)
    (hg : ∀ r, letTemporaryGo value (.ref t) r = pure () := by intro _; with_unfolding_all rfl) :
    wpAny (model PG w) A (subscriptTail value slice (.ref t) (.ref s.heap.objs.size)) Q E { s with heap := s.heap.push { cls := .type "slice", data := .fields #[.int (1 : Nat) u, .none, .none] } } :=
  slice_tuple_from (a := 1) F N (IsTup.keeps ht F.keep) (Nat.le_refl _) (by simp) (fun h' F' N' => h _ h' F' (by simpa using N') fun p hp => Nat.lt_succ_of_lt (Heap.lt_size (N p hp).1)) hs hg (by have := line39; simp only [List.size_toArray, List.length_cons]; lia)
theorem item0_G {A : Around} {E : Value → Shared → Prop} {s : Shared} {G : Heap} {L a : Addr} {m : Str → Option Value} {value slice : PySem.Expr} {l : List Value} {u : Tok} {x : Value} {Q : Value → Shared → Prop} (F : Fr G L s.heap m) (hT : IsTup G a (List.toArray (x :: l)))
    (h : Q x s) (hs : subscripted slice false (.ref a) (.int 0 u) = operate [.ref a, .int 0 u] (getItem (.ref a) (.int 0 u)) := by with_unfolding_all rfl) :
    wpAny (model PG w) A (subscriptTail value slice (.ref a) (.int 0 u)) Q E s :=
  item_tupleT (IsTup.keeps hT F.keep) (by decide) (by decide) (j := 0) (by simp only [seqIndex?, List.length_cons]; simp) rfl h hs
local macro_rules | `(tactic| walk_at "subscriptTail Name Constant ref int") => `(tactic| (k_here; (with_reducible show wpAny _ _ (subscriptTail _ _ (Value.ref _) (Value.int 0 _)) _ _ _); k_dflt (refine item0_G (by k_memK) (by k_memK) ?_ (by with_unfolding_all rfl))))
local macro_rules | `(tactic| walk_at "subscriptTail Name Slice ref ref") => `(tactic| (k_here; (with_reducible show wpAny _ _ (subscriptTail _ _ (Value.ref _) (Value.ref _)) _ _ _); (with_reducible rename Fr _ _ _ _ => kF); (with_reducible rename News _ _ _ _ => kN); (with_unfolding_all refine slice1_G kF kN (by k_memK) (by exact Nat.le_add_left _ _) (by first | lia | simp) ?_); clear kF kN; intro D' h' F' N' l1'; (try k_sweep)))
def Plainly (G : Heap) (v : Value) : Prop := (∃ x t, v = .str x t) ∨ (∃ i t, v = .int i t) ∨ ∃ a l, v = .ref a ∧ G.get? a = some (tupO l)
def isRef (v : Value) : Bool := match v with | .ref _ => true | _ => false
theorem Plainly.mono {G G' : Heap} {v : Value} (h : Plainly G v) (st : G.StaysIn G') : Plainly G' v := by
  rcases h with h | h | ⟨a, l, e, h⟩
  · exact .inl h
  · exact .inr (.inl h)
  · exact .inr (.inr ⟨a, l, e, st _ _ h⟩)
theorem isi_plain {A : Around} {E : Value → Shared → Prop} {s : Shared} {G : Heap} {L : Addr} {m : Str → Option Value} {v : Value} {Q : Value → Shared → Prop} (F : Fr G L s.heap m) (hv : Plainly G v) (h : ∀ tk, Q (.bool (isRef v)) { s with toks := tk }) :
    wpAny (model PG w) A (call (.builtin "isinstance") [v, .type "tuple"]) Q E s := by
  rcases hv with ⟨x, t, rfl⟩ | ⟨i, t, rfl⟩ | ⟨a, l, rfl, ha⟩
  · exact call_isinstance (isinstance_false_str (by decide +kernel) PySem.F.isi_meta_tuple PySem.F.sub_str_tuple) (h _)
  · exact call_isinstance (isinstance_false_int (by decide +kernel) PySem.F.isi_meta_tuple PySem.F.sub_int_tuple) (h _)
  · exact call_isinstance_yes (Tx := "tuple") ⟨_, F.keep _ _ ha, rfl⟩ PySem.F.isi_meta_tuple (by rw [isSubtype_type]; kernel_rfl) (h _)
local macro_rules | `(tactic| walk_at "call builtin:isinstance") => `(tactic| (k_here; k_dflt (refine isi_plain (by k_memK) (by k_memK) ?_; intro _)))
local macro_rules | `(tactic| walk_at "no") => `(tactic| skip)
abbrev Run := Int → Vis → Vis → Except Int (Int × Vis)
inductive Kid (w : World) (mean : ExcName → Option Value) (mg mb : Str → Option Value) (G : Heap) (n : Nat) (v : Value) (run : Run) : Prop
  | mk (isN : See → Value → Prop) (h1_ : (∀ (P P' : See) (v : Value), (∀ a o, P a o → P' a o) → isN P v → isN P' v)) (h2_ : isN (seeH G) v) (h3_ : WalkC w mean mg mb isN run n) (h4_ : ∀ ln vis new l n', run ln vis new = .ok (l, n') → l = ln) : Kid w mean mg mb G n v run
def foldR : List Run → Run
  | [], ln, _, new => .ok (ln, new)
  | r :: rs, ln, vis, new => match r ln vis new with
    | .error e => .error e
    | .ok (_, n) => foldR rs ln vis n
theorem filt_take {vals : List Value} {i : Nat} {v : Value} (h : vals[i]? = some v) : (vals.take (i + 1)).filter isRef = if isRef v then (vals.take i).filter isRef ++ [v] else (vals.take i).filter isRef := by
  rw [List.take_add_one, h, List.filter_append]
  cases hv : isRef v <;> simp [hv]
theorem foldR_drop {rs : List Run} {i : Nat} {r : Run} (h : rs[i]? = some r) (ln : Int) (vis new : Vis) : foldR (rs.drop i) ln vis new = match r ln vis new with
    | .error e => .error e
    | .ok (_, n) => foldR (rs.drop (i + 1)) ln vis n := by
  rw [List.drop_eq_getElem_cons (List.getElem?_eq_some_iff.mp h).1, (List.getElem?_eq_some_iff.mp h).2]
  rfl
theorem news_p3 {h : Heap} {G : Heap} {L : Addr} {x a c : Addr × Obj} {r : Led} (N : News G L h (x :: (r ++ [a, c]))) : News G L h ([a, c] ++ (x :: r)) := fun p hp => N p (by
  simp only [List.mem_append, List.mem_cons, List.not_mem_nil, or_false] at hp ⊢
  rcases hp with (hp | hp) | hp | hp <;> simp only [hp, true_or, or_true])
theorem news_p3' {h : Heap} {G : Heap} {L : Addr} {x : Addr × Obj} {c r : Led} (N : News G L h (c ++ (x :: r))) : News G L h (x :: (r ++ c)) := fun p hp => N p (by
  simp only [List.mem_append, List.mem_cons] at hp ⊢
  rcases hp with hp | hp | hp <;> simp only [hp, true_or, or_true])
theorem news_p4 {h : Heap} {G : Heap} {L : Addr} {x a c : Addr × Obj} (N : News G L h [x, a, c]) : News G L h ([a, c] ++ [x]) := fun p hp => N p (by
  simp only [List.mem_append, List.mem_cons, List.not_mem_nil, or_false] at hp ⊢
  rcases hp with (hp | hp) | hp <;> simp only [hp, true_or, or_true])
theorem news_p5 {h : Heap} {G : Heap} {L : Addr} {c r : Led} (N : News G L h (c ++ r)) : News G L h (r ++ c) := fun p hp => N p (List.mem_append.mpr (List.mem_append.mp hp).symm)
theorem apart_two {h1 h2 I : Addr} {o1 o2 o1' o2' oI : Obj} {own : Led} (A : Apart [(h1, o1), (h2, o2)] own) (n1 : @Ne Nat I h1) (n2 : @Ne Nat I h2) : Apart [(h1, o1'), (h2, o2')] ((I, oI) :: own) := fun p hp q hq => by
  simp only [List.mem_cons, List.not_mem_nil, or_false] at hp
  rcases List.mem_cons.mp hq with rfl | hq
  · rcases hp with rfl | rfl
    · exact fun e => n1 e.symm
    · exact fun e => n2 e.symm
  · rcases hp with rfl | rfl
    · exact A (h1, o1) (by simp) q hq
    · exact A (h2, o2) (by simp) q hq
theorem two_mem {a b : Addr × Obj} {l : Led} (h1 : a ∈ l) (h2 : b ∈ l) : ∀ p ∈ [a, b], p ∈ l := fun p hp => by
  rcases List.mem_cons.mp hp with rfl | hp
  · exact h1
  · rw [List.mem_singleton.mp hp]; exact h2
theorem ne_zero_of {e : Int} (h : 1 ≤ e) : (e == 0) = false := by simp; lia
inductive PartsJ (w : World) (hr sd nw : Addr) (runs : List Run) (ln : Int) (vis new : Vis) (i : Nat) (m₁ : Str → Option Value) : Led → Prop
  | mk (oh₁ on₁ : Obj) (new₁ : Vis) (a : m₁ (Str.ofString "here") = some (.ref hr)) (b : m₁ (Str.ofString "seen") = some (.ref sd)) (c : m₁ (Str.ofString "new") = some (.ref nw)) (d : HereIs w oh₁ ln) (e : VisIs w on₁ new₁) (f : foldR runs ln vis new = foldR (runs.drop i) ln vis new₁) : PartsJ w hr sd nw runs ln vis new i m₁ [(hr, oh₁), (nw, on₁)]
theorem walk_parts {G : Heap} {a hr sd nw : Addr} {o oh on : Obj} {ln : Int} {vis new : Vis} {wd : Str} {t : Tok} {vals : List Value} {runs : List Run} {n : Nat} (hlen : vals.length ≤ 3) (hpl : ∀ v ∈ vals, Plainly G v) (hk : Paired (Kid w mean mg mb G n) (vals.filter isRef) runs)
    (ha : G.get? a = some (tupO (.str wd t :: vals))) (ho : G.get? sd = some o) (hv : VisIs w o vis) (hlo : (sd == sysModules) = false) (hh : HereIs w oh ln) (hpos : ∀ e, foldR runs ln vis new = .error e → 1 ≤ e) (hn : VisIs w on new) (hne : @Ne Nat hr nw) (hl1 : (hr == sysModules) = false) (hl2 : (nw == sysModules) = false)
    (hw0 : (wd == Str.ofString "my") = false)
    (hw1 : (wd == Str.ofString "our") = false)
    (hw2 : (wd == Str.ofString "local") = false)
    (hw3 : (wd == Str.ofString "anonsub") = false)
    (hw4 : (wd == Str.ofString "expr") = false)
    (hw5 : (wd == Str.ofString "bare") = false)
    (hw6 : (wd == Str.ofString "if") = false)
    (hw7 : (wd == Str.ofString "foreach") = false)
    (hw8 : (wd == Str.ofString "list") = false) :
    Triple w mean mg mb G 348 [.ref a, .ref hr, .ref sd, .ref nw] (n + 1) [(hr, oh), (nw, on)] (SPost w hr nw (foldR runs ln vis new)) No := by
  have hT : IsTup G a (List.toArray (.str wd t :: vals)) := tup_of ha
  show Triple _ _ _ _ _ _ _ _ _ _ _
  refine' enter (binds := [("node", .ref a), ("here", .ref hr), ("seen", .ref sd), ("new", .ref nw)]) ?k6 ?k7 ?k9 ?kB ?_ ?kn ?c5 ?c2 ?c3 ?c4
  case k6 => k_is
  case k7 => k_is
  case k9 => exact rfl
  case kB => exact locs rfl
  case kn => first | lia | (simp only [htP, htT, htS, htB]; lia)
  case c5 => decide
  case c2 => exact rfl
  case c3 => exact rfl
  case c4 => exact rfl
  k_whole
  intro dp un gd frs base A₀ s L h₁ tk₁ Qb Eb B X T hdp hun F N hlt hret hexc hown
  (try dsimp only at F)
  k_steps
  all_goals (try dsimp only [kRe, kS])
  refine Halt.mk ?_
  refine compK (by assumption) (by assumption) (by assumption) rfl rfl rfl (by exact rfl) (by decide) rfl (by decide) (by exact rfl) (Ex := No) (fun z9 z9 z9 z9 z9 z9 h => h.elim) ?_
  k_steps
  (try dsimp only [kRe, kS])
  rename_i T9 h9 F9 N9 l9
  refine comp1_at_tup (ch := [(hr, oh), (nw, on)]) (rest := [(T9, tupO vals)]) (items := List.toArray vals) (J := fun i ch₁ rs ys => ch₁ = [(hr, oh), (nw, on)] ∧ rs = [] ∧ ys = (vals.take i).filter isRef) F9 (news_p4 N9)
    (fun p hp q hq => by rw [List.mem_singleton.mp hq]; exact Nat.ne_of_lt (l9 p hp)) ⟨_, (N9 (T9, tupO vals) (by k_mem)).1, rfl, _, rfl⟩ (fun p hp => Nat.ne_of_lt (l9 p hp)) (by simp; lia) ⟨rfl, rfl, rfl⟩ ?_ ?_
  · intro h₂ tk₂ i v G₂ C h tk ch₁ rs ys own m₂ E' hi hP hJ gst grest B₂ X₂ T₂ F₂ hx₂ N₂ A₂ hE'
    refine cps fun k_ => ?_
    obtain ⟨rfl, rfl, rfl⟩ := hJ
    apply k_
    clear k_
    have hP' : vals[i]? = some v := by simpa using hP
    have hv9 := (hpl v (List.mem_of_getElem? hP')).mono gst
    clear B X T N9 F9 hret hexc hown hk
    k_steps
    refine Halt.mk ⟨_, _, rfl, F₂, N₂, fun hb => ⟨(by first | rfl | trivial), (by first | rfl | trivial), ?_⟩, fun hb => ?_⟩
    · rw [filt_take hP', hb]; rfl
    · k_steps
      refine Halt.mk ⟨_, [], _, _, rfl, F₂, N₂, A₂, (fun z9 h => nomatch h), (by first | rfl | trivial), (by first | rfl | trivial), ?_⟩
      rw [filt_take hP', hb]; rfl
  · intro D ch' rs ys k h' tk' hlen' hJ F' N' A'
    refine cps fun k_ => ?_
    obtain ⟨rfl, rfl, rfl⟩ := hJ
    apply k_
    clear k_
    rw [show (List.toArray vals).size = vals.length by simp, List.take_length] at N' A'
    replace F' : Fr G L h' _ := F'
    replace N' : News G L h' ([(hr, oh), (nw, on)] ++ ((D, lstX (vals.filter isRef) k) :: [(T9, tupO vals)])) := N'
    replace A' : Apart [(hr, oh), (nw, on)] ((D, lstX (vals.filter isRef) k) :: [(T9, tupO vals)]) := A'
    clear N9 F9
    k_steps
    (try dsimp only [kRe, kS])
    rename News _ _ _ _ => N9
    have NL : News G L _ ([(D, lstX (vals.filter isRef) k), (T9, tupO vals)] ++ [(hr, oh), (nw, on)]) := news_p5 N9
    have AL : Apart [(hr, oh), (nw, on)] [(D, lstX (vals.filter isRef) k), (T9, tupO vals)] := A'
    have hIL : Heap.IsList _ D (List.toArray (vals.filter isRef)) := ⟨_, (N9 (D, lstX (vals.filter isRef) k) (by k_mem)).1, rfl, _, rfl⟩
    clear A' N9
    refine Halt.mk ?_
    refine forK (G := G) hown ?_
    k_steps
    (try dsimp only [kRe, kS])
    rename Fr _ _ _ _ => F9
    refine for_at_list (items := List.toArray (vals.filter isRef)) (own := [(D, lstX (vals.filter isRef) k), (T9, tupO vals)]) (led := [(hr, oh), (nw, on)]) (J := PartsJ w hr sd nw runs ln vis new)
      F9 NL hIL (.inr ⟨_, by k_mem⟩) (.mk oh on new rfl rfl rfl hh hn rfl) ?_ ?_
    · intro I h₂ tk₂ i v h tk m₁ led₁ oI hi hP hJ F₁ N₁ hneI R hR
      refine cps fun k_ => ?_
      obtain ⟨oh₁, on₁, new₁, hm1, hm2, hm3, hh₁, hn₁, hf⟩ := hJ
      apply k_
      clear k_
      have hv9 : (vals.filter isRef)[i]? = some v := by simpa using hP
      refine cps fun k_ => ?_
      obtain ⟨run, hri, isN, mono, his, hW, hline⟩ := paired_get hk i hv9
      apply k_
      clear k_
      have hf2 := foldR_drop hri ln vis new₁
      rw [← hf] at hf2
      have hpo : ∀ e, run ln vis new₁ = .error e → 1 ≤ e := fun e he => hpos e (by rw [hf2, he])
      refine wpAny_assign_Name (wpAny_storeName_local rfl F₁.ns (fun h₃ hn₃ hs₃ => ?_) rfl)
      have F₃ := F₁.set hn₃ hs₃
      replace N₁ := N₁.set hs₃
      (try dsimp only at F₃ N₁)
      replace F₃ := fr_name (fr_name (fr_name F₃ (x := Str.ofString "here") (v := .ref hr) (by rw [if_neg (by decide)]; exact hm1)) (x := Str.ofString "seen") (v := .ref sd) (by rw [if_neg (by decide), if_neg (by decide)]; exact hm2)) (x := Str.ofString "new") (v := .ref nw) (by rw [if_neg (by decide), if_neg (by decide), if_neg (by decide)]; exact hm3)
      have hIr : @Ne Nat I hr := (hneI (hr, oh₁) (by simp)).symm
      have hIn : @Ne Nat I nw := (hneI (nw, on₁) (by simp)).symm
      have AI := apart_two (oI := oI) (o1' := oh₁) (o2' := on₁) AL hIr hIn
      clear F₁ hn₃ hs₃ F9 NL
      k_steps
      refine Halt.mk ?_
      refine useN (ch := [(hr, oh₁), (nw, on₁)]) (by assumption) F₃ (news_p3 N₁) (by assumption) (by assumption) AI (by exact rfl) (by exact rfl) hdp hun (by first | exact Nat.lt_succ_self _ | lia) (fun G₂ st₂ z9 => hW (mono _ _ _ (fun a o h => st₂ _ _ h) his) (st₂ _ _ ho) hv hlo hh₁ hpo hn₁ hne hl1 hl2) ?_
      intro r' ch' h' tk' F' N' A' P'
      cases hrun : run ln vis new₁ with
      | error e =>
        rw [hrun] at P' hf2
        refine cps fun k_ => ?_
        obtain ⟨⟨tk3, rfl⟩, oh₂, on₂, n₂, rfl, hn₂⟩ := P'
        apply k_
        clear k_
        have hz := hpo e hrun
        k_steps
        all_goals first
          | (exfalso; lia)
          | exact hR.ret (hret (.ret (.int e _)) [(hr, oh₂), (nw, on₂)] _ _ _ (by assumption) (news_sub (by assumption) (two_mem (by k_mem) (by k_mem))) (show SPost w hr nw _ _ _ by rw [hf2]; exact ⟨⟨_, rfl⟩, oh₂, on₂, n₂, rfl, hn₂⟩))
      | ok x =>
        obtain ⟨l', n'⟩ := x
        rw [hrun] at P' hf2
        refine cps fun k_ => ?_
        obtain ⟨⟨tk3, rfl⟩, oh₂, on₂, rfl, hh₂, hn₂⟩ := P'
        apply k_
        clear k_
        have hll := hline _ _ _ _ _ hrun
        subst hll
        k_steps
        rename Fr _ _ _ _ => F9
        rename News _ _ _ _ => N9
        refine hR _ _ ⟨_, [(hr, oh₂), (nw, on₂)], _, _, rfl, F9, news_p3' N9, ?_, .mk oh₂ on₂ n' rfl rfl rfl hh₂ hn₂ hf2⟩
        intro p hp
        simp only [List.mem_cons, List.not_mem_nil, or_false] at hp
        rcases hp with rfl | rfl
        · exact fun e => hIr e.symm
        · exact fun e => hIn e.symm
    · intro m' led' h' tk' hJ F' N'
      refine cps fun k_ => ?_
      obtain ⟨oh₁, on₁, new₁, hm1, hm2, hm3, hh₁, hn₁, hf⟩ := hJ
      apply k_
      clear k_
      have hd : runs.drop (vals.filter isRef).toArray.size = [] := by rw [List.drop_eq_nil_iff, List.size_toArray, hk.length]; exact Nat.le_refl _
      rw [hd] at hf
      k_steps
      exact hret (.ret (.int 0 _)) _ _ _ _ F' (news_sub N' fun p hp => List.mem_append_right _ hp) (show SPost w hr nw _ _ _ by rw [hf]; exact ⟨⟨_, rfl⟩, _, _, rfl, hh₁, hn₁⟩)
end
section
local macro_rules | `(tactic| walk_at "binaryOp Add str str") => `(tactic| (k_here; k_dflt (refine add_key (by k_memK) (by k_memK) ?_; intro _ _)))
section
variable {w : World} {mean : ExcName → Option Value} {mg mb : Str → Option Value}
theorem Triple.le {G : Heap} {f : Addr} {vs : List Value} {n n' : Nat} {ch : Led} {Post : Value → Led → Prop} {Ex : Int → Prop} (h : n ≤ n') (t : Triple w mean mg mb G f vs n ch Post Ex) : Triple w mean mg mb G f vs n' ch Post Ex := by
  intro dp un gd frs base A₀ s Q E B X T hdp hun
  exact t B X T (by lia) (by lia)
theorem Triple.post {G : Heap} {f : Addr} {vs : List Value} {n : Nat} {ch : Led} {Post Post' : Value → Led → Prop} {Ex : Int → Prop} (h : ∀ r c, Post r c → Post' r c) (t : Triple w mean mg mb G f vs n ch Post Ex) : Triple w mean mg mb G f vs n ch Post' Ex := by
  intro dp un gd frs base A₀ s Q E B X T hdp hun h1 h2 h3 h4 h5
  exact t B X T hdp hun h1 h2 h3 (fun r ch' h' tk' a b c => h4 r ch' h' tk' a b (h _ _ c)) h5
theorem WalkC.le {isN : See → Value → Prop} {run : Int → Vis → Vis → Except Int (Int × Vis)} {n n' : Nat} (h : n ≤ n') (t : WalkC w mean mg mb isN run n) : WalkC w mean mg mb isN run n' := by
  intro G v hr sd nw o oh on ln vis new a1 a2 a3 a4 a5 a6 a7 a8 a9 a10
  exact Triple.le h (t a1 a2 a3 a4 a5 a6 a7 a8 a9 a10)
theorem WalkC.run {isN : See → Value → Prop} {run run' : Int → Vis → Vis → Except Int (Int × Vis)} {n : Nat} (h : ∀ a b c, run a b c = run' a b c) (t : WalkC w mean mg mb isN run n) : WalkC w mean mg mb isN run' n := by
  rw [show run' = run from funext fun a => funext fun b => funext fun c => (h a b c).symm]; exact t
inductive WErr (hr : Addr) (e : Int) (r : Value) (ch' : Led) : Prop
  | mk (h0 : ∃ tk, r = .int e tk) (oh : Obj) (h1 : ch' = [(hr, oh)]) : WErr hr e r ch'
inductive WOk (w : World) (hr : Addr) (l : Int) (r : Value) (ch' : Led) : Prop
  | mk (h0 : ∃ tk, r = .int 0 tk) (oh : Obj) (h1 : ch' = [(hr, oh)]) (h2 : HereIs w oh l) : WOk w hr l r ch'
def WPost (w : World) (hr : Addr) (res : Except Int Int) (r : Value) (ch' : Led) : Prop := match res with
  | .error e => WErr hr e r ch'
  | .ok l => WOk w hr l r ch'
def WithinC (w : World) (mean : ExcName → Option Value) (mg mb : Str → Option Value) (b : Blk) (n : Nat) : Prop :=
  ∀ {G : Heap} {v : Value} {hr sd : Addr} {o oh : Obj} {ln : Int} {vis : Vis}, BlkIs (seeH G) v b → G.get? sd = some o → VisIs w o vis → (sd == sysModules) = false → HereIs w oh ln → (∀ e, runB ln vis b = .error e → 1 ≤ e) → (hr == sysModules) = false →
    Triple w mean mg mb G 362 [v, .ref hr, .ref sd] n [(hr, oh)] (WPost w hr (runB ln vis b)) No
abbrev isT (t : Term) : See → Value → Prop := fun P v => TermIs P v t
abbrev isP (p : Place) : See → Value → Prop := fun P v => PlaceIs P v p
abbrev isS (s : Stm) : See → Value → Prop := fun P v => StmIs P v s
def oddP (x : Str) : Bool := oddNames.contains x || x == Str.ofString "::x"
theorem name_len : ∀ x ∈ allNames, 1 ≤ x.length ∧ x.length ≤ 10 := by decide +kernel
theorem odd_u : ∀ x ∈ allNames, (x == Str.ofString "_") = true → (x == Str.ofString "_") = oddP x := by decide +kernel
theorem odd_l : ∀ x ∈ allNames, (x == Str.ofString "_") = false → Txt.isalpha (Txt.item x 0) = true → (!Txt.isalpha (Txt.item x 0)) = oddP x := by decide +kernel
theorem odd_r : ∀ x ∈ allNames, (x == Str.ofString "_") = false → Txt.isalpha (Txt.item x 0) = false → (!(Txt.item x 0 == Str.ofString "_")) = oddP x := by decide +kernel
inductive OddQ (x : Str) (s : Shared) (hp : Heap) : Value → Shared → Prop
  | mk {b : Bool} {tk : Nat} (e : b = oddP x) : OddQ x s hp (.bool b) { s with heap := hp, toks := tk }
theorem odd_mono {M : Model} {A : Around} {t : Sem Value} {Q E : Value → Shared → Prop} {s : Shared} {hp : Heap} {tk₀ : Nat} {x : Str} (hq : ∀ tk, Q (.bool (oddP x)) { s with heap := hp, toks := tk }) (h : wpAny M A t (OddQ x s hp) E { s with heap := hp, toks := tk₀ }) : wpAny M A t Q E { s with heap := hp, toks := tk₀ } :=
  wpAny_mono h (fun z9 z9 y => by cases y with | mk e => exact e ▸ hq _) fun z9 z9 e => e
theorem colon_occ : ∀ x ∈ allNames, (!(Builtin.Str.occurrences x (Str.ofString "::") 0 x.length 1).isEmpty) = colonNames.contains x := by decide +kernel
theorem bad_c {x : Str} (hx : x ∈ allNames) {my : Bool} (e : (Builtin.Str.occurrences x (Str.ofString "::") 0 x.length 1).isEmpty = false) : badName my x = true := by
  unfold badName; rw [← colon_occ x hx, e]; rfl
theorem odd_of : ∀ x ∈ allNames, (Builtin.Str.occurrences x (Str.ofString "::") 0 x.length 1).isEmpty = true → oddP x = oddNames.contains x := by decide +kernel
theorem bad_n {x : Str} (hx : x ∈ allNames) {my : Bool} (e : (Builtin.Str.occurrences x (Str.ofString "::") 0 x.length 1).isEmpty = true) : badName my x = (my && oddP x) := by
  unfold badName; rw [← colon_occ x hx, odd_of x hx e, e]; rfl
section
local macro_rules | `(tactic| walk_at "eval BoolOp") => `(tactic| (goal_lacks OddQ; (refine Halt.out ?_)))
local macro_rules | `(tactic| walk_at "setItem ref str") => `(tactic| (refine Halt.out ?_))
theorem walk_my {sg x : Str} (hsg : sg ∈ sigs) (hx : x ∈ allNames) {G : Heap} {a hr sd nw : Addr} {oh on : Obj} {ln : Int} {new : Vis} {t1 t2 t3 : Tok} (ha : G.get? a = some (tupO [.str "my" t1, .str sg t2, .str x t3]))
    (hh : HereIs w oh ln) (hn : VisIs w on new) (hne : @Ne Nat hr nw) (hl1 : (hr == sysModules) = false) (hl2 : (nw == sysModules) = false) :
    Triple w mean mg mb G 348 [.ref a, .ref hr, .ref sd, .ref nw] 1 [(hr, oh), (nw, on)] (SPost w hr nw (if badName true x then .error ln else .ok (ln, (keyOf sg x, true) :: new))) No := by
  have hT : IsTup G a (List.toArray [.str "my" t1, .str sg t2, .str x t3]) := tup_of ha
  have hh0 := hh
  obtain ⟨tkh, hob⟩ := hh
  show Triple _ _ _ _ _ _ _ _ _ _ _
  refine' enter (binds := [("node", .ref a), ("here", .ref hr), ("seen", .ref sd), ("new", .ref nw)]) ?k6 ?k7 ?k9 ?kB ?_ ?kn ?c5 ?c2 ?c3 ?c4
  case k6 => k_is
  case k7 => k_is
  case k9 => exact rfl
  case kB => exact locs rfl
  case kn => first | lia | (simp only [htP, htT, htS, htB]; lia)
  case c5 => decide
  case c2 => exact rfl
  case c3 => exact rfl
  case c4 => exact rfl
  k_whole
  intro dp un gd frs base A₀ s L h₁ tk₁ Qb Eb B X T hdp hun F N hlt hret hexc hown
  (try dsimp only at F)
  k_steps
  refine Halt.mk ?_
  refine set_vis (my := true) (by assumption) (by assumption) (by assumption) (by k_updF) (key_mem hsg hx) ?_
  intro h' o' F' N' hv'
  (try k_sweep)
  k_steps
  refine Halt.mk ?_
  refine odd_mono (x := x) (fun tk9 => ?_) ?_
  · k_steps
    all_goals (try dsimp only [kRe, kS])
    · rename_i e o; exact hret (.ret (.int ln _)) _ _ _ _ (by assumption) (by assumption) (show SPost w hr nw _ _ _ by rw [if_pos (by rw [bad_n hx e, o]; rfl)]; exact ⟨⟨_, rfl⟩, oh, _, _, rfl, by assumption⟩)
    · rename_i e o; exact hret (.ret (.int 0 _)) _ _ _ _ (by assumption) (by assumption) (show SPost w hr nw _ _ _ by rw [if_neg (by rw [bad_n hx e, o]; exact Bool.false_ne_true)]; exact ⟨⟨_, rfl⟩, oh, _, rfl, hh0, by assumption⟩)
    · rename_i e; exact hret (.ret (.int ln _)) _ _ _ _ (by assumption) (by assumption) (show SPost w hr nw _ _ _ by rw [if_pos (bad_c hx e)]; exact ⟨⟨_, rfl⟩, oh, _, _, rfl, by assumption⟩)
  · have hxl : 1 ≤ x.length ∧ x.length ≤ 10 := name_len x hx
    k_steps
    · exact .mk (odd_u x hx (by assumption))
    · exact .mk (odd_l x hx (by assumption) (by assumption))
    · exact .mk (odd_r x hx (by assumption) (by assumption))
theorem walk_our {sg x : Str} (hsg : sg ∈ sigs) (hx : x ∈ allNames) {G : Heap} {a hr sd nw : Addr} {oh on : Obj} {ln : Int} {new : Vis} {t1 t2 t3 : Tok} (ha : G.get? a = some (tupO [.str "our" t1, .str sg t2, .str x t3]))
    (hh : HereIs w oh ln) (hn : VisIs w on new) (hne : @Ne Nat hr nw) (hl1 : (hr == sysModules) = false) (hl2 : (nw == sysModules) = false) :
    Triple w mean mg mb G 348 [.ref a, .ref hr, .ref sd, .ref nw] 1 [(hr, oh), (nw, on)] (SPost w hr nw (if badName false x then .error ln else .ok (ln, (keyOf sg x, false) :: new))) No := by
  have hT : IsTup G a (List.toArray [.str "our" t1, .str sg t2, .str x t3]) := tup_of ha
  have hh0 := hh
  obtain ⟨tkh, hob⟩ := hh
  show Triple _ _ _ _ _ _ _ _ _ _ _
  refine' enter (binds := [("node", .ref a), ("here", .ref hr), ("seen", .ref sd), ("new", .ref nw)]) ?k6 ?k7 ?k9 ?kB ?_ ?kn ?c5 ?c2 ?c3 ?c4
  case k6 => k_is
  case k7 => k_is
  case k9 => exact rfl
  case kB => exact locs rfl
  case kn => first | lia | (simp only [htP, htT, htS, htB]; lia)
  case c5 => decide
  case c2 => exact rfl
  case c3 => exact rfl
  case c4 => exact rfl
  k_whole
  intro dp un gd frs base A₀ s L h₁ tk₁ Qb Eb B X T hdp hun F N hlt hret hexc hown
  (try dsimp only at F)
  k_steps
  refine Halt.mk ?_
  refine set_vis (my := false) (by assumption) (by assumption) (by assumption) (by k_updF) (key_mem hsg hx) ?_
  intro h' o' F' N' hv'
  (try k_sweep)
  k_steps
  refine Halt.mk ?_
  refine odd_mono (x := x) (fun tk9 => ?_) ?_
  · k_steps
    all_goals (try dsimp only [kRe, kS])
    · rename_i e; exact hret (.ret (.int 0 _)) _ _ _ _ (by assumption) (by assumption) (show SPost w hr nw _ _ _ by rw [if_neg (by rw [bad_n hx e]; exact Bool.false_ne_true)]; exact ⟨⟨_, rfl⟩, oh, _, rfl, hh0, by assumption⟩)
    · rename_i e; exact hret (.ret (.int ln _)) _ _ _ _ (by assumption) (by assumption) (show SPost w hr nw _ _ _ by rw [if_pos (bad_c hx e)]; exact ⟨⟨_, rfl⟩, oh, _, _, rfl, by assumption⟩)
  · have hxl : 1 ≤ x.length ∧ x.length ≤ 10 := name_len x hx
    k_steps
    · exact .mk (odd_u x hx (by assumption))
    · exact .mk (odd_l x hx (by assumption) (by assumption))
    · exact .mk (odd_r x hx (by assumption) (by assumption))
end
end
end
theorem Fr_up {G h h' : Heap} {L : Addr} {m : Str → Option Value} (F : Fr G L h m) (up : ∀ b o, h.get? b = some o → h'.get? b = some o) : Fr G L h' m :=
  let ⟨oL, es, ep, hL, r⟩ := F.ns
  ⟨⟨oL, es, ep, up _ _ hL, r⟩, fun b o e => up b o (F.keep b o e), F.above⟩
theorem News_up {G h h' : Heap} {L : Addr} {led : Led} (N : News G L h led) (up : ∀ b o, h.get? b = some o → h'.get? b = some o) : News G L h' led := fun p hp => ⟨up _ _ (N p hp).1, (N p hp).2⟩
theorem News_new {G h h' : Heap} {L D : Addr} {m : Str → Option Value} {led : Led} {o : Obj} (F : Fr G L h m) (N : News G L h led) (up : ∀ b o, h.get? b = some o → h'.get? b = some o) (hD : h'.get? D = some o) (hn : ∀ b o, h.get? b = some o → @Ne Nat b D) : News G L h' ((D, o) :: led) := fun p hp => by
  rcases List.mem_cons.mp hp with rfl | hp
  · refine ⟨hD, ?_, ?_⟩
    · refine cps fun k_ => ?_
      obtain ⟨oL, es, ep, hL, r⟩ := F.ns
      apply k_
      clear k_
      exact (hn _ _ hL).symm
    · cases q : G.get? D with
      | none => rfl
      | some o' => exact absurd rfl (hn _ _ (F.keep _ _ q))
  · exact ⟨up _ _ (N p hp).1, (N p hp).2⟩
section
variable {w : World} {A : Around} {E : Value → Shared → Prop} {s : Shared} {G : Heap} {L d : Addr} {m : Str → Option Value} {led : Led} {o : Obj} {vis : Vis}
theorem PairsAt.up {h h' : Heap} {items : Array Value} {more : List (Str × Value)} (p : PairsAt (strKind PG w) h items more) (up : ∀ b o, h.get? b = some o → h'.get? b = some o) : PairsAt (strKind PG w) h' items more :=
  ⟨p.1, fun j kv hj => let ⟨t, key, u, a, b, c⟩ := p.2 j kv hj; ⟨t, key, u, a, up _ _ b, c⟩⟩
theorem PairsAt.append {h : Heap} {a b : Array Value} {ka kb : List (Str × Value)} (p : PairsAt (strKind PG w) h a ka) (q : PairsAt (strKind PG w) h b kb) : PairsAt (strKind PG w) h (a ++ b) (ka ++ kb) := by
  refine ⟨by rw [Array.size_append, List.length_append, p.1, q.1], fun j kv hj => ?_⟩
  rw [List.getElem?_append] at hj
  split at hj
  · next hl =>
    refine cps fun k_ => ?_
    obtain ⟨t, key, u, x, y, z⟩ := p.2 j kv hj
    apply k_
    clear k_
    exact ⟨t, key, u, by rw [Array.getElem?_append, if_pos (by rw [p.1]; exact hl)]; exact x, y, z⟩
  · next hl =>
    refine cps fun k_ => ?_
    obtain ⟨t, key, u, x, y, z⟩ := q.2 _ kv hj
    apply k_
    clear k_
    exact ⟨t, key, u, by rw [Array.getElem?_append, if_neg (by rw [p.1]; exact hl), p.1]; exact x, y, z⟩
theorem getm_items {pl : Sem Bool} {Q : Value × List Value → Shared → Prop} (ho : s.heap.get? d = some o) (hv : VisIs w o vis) (h : Q (.builtin "dict.items", [.ref d]) s) : wpAny (model PG w) A (getMethod (.ref d) "items" pl) Q E s := by
  refine cps fun k_ => ?_
  obtain ⟨kvs, hd, hr⟩ := hv
  apply k_
  clear k_
  have hm : s.heap.DictOf (strKind PG w) d kvs := Heap.dictOf_iff.mpr ⟨o, ho, hd⟩
  exact getMethod_builtin hm.typeIs PySem.F.plainAttrs_dict PySem.F.slot_dict_items PySem.F.type_dict_items hm.mapOf.noDict h
theorem items_call {Q : Value → Shared → Prop} (F : Fr G L s.heap m) (N : News G L s.heap led) (ho : s.heap.get? d = some o) (hlo : (d == sysModules) = false) (hv : VisIs w o vis)
    (h : ∀ h' v, h'.IsItemsView v d → Fr G L h' m → News G L h' led → (∀ b ob, s.heap.get? b = some ob → h'.get? b = some ob) → Q (.ref v) { s with heap := h' }) : wpAny (model PG w) A (call (.builtin "dict.items") [.ref d]) Q E s := by
  refine cps fun k_ => ?_
  obtain ⟨kvs, hd, hr⟩ := hv
  apply k_
  clear k_
  have hm : s.heap.DictOf (strKind PG w) d kvs := Heap.dictOf_iff.mpr ⟨o, ho, hd⟩
  have up : ∀ b ob, s.heap.get? b = some ob → (s.heap.push { cls := .type "dict_items", data := .fields #[.ref d] }).get? b = some ob := fun b ob e => Heap.get?_push_of_some _ e
  exact call_meetsIn PySem.F.slot_dict_items hm.typeIs PySem.F.entry_dict_items (PySem.F.args_dict_items_1 _) (meets_dict_items (strKind PG w) d hlo) ⟨⟨kvs, hm⟩, h _ _ ⟨_, Heap.get?_push_size _ rfl, rfl, rfl⟩ (Fr_up F up) (News_up N up) up⟩
theorem list_call {v : Addr} {Q : Value → Shared → Prop} (hh : A.handled = none) (F : Fr G L s.heap m) (N : News G L s.heap led) (hv : s.heap.IsItemsView v d) (ho : s.heap.get? d = some o) (hd : VisIs w o vis)
    (h : ∀ h' l acc c kvs, h'.get? l = some { cls := .type "list", data := .seq acc c } → PairsAt (strKind PG w) h' acc kvs → RelV kvs vis → (kvs.map (·.1)).Nodup → Fr G L h' m → News G L h' led → (∀ b ob, s.heap.get? b = some ob → h'.get? b = some ob) → Q (.ref l) { s with heap := h' }) :
    wpAny (model PG w) A (call (.type "list") [.ref v]) Q E s := by
  refine cps fun k_ => ?_
  obtain ⟨kvs, hd, hr, hl⟩ := hd.len
  apply k_
  clear k_
  have hm : s.heap.DictOf (strKind PG w) d kvs := Heap.dictOf_iff.mpr ⟨o, ho, hd⟩
  exact call_list_items hh hv hm (by have := line39; lia) fun h' acc c a b up => h h' _ acc c kvs a b hr (isDictOf_nodup hd) (Fr_up F up) (News_up N up) up
theorem add_call {l b : Addr} {i1 i2 : Array Value} {c1 c2 : Nat} {k1 k2 : List (Str × Value)} {Q : Value → Shared → Prop} (F : Fr G L s.heap m) (N : News G L s.heap led)
    (hl : s.heap.get? l = some { cls := .type "list", data := .seq i1 c1 }) (hb : s.heap.get? b = some { cls := .type "list", data := .seq i2 c2 }) (p1 : PairsAt (strKind PG w) s.heap i1 k1) (p2 : PairsAt (strKind PG w) s.heap i2 k2) (h1 : k1.length ≤ 39) (h2 : k2.length ≤ 39)
    (h : ∀ h' x c, h'.get? x = some { cls := .type "list", data := .seq (i1 ++ i2) c } → PairsAt (strKind PG w) h' (i1 ++ i2) (k1 ++ k2) → Fr G L h' m → News G L h' led → Q (.ref x) { s with heap := h' }) :
    wpAny (model PG w) A (binaryOp .Add (.ref l) (.ref b)) Q E s := by
  have up : ∀ b ob, s.heap.get? b = some ob → (s.heap.push { cls := .type "list", data := .seq (i1 ++ i2) }).get? b = some ob := fun b ob e => Heap.get?_push_of_some _ e
  refine PySem.P.add_list (n := c1) (n2 := c2) hl hb (h _ _ _ (Heap.get?_push_size _ rfl) ((p1.append p2).up up) (Fr_up F up) (News_up N up)) ?_
  rw [p1.1, p2.1]; have := line39; lia
theorem dict_call {l : Addr} {items : Array Value} {c : Nat} {k1 k2 : List (Str × Value)} {v1 v2 : Vis} {Q : Value → Shared → Prop} (hh : A.handled = none) (hG : G.NoLimit) (F : Fr G L s.heap m) (N : News G L s.heap led) (hl : s.heap.get? l = some { cls := .type "list", data := .seq items c }) (p : PairsAt (strKind PG w) s.heap items (k1 ++ k2))
    (r1 : RelV k1 v1) (r2 : RelV k2 v2) (n1 : (k1.map (·.1)).Nodup) (n2 : (k2.map (·.1)).Nodup)
    (h : ∀ D o h' tk, Fr G L h' m → News G L h' ((D, o) :: led) → (∀ p ∈ led, @LT.lt Nat _ p.1 D) → (D == sysModules) = false → VisIs w o (v2 ++ v1) → Q (.ref D) { s with heap := h', toks := tk }) :
    wpAny (model PG w) A (call (.type "dict") [.ref l]) Q E s := by
  refine call_dict_pairs hh hl p (by have := line39; have := r1.len n1; have := r2.len n2; rw [List.length_append]; lia) fun h' tk hd up => ?_
  refine cps fun k_ => ?_
  obtain ⟨o, ho, hd'⟩ := Heap.dictOf_iff.mp hd
  apply k_
  clear k_
  rw [merged_two _ _ n1] at hd'
  exact h _ o h' tk (Fr_up F up) (News_new F N up ho fun b o e => Nat.ne_of_lt (Heap.lt_size e)) (fun p hp => Heap.lt_size (N p hp).1) (F.notModules (modules_low hG)) ⟨_, hd', r1.merged r2 n2⟩
theorem copy_call {Q : Value → Shared → Prop} (hG : G.NoLimit) (F : Fr G L s.heap m) (N : News G L s.heap led) (ho : s.heap.get? d = some o) (hlo : (d == sysModules) = false) (hv : VisIs w o vis)
    (h : ∀ D o h', Fr G L h' m → News G L h' ((D, o) :: led) → (∀ p ∈ led, @LT.lt Nat _ p.1 D) → (D == sysModules) = false → VisIs w o vis → Q (.ref D) { s with heap := h' }) :
    wpAny (model PG w) A (call (.type "dict") [.ref d]) Q E s := by
  refine cps fun k_ => ?_
  obtain ⟨kvs, hd, hr, hl⟩ := hv.len
  apply k_
  clear k_
  have hm : s.heap.DictOf (strKind PG w) d kvs := Heap.dictOf_iff.mpr ⟨o, ho, hd⟩
  refine call_dict_copy hm hlo (by have := line39; lia) fun h' hd up => ?_
  refine cps fun k_ => ?_
  obtain ⟨o', ho', hd'⟩ := Heap.dictOf_iff.mp hd
  apply k_
  clear k_
  exact h _ o' h' (Fr_up F up) (News_new F N up ho' fun b o e => Nat.ne_of_lt (Heap.lt_size e)) (fun p hp => Heap.lt_size (N p hp).1) (F.notModules (modules_low hG)) ⟨_, hd', hr⟩
end
section
variable {w : World} {mean : ExcName → Option Value} {mg mb : Str → Option Value}
theorem apart_nilr {c : Led} : Apart c [] := fun z9 z9 z9 h => nomatch h
theorem walk_list {G : Heap} {a l hr sd nw : Addr} {o oh on : Obj} {ln : Int} {vis new : Vis} {t : Tok} {k : Nat} {vals : List Value} {runs : List Run} {n : Nat} (hlen : vals.length ≤ 3) (hk : Paired (Kid w mean mg mb G n) vals runs)
    (ha : G.get? a = some (tupO [.str "list" t, .ref l])) (hl : G.get? l = some (lstO vals k)) (ho : G.get? sd = some o) (hv : VisIs w o vis) (hlo : (sd == sysModules) = false) (hh : HereIs w oh ln) (hpos : ∀ e, foldR runs ln vis new = .error e → 1 ≤ e) (hn : VisIs w on new) (hne : @Ne Nat hr nw) (hl1 : (hr == sysModules) = false) (hl2 : (nw == sysModules) = false) :
    Triple w mean mg mb G 348 [.ref a, .ref hr, .ref sd, .ref nw] (n + 1) [(hr, oh), (nw, on)] (SPost w hr nw (foldR runs ln vis new)) No := by
  have hT : IsTup G a (List.toArray [.str "list" t, .ref l]) := tup_of ha
  show Triple _ _ _ _ _ _ _ _ _ _ _
  refine' enter (binds := [("node", .ref a), ("here", .ref hr), ("seen", .ref sd), ("new", .ref nw)]) ?k6 ?k7 ?k9 ?kB ?_ ?kn ?c5 ?c2 ?c3 ?c4
  case k6 => k_is
  case k7 => k_is
  case k9 => exact rfl
  case kB => exact locs rfl
  case kn => first | lia | (simp only [htP, htT, htS, htB]; lia)
  case c5 => decide
  case c2 => exact rfl
  case c3 => exact rfl
  case c4 => exact rfl
  k_whole
  intro dp un gd frs base A₀ s L h₁ tk₁ Qb Eb B X T hdp hun F N hlt hret hexc hown
  (try dsimp only at F)
  k_steps
  (try dsimp only [kRe, kS])
  rename News _ _ _ _ => N9
  rename Fr _ _ _ _ => F8
  have NL : News G L _ ([] ++ [(hr, oh), (nw, on)]) := N9
  have AL : Apart [(hr, oh), (nw, on)] [] := apart_nilr
  have hIL : Heap.IsList _ l (List.toArray vals) := stays_list F8.keep ⟨_, hl, rfl, _, rfl⟩
  clear N9
  refine Halt.mk ?_
  refine forK (G := G) hown ?_
  k_steps
  (try dsimp only [kRe, kS])
  rename Fr _ _ _ _ => F9
  refine for_at_list (items := List.toArray (vals)) (own := ([] : Led)) (led := [(hr, oh), (nw, on)]) (J := PartsJ w hr sd nw runs ln vis new)
    F9 NL hIL (.inl ⟨_, hl⟩) (.mk oh on new rfl rfl rfl hh hn rfl) ?_ ?_
  · intro I h₂ tk₂ i v h tk m₁ led₁ oI hi hP hJ F₁ N₁ hneI R hR
    refine cps fun k_ => ?_
    obtain ⟨oh₁, on₁, new₁, hm1, hm2, hm3, hh₁, hn₁, hf⟩ := hJ
    apply k_
    clear k_
    have hv9 : (vals)[i]? = some v := by simpa using hP
    refine cps fun k_ => ?_
    obtain ⟨run, hri, isN, mono, his, hW, hline⟩ := paired_get hk i hv9
    apply k_
    clear k_
    have hf2 := foldR_drop hri ln vis new₁
    rw [← hf] at hf2
    have hpo : ∀ e, run ln vis new₁ = .error e → 1 ≤ e := fun e he => hpos e (by rw [hf2, he])
    refine wpAny_assign_Name (wpAny_storeName_local rfl F₁.ns (fun h₃ hn₃ hs₃ => ?_) rfl)
    have F₃ := F₁.set hn₃ hs₃
    replace N₁ := N₁.set hs₃
    (try dsimp only at F₃ N₁)
    replace F₃ := fr_name (fr_name (fr_name F₃ (x := Str.ofString "here") (v := .ref hr) (by rw [if_neg (by decide)]; exact hm1)) (x := Str.ofString "seen") (v := .ref sd) (by rw [if_neg (by decide), if_neg (by decide)]; exact hm2)) (x := Str.ofString "new") (v := .ref nw) (by rw [if_neg (by decide), if_neg (by decide), if_neg (by decide)]; exact hm3)
    have hIr : @Ne Nat I hr := (hneI (hr, oh₁) (by simp)).symm
    have hIn : @Ne Nat I nw := (hneI (nw, on₁) (by simp)).symm
    have AI := apart_two (oI := oI) (o1' := oh₁) (o2' := on₁) AL hIr hIn
    clear F₁ hn₃ hs₃ F9 NL
    k_steps
    refine Halt.mk ?_
    refine useN (ch := [(hr, oh₁), (nw, on₁)]) (by assumption) F₃ (news_p3 N₁) (by assumption) (by assumption) AI (by exact rfl) (by exact rfl) hdp hun (by first | exact Nat.lt_succ_self _ | lia) (fun G₂ st₂ z9 => hW (mono _ _ _ (fun a o h => st₂ _ _ h) his) (st₂ _ _ ho) hv hlo hh₁ hpo hn₁ hne hl1 hl2) ?_
    intro r' ch' h' tk' F' N' A' P'
    cases hrun : run ln vis new₁ with
    | error e =>
      rw [hrun] at P' hf2
      refine cps fun k_ => ?_
      obtain ⟨⟨tk3, rfl⟩, oh₂, on₂, n₂, rfl, hn₂⟩ := P'
      apply k_
      clear k_
      have hz := hpo e hrun
      k_steps
      all_goals first
        | (exfalso; lia)
        | exact hR.ret (hret (.ret (.int e _)) [(hr, oh₂), (nw, on₂)] _ _ _ (by assumption) (news_sub (by assumption) (two_mem (by k_mem) (by k_mem))) (show SPost w hr nw _ _ _ by rw [hf2]; exact ⟨⟨_, rfl⟩, oh₂, on₂, n₂, rfl, hn₂⟩))
    | ok x =>
      obtain ⟨l', n'⟩ := x
      rw [hrun] at P' hf2
      refine cps fun k_ => ?_
      obtain ⟨⟨tk3, rfl⟩, oh₂, on₂, rfl, hh₂, hn₂⟩ := P'
      apply k_
      clear k_
      have hll := hline _ _ _ _ _ hrun
      subst hll
      k_steps
      rename Fr _ _ _ _ => F9
      rename News _ _ _ _ => N9
      refine hR _ _ ⟨_, [(hr, oh₂), (nw, on₂)], _, _, rfl, F9, news_p3' N9, ?_, .mk oh₂ on₂ n' rfl rfl rfl hh₂ hn₂ hf2⟩
      intro p hp
      simp only [List.mem_cons, List.not_mem_nil, or_false] at hp
      rcases hp with rfl | rfl
      · exact fun e => hIr e.symm
      · exact fun e => hIn e.symm
  · intro m' led' h' tk' hJ F' N'
    refine cps fun k_ => ?_
    obtain ⟨oh₁, on₁, new₁, hm1, hm2, hm3, hh₁, hn₁, hf⟩ := hJ
    apply k_
    clear k_
    have hd : runs.drop (vals).toArray.size = [] := by rw [List.drop_eq_nil_iff, List.size_toArray, hk.length]; exact Nat.le_refl _
    rw [hd] at hf
    k_steps
    exact hret (.ret (.int 0 _)) _ _ _ _ F' (news_sub N' fun p hp => List.mem_append_right _ hp) (show SPost w hr nw _ _ _ by rw [hf]; exact ⟨⟨_, rfl⟩, _, _, rfl, hh₁, hn₁⟩)
end
local macro_rules | `(tactic| walk_at "exec For Name Call cons nil") => `(tactic| (refine Halt.out ?_))
section
variable {w : World} {mean : ExcName → Option Value} {mg mb : Str → Option Value}
theorem kidT {G : Heap} {n : Nat} {v : Value} {t : Term} (h : WalkC w mean mg mb (isT t) (runT' t) n) (ht : TermIs (seeH G) v t) : Kid w mean mg mb G n v (runT' t) :=
  ⟨isT t, fun z9 z9 z9 hm hx => TermIs.mono hm t hx, ht, h, fun ln vis new l n' he => by unfold runT' at he; split at he <;> cases he; rfl⟩
theorem kidP {G : Heap} {n : Nat} {v : Value} {p : Place} (h : WalkC w mean mg mb (isP p) (runP' p) n) (ht : PlaceIs (seeH G) v p) : Kid w mean mg mb G n v (runP' p) :=
  ⟨isP p, fun z9 z9 z9 hm hx => PlaceIs.mono hm p hx, ht, h, fun ln vis new l n' he => by unfold runP' at he; cases he; rfl⟩
theorem walkP_name {sg x : Str} : WalkC w mean mg mb (isP (.name sg x)) (runP' (.name sg x)) 1 := by
  intro G v hr sd nw o oh on ln vis new hp ho hv hlo hh hpos hn hne hl1 hl2
  obtain ⟨a, t1, t2, t3, rfl, hsg, hx, ha⟩ := hp
  exact walk_parts (vals := [.str sg t2, .str x t3]) (runs := []) (by simp) (by
    intro v hv; simp only [List.mem_cons, List.not_mem_nil, or_false] at hv
    rcases hv with rfl | rfl <;> exact .inl ⟨_, _, rfl⟩) .nil ha ho hv hlo hh hpos hn hne hl1 hl2 (by decide) (by decide) (by decide) (by decide) (by decide) (by decide) (by decide) (by decide) (by decide)
theorem walkT_name {x : Str} : WalkC w mean mg mb (isT (.name x)) (runT' (.name x)) 1 := by
  intro G v hr sd nw o oh on ln vis new hp ho hv hlo hh hpos hn hne hl1 hl2
  obtain ⟨a, t1, t2, t3, rfl, hx, ha⟩ := hp
  exact walk_parts (vals := [.str "$" t2, .str x t3]) (runs := []) (by simp) (by
    intro v hv; simp only [List.mem_cons, List.not_mem_nil, or_false] at hv
    rcases hv with rfl | rfl <;> exact .inl ⟨_, _, rfl⟩) .nil ha ho hv hlo hh hpos hn hne hl1 hl2 (by decide) (by decide) (by decide) (by decide) (by decide) (by decide) (by decide) (by decide) (by decide)
theorem walkT_num : WalkC w mean mg mb (isT .num) (runT' .num) 1 := by
  intro G v hr sd nw o oh on ln vis new hp ho hv hlo hh hpos hn hne hl1 hl2
  obtain ⟨a, t1, t2, rfl, ha⟩ := hp
  exact walk_parts (vals := [.int 1 t2]) (runs := []) (by simp) (by
    intro v hv; rw [List.mem_singleton.mp hv]; exact .inr (.inl ⟨_, _, rfl⟩)) .nil ha ho hv hlo hh hpos hn hne hl1 hl2 (by decide) (by decide) (by decide) (by decide) (by decide) (by decide) (by decide) (by decide) (by decide)
theorem PlaceIs.plainly {G : Heap} : ∀ (p : Place) {v : Value}, PlaceIs (seeH G) v p → isRef v = true ∧ Plainly G v
  | .name _ _, _, x => let ⟨a, t1, t2, t3, e, i, j, k⟩ := x; by subst e; exact ⟨rfl, .inr (.inr ⟨_, _, rfl, k⟩)⟩
  | .elem _, _, x => let ⟨a, t, a2, t1, t2, t3, a3, t4, t5, e, i, j, k, l⟩ := x; by subst e; exact ⟨rfl, .inr (.inr ⟨_, _, rfl, j⟩)⟩
  | .told _ _, _, x => let ⟨a, t1, t2, t3, e, i, j⟩ := x; by subst e; exact ⟨rfl, .inr (.inr ⟨_, _, rfl, j⟩)⟩
  | .one p, _, x => let ⟨a, t, l, n, v1, e, i, j, k⟩ := x; by subst e; exact ⟨rfl, .inr (.inr ⟨_, _, rfl, i⟩)⟩
  | .two p q, _, x => let ⟨a, t, l, n, v1, v2, e, i, j, k, k'⟩ := x; by subst e; exact ⟨rfl, .inr (.inr ⟨_, _, rfl, i⟩)⟩
theorem TermIs.plainly {G : Heap} : ∀ (p : Term) {v : Value}, TermIs (seeH G) v p → isRef v = true ∧ Plainly G v
  | .told _ _ _, _, x => let ⟨a, t1, t2, t3, e, i, j, k⟩ := x; by subst e; exact ⟨rfl, .inr (.inr ⟨_, _, rfl, k⟩)⟩
  | .loc p, _, x => let ⟨a, t, v1, e, i, j⟩ := x; by subst e; exact ⟨rfl, .inr (.inr ⟨_, _, rfl, i⟩)⟩
  | .name _, _, x => let ⟨a, t1, t2, t3, e, i, j⟩ := x; by subst e; exact ⟨rfl, .inr (.inr ⟨_, _, rfl, j⟩)⟩
  | .num, _, x => let ⟨a, t1, t2, e, i⟩ := x; by subst e; exact ⟨rfl, .inr (.inr ⟨_, _, rfl, i⟩)⟩
  | .assign p q, _, x => let ⟨a, t, v1, v2, e, i, j, k⟩ := x; by subst e; exact ⟨rfl, .inr (.inr ⟨_, _, rfl, i⟩)⟩
  | .anon b, _, x => let ⟨a, t, a2, t1, t2, v1, t3, l, n, e, i, j, k, m⟩ := x; by subst e; exact ⟨rfl, .inr (.inr ⟨_, _, rfl, i⟩)⟩
  | .list p q, _, x => let ⟨a, t, l, n, v1, v2, e, i, j, k, m⟩ := x; by subst e; exact ⟨rfl, .inr (.inr ⟨_, _, rfl, i⟩)⟩
theorem walkP_elem {x : Str} : WalkC w mean mg mb (isP (.elem x)) (runP' (.elem x)) 2 := by
  intro G v hr sd nw o oh on ln vis new hp ho hv hlo hh hpos hn hne hl1 hl2
  obtain ⟨a, t, a2, t1, t2, t3, a3, t4, t5, rfl, hx, ha, ha2, ha3⟩ := hp
  have k1 := kidP (G := G) (walkP_name (w := w) (mean := mean) (mg := mg) (mb := mb) (sg := "@") (x := x)) (v := .ref a2) ⟨a2, t1, t2, t3, rfl, by decide, hx, ha2⟩
  have k2 := kidT (G := G) (walkT_num (w := w) (mean := mean) (mg := mg) (mb := mb)) (v := .ref a3) ⟨a3, t4, t5, rfl, ha3⟩
  have e : runP' (.elem x) ln vis new = foldR [runP' (.name "@" x), runT' .num] ln vis new := by simp only [foldR, runP', runP, runT', runT]
  rw [e] at hpos ⊢
  have hk : Paired (Kid w mean mg mb G 1) (List.filter isRef [.ref a2, .ref a3]) [runP' (.name "@" x), runT' .num] := .cons k1 (.cons k2 .nil)
  have hpl : ∀ v ∈ [Value.ref a2, Value.ref a3], Plainly G v := by
    intro v hv; simp only [List.mem_cons, List.not_mem_nil, or_false] at hv
    rcases hv with rfl | rfl
    · exact .inr (.inr ⟨_, _, rfl, ha2⟩)
    · exact .inr (.inr ⟨_, _, rfl, ha3⟩)
  exact @walk_parts _ _ _ _ _ _ _ _ _ _ _ _ _ _ _ _ _ _ _ _ (by simp) hpl hk ha ho hv hlo hh hpos hn hne hl1 hl2 (by decide) (by decide) (by decide) (by decide) (by decide) (by decide) (by decide) (by decide) (by decide)
theorem plain_fine : ∀ my : Bool, ∀ x ∈ plainNames, badName my x = false := by decide +kernel
theorem walk_told {my : Bool} {sg x : Str} (hsg : sg ∈ sigs) (hx : x ∈ allNames) {G : Heap} {a hr sd nw : Addr} {oh on : Obj} {ln : Int} {new : Vis} {t1 t2 t3 : Tok} (ha : G.get? a = some (tupO [.str (myWord my) t1, .str sg t2, .str x t3]))
    (hh : HereIs w oh ln) (hn : VisIs w on new) (hne : @Ne Nat hr nw) (hl1 : (hr == sysModules) = false) (hl2 : (nw == sysModules) = false) :
    Triple w mean mg mb G 348 [.ref a, .ref hr, .ref sd, .ref nw] 1 [(hr, oh), (nw, on)] (SPost w hr nw (if badName my x then .error ln else .ok (ln, (keyOf sg x, my) :: new))) No := by
  cases my
  · exact walk_our hsg hx ha hh hn hne hl1 hl2
  · exact walk_my hsg hx ha hh hn hne hl1 hl2
theorem walkP_told {my : Bool} {x : Str} : WalkC w mean mg mb (isP (.told my x)) (runP' (.told my x)) 1 := by
  intro G v hr sd nw o oh on ln vis new hp ho hv hlo hh hpos hn hne hl1 hl2
  obtain ⟨a, t1, t2, t3, rfl, hx, ha⟩ := hp
  have q : Triple w mean mg mb G 348 [.ref a, .ref hr, .ref sd, .ref nw] 1 [(hr, oh), (nw, on)] (SPost w hr nw (if badName my x then .error ln else .ok (ln, (keyOf "$" x, my) :: new))) No := walk_told (sg := "$") (by decide) (plain_all hx) ha hh hn hne hl1 hl2
  rw [plain_fine my x hx] at q
  exact @q
theorem walkT_told {my : Bool} {sg x : Str} : WalkC w mean mg mb (isT (.told my sg x)) (runT' (.told my sg x)) 1 := by
  intro G v hr sd nw o oh on ln vis new hp ho hv hlo hh hpos hn hne hl1 hl2
  obtain ⟨a, t1, t2, t3, rfl, hsg, hx, ha⟩ := hp
  have q : Triple w mean mg mb G 348 [.ref a, .ref hr, .ref sd, .ref nw] 1 [(hr, oh), (nw, on)] (SPost w hr nw (if badName my x then .error ln else .ok (ln, (keyOf sg x, my) :: new))) No := walk_told hsg hx ha hh hn hne hl1 hl2
  have e : runT' (.told my sg x) ln vis new = if badName my x then .error ln else .ok (ln, (keyOf sg x, my) :: new) := by
    simp only [runT', runT]
    cases badName my x <;> rfl
  rw [e]; exact @q
theorem lawP : ∀ p : Place, WalkC w mean mg mb (isP p) (runP' p) (htP p)
  | .name sg x => walkP_name.le (by simp only [htP]; lia)
  | .elem x => walkP_elem.le (by simp only [htP]; lia)
  | .told my x => walkP_told.le (by simp only [htP]; lia)
  | .one p => by
    intro hp ho hv hlo hh hpos hn hne hl1 hl2
    change PlaceIs _ _ (.one p) at hp
    simp only [PlaceIs] at hp
    obtain ⟨a, t, l, n, v1, rfl, ha, hl, h1⟩ := hp
    exact Triple.le (by simp only [htP]; lia) (walk_list (runs := [runP' p]) (by simp) (.cons (kidP (lawP p) h1) .nil) ha hl ho hv hlo hh hpos hn hne hl1 hl2)
  | .two p q => by
    intro hp ho hv hlo hh hpos hn hne hl1 hl2
    change PlaceIs _ _ (.two p q) at hp
    simp only [PlaceIs] at hp
    obtain ⟨a, t, l, n, v1, v2, rfl, ha, hl, h1, h2⟩ := hp
    exact Triple.le (by simp only [htP]; lia) (walk_list (n := max (htP p) (htP q)) (runs := [runP' p, runP' q]) (by simp) (.cons (kidP (WalkC.le (Nat.le_max_left _ _) (lawP p)) h1) (.cons (kidP (WalkC.le (Nat.le_max_right _ _) (lawP q)) h2) .nil)) ha hl ho hv hlo hh hpos hn hne hl1 hl2)
theorem foldT {a b : Term} {ln : Int} {vis new : Vis} : foldR [runT' a, runT' b] ln vis new = match runT ln vis new a with
    | .error e => .error e
    | .ok n => runT' b ln vis n := by
  simp only [foldR, runT']
  cases runT ln vis new a with
  | error e => rfl
  | ok n => dsimp only; cases runT ln vis n b <;> rfl
theorem runT'_assign {a b : Term} {ln : Int} {vis new : Vis} : runT' (.assign a b) ln vis new = foldR [runT' a, runT' b] ln vis new := by
  rw [foldT]; simp only [runT', runT]
  cases runT ln vis new a <;> rfl
theorem runT'_list {a b : Term} {ln : Int} {vis new : Vis} : runT' (.list a b) ln vis new = foldR [runT' a, runT' b] ln vis new := by
  rw [foldT]; simp only [runT', runT]
  cases runT ln vis new a <;> rfl
theorem walkT_assign {a b : Term} {n : Nat} (h1 : WalkC w mean mg mb (isT a) (runT' a) n) (h2 : WalkC w mean mg mb (isT b) (runT' b) n) : WalkC w mean mg mb (isT (.assign a b)) (runT' (.assign a b)) (n + 1) := by
  intro G v hr sd nw o oh on ln vis new hp ho hv hlo hh hpos hn hne hl1 hl2
  obtain ⟨ad, t, v1, v2, rfl, ha, j, k⟩ := hp
  rw [runT'_assign] at hpos ⊢
  have p1 := TermIs.plainly a j
  have p2 := TermIs.plainly b k
  have hpl : ∀ v ∈ [v1, v2], Plainly G v := by
    intro v hv; simp only [List.mem_cons, List.not_mem_nil, or_false] at hv
    rcases hv with rfl | rfl
    · exact p1.2
    · exact p2.2
  have hk : Paired (Kid w mean mg mb G n) (List.filter isRef [v1, v2]) [runT' a, runT' b] := by
    rw [List.filter_cons, List.filter_cons, p1.1, p2.1]
    exact .cons (kidT h1 j) (.cons (kidT h2 k) .nil)
  exact @walk_parts _ _ _ _ _ _ _ _ _ _ _ _ _ _ _ _ _ _ _ _ (by simp) hpl hk ha ho hv hlo hh hpos hn hne hl1 hl2 (by decide) (by decide) (by decide) (by decide) (by decide) (by decide) (by decide) (by decide) (by decide)
theorem walkT_list {a b : Term} {n : Nat} (h1 : WalkC w mean mg mb (isT a) (runT' a) n) (h2 : WalkC w mean mg mb (isT b) (runT' b) n) : WalkC w mean mg mb (isT (.list a b)) (runT' (.list a b)) (n + 1) := by
  intro G v hr sd nw o oh on ln vis new hp ho hv hlo hh hpos hn hne hl1 hl2
  obtain ⟨ad, t, l, k, v1, v2, rfl, ha, hl, i, j⟩ := hp
  rw [runT'_list] at hpos ⊢
  exact walk_list (runs := [runT' a, runT' b]) (by simp) (.cons (kidT h1 i) (.cons (kidT h2 j) .nil)) ha hl ho hv hlo hh hpos hn hne hl1 hl2
theorem walkT_loc {p : Place} : WalkC w mean mg mb (isT (.loc p)) (runT' (.loc p)) (htP p + 1) := by
  intro G v hr sd nw o oh on ln vis new hp ho hv hlo hh hpos hn hne hl1 hl2
  obtain ⟨a, t, v1, rfl, ha, hp1⟩ := hp
  have hT : IsTup G a (List.toArray [.str "local" t, v1]) := tup_of ha
  show Triple _ _ _ _ _ _ _ _ _ _ _
  refine' enter (binds := [("node", .ref a), ("here", .ref hr), ("seen", .ref sd), ("new", .ref nw)]) ?k6 ?k7 ?k9 ?kB ?_ ?kn ?c5 ?c2 ?c3 ?c4
  case k6 => k_is
  case k7 => k_is
  case k9 => exact rfl
  case kB => exact locs rfl
  case kn => first | lia | (simp only [htP, htT, htS, htB]; lia)
  case c5 => decide
  case c2 => exact rfl
  case c3 => exact rfl
  case c4 => exact rfl
  k_whole
  intro dp un gd frs base A₀ s L h₁ tk₁ Qb Eb B X T hdp hun F N hlt hret hexc hown
  (try dsimp only at F)
  k_steps
  refine Halt.mk ?_
  refine useN (ch := [(hr, oh), (nw, on)]) (rest := []) (by assumption) (by assumption) (news_nilr (by assumption)) (by assumption) (by assumption) apart_nilr (by exact rfl) (by exact rfl) hdp hun (by first | exact Nat.lt_succ_self _ | lia) (fun G₂ st₂ rst₂ => lawP p (PlaceIs.mono (fun a o h => st₂ _ _ h) p hp1) (st₂ _ _ ho) hv hlo hh (fun e he => by cases he) hn hne hl1 hl2) ?_
  intro r' ch' h' tk' F' N' A' P'
  obtain ⟨⟨tk3, rfl⟩, oh₂, on₂, rfl, hh₂, hn₂⟩ := P'
  replace N' := news_unnil N'
  have hob := hh₂
  obtain ⟨tkh, hob⟩ := hob
  clear A'
  k_steps
  refine Halt.mk ?_
  refine useN (ch := []) (rest := [(hr, oh₂), (nw, on₂)]) (by assumption) (by assumption) (by assumption) (by assumption) (by assumption) (Apart.symm apart_nilr) (by exact rfl) (by exact rfl) hdp hun (by first | exact Nat.lt_succ_self _ | lia) (fun G₂ st₂ rst₂ => told_ok p (PlaceIs.mono (fun a o h => st₂ _ _ h) p hp1) (st₂ _ _ ho) hv hlo) ?_
  intro r' ch' h' tk' F' N' A' P'
  obtain ⟨rfl, rfl⟩ := P'
  replace N' : News G L h' [(hr, oh₂), (nw, on₂)] := N'
  cases htl : toldP vis p
  all_goals k_steps
  all_goals first
    | exact hret (.ret (.int ln _)) _ _ _ _ (by assumption) (by assumption) (show SPost w hr nw _ _ _ by simp only [runT', runT, htl, if_true]; exact ⟨⟨_, rfl⟩, oh₂, on₂, _, rfl, hn₂⟩)
    | exact hret (.ret (.int 0 _)) _ _ _ _ (by assumption) (by assumption) (show SPost w hr nw _ _ _ by simp only [runT', runT, htl, Bool.false_eq_true, if_false]; exact ⟨⟨_, rfl⟩, oh₂, on₂, rfl, hh₂, hn₂⟩)
end
local macro_rules | `(tactic| k_ne) => `(tactic| ((try dsimp only); first | (with_reducible assumption) | exact Ne.symm (by k_memK) | exact Nat.ne_of_lt (by k_memK) | exact Nat.ne_of_gt (by k_memK) | (refine neN ?_; (try dsimp only); omega)))
local macro_rules | `(tactic| k_mem) => `(tactic| (first
  | (with_reducible exact List.mem_cons_self)
  | ((with_reducible refine List.mem_cons_of_mem _ ?_); k_mem)
  | ((with_reducible refine List.mem_append_right _ ?_); k_mem)
  | ((with_reducible refine List.mem_append_left _ ?_); k_mem)))
local macro_rules | `(tactic| walk_at "subscriptTail") => `(tactic| (k_here; (with_reducible show wpAny _ _ (subscriptTail _ _ (Value.ref _) (Value.int _ _)) _ _ _); k_dflt (refine item_G (by k_memK) (by k_memK) (by decide) (by decide) (by exact rfl) (by exact rfl) ?_ (by with_unfolding_all rfl))))
theorem apart_two1 {h1 h2 : Addr} {o1 o2 : Obj} (hne : @Ne Nat h1 h2) : Apart [(h1, o1)] [(h2, o2)] := fun p hp q hq => by
  rw [List.mem_singleton.mp hp, List.mem_singleton.mp hq]; exact hne
theorem apart_gt2 {d h1 h2 : Addr} {o o1 o2 : Obj} (h : @LT.lt Nat _ h1 d ∧ @LT.lt Nat _ h2 d) : Apart [(d, o)] [(h1, o1), (h2, o2)] := fun p hp q hq => by
  rw [List.mem_singleton.mp hp]
  rcases List.mem_cons.mp hq with rfl | hq
  · exact (Nat.ne_of_lt h.1).symm
  · rw [List.mem_singleton.mp hq]; exact (Nat.ne_of_lt h.2).symm
theorem apart_lt2 {d h1 h2 : Addr} {o o1 o2 : Obj} (g1 : @LT.lt Nat _ d h1) (g2 : @LT.lt Nat _ d h2) : Apart [(d, o)] [(h1, o1), (h2, o2)] := fun p hp q hq => by
  rw [List.mem_singleton.mp hp]
  rcases List.mem_cons.mp hq with rfl | hq
  · exact Nat.ne_of_lt g1
  · rw [List.mem_singleton.mp hq]; exact Nat.ne_of_lt g2
theorem three_mem {a b c : Addr × Obj} {l : Led} (h1 : a ∈ l) (h2 : b ∈ l) (h3 : c ∈ l) : ∀ p ∈ [a, b, c], p ∈ l := fun p hp => by
  rcases List.mem_cons.mp hp with rfl | hp
  · exact h1
  · exact two_mem h2 h3 p hp
theorem one_mem {a : Addr × Obj} {l : Led} (h1 : a ∈ l) : ∀ p ∈ [a], p ∈ l := fun p hp => by rw [List.mem_singleton.mp hp]; exact h1
theorem item0_LG {w : World} {A : Around} {E : Value → Shared → Prop} {s : Shared} {G : Heap} {L a : Addr} {m : Str → Option Value} {value slice : PySem.Expr} {l : List Value} {n : Nat} {u : Tok} {x : Value} {Q : Value → Shared → Prop} (F : Fr G L s.heap m) (hl : G.get? a = some (lstO (x :: l) n)) (h : Q x s)
    (hs : subscripted slice false (.ref a) (.int 0 u) = operate [.ref a, .int 0 u] (getItem (.ref a) (.int 0 u)) := by with_unfolding_all rfl) :
    wpAny (model PG w) A (subscriptTail value slice (.ref a) (.int 0 u)) Q E s :=
  have hL : s.heap.IsList a (List.toArray (x :: l)) := stays_list F.keep ⟨_, hl, rfl, _, rfl⟩
  tail_any hL.typeIs slot_list_getitem.lookup (wpAny_getItem_list hL (by decide) (by decide) (by simp) h) hs
section
variable {w : World} {mean : ExcName → Option Value} {mg mb : Str → Option Value}
theorem walkT_anon {b : Blk} {n : Nat} (hb : WithinC w mean mg mb b n) : WalkC w mean mg mb (isT (.anon b)) (runT' (.anon b)) (n + 1) := by
  intro G v hr sd nw o oh on ln vis new hp ho hv hlo hh hpos hn hne hl1 hl2
  obtain ⟨a, t, a2, t1, t2, v1, t3, l, n3, rfl, ha, ha2, hl, hbk⟩ := hp
  have hT : IsTup G a (List.toArray [.str "anonsub" t, .ref a2]) := tup_of ha
  have hT2 : IsTup G a2 (List.toArray [.str "subdef" t1, .str "" t2, v1, .int 0 t3, .ref l]) := tup_of ha2
  have hh0 := hh
  obtain ⟨tkh, hob⟩ := hh
  show Triple _ _ _ _ _ _ _ _ _ _ _
  refine' enter (binds := [("node", .ref a), ("here", .ref hr), ("seen", .ref sd), ("new", .ref nw)]) ?k6 ?k7 ?k9 ?kB ?_ ?kn ?c5 ?c2 ?c3 ?c4
  case k6 => k_is
  case k7 => k_is
  case k9 => exact rfl
  case kB => exact locs rfl
  case kn => first | lia | (simp only [htP, htT, htS, htB]; lia)
  case c5 => decide
  case c2 => exact rfl
  case c3 => exact rfl
  case c4 => exact rfl
  k_whole
  intro dp un gd frs base A₀ s L h₁ tk₁ Qb Eb B X T hdp hun F N hlt hret hexc hown
  (try dsimp only at F)
  k_steps
  (try dsimp only [kRe, kS])
  rename Obj.IsDictOf _ _ _ => hdD
  rename (_ == sysModules) = false => hDlo
  rename _ ∧ _ => l9
  refine Halt.mk ?_
  refine useN (ch := [(_, _)]) (rest := [(hr, oh), (nw, on)]) (by assumption) (by assumption) (by assumption) (by assumption) (by assumption) (apart_gt2 l9) (by exact rfl) (by exact rfl) hdp hun (by first | exact Nat.lt_succ_self _ | lia) (fun G₂ st₂ rst₂ => hb (BlkOf.mono (fun a o h => st₂ _ _ h) (fun z9 => StmsAre.mono (fun a o h => st₂ _ _ h) b) hbk) (st₂ _ _ ho) hv hlo ⟨_, hdD⟩ (fun e he => hpos e (by simp only [runT', runT, he])) hDlo) ?_
  intro r' ch' h' tk' F' N' A' P'
  have e2 : runT' (.anon b) ln vis new = match runB ln vis b with | .error e => .error e | .ok _ => .ok (ln, new) := by
    simp only [runT', runT]; cases runB ln vis b <;> rfl
  rw [e2] at hret
  cases hrun : runB ln vis b with
  | error e =>
    rw [hrun] at P'
    refine cps fun k_ => ?_
    obtain ⟨⟨tk3, rfl⟩, oh₂, rfl⟩ := P'
    apply k_
    clear k_
    k_steps
    exact hret (.ret (.int e _)) [(hr, oh), (nw, on)] _ _ _ (by assumption) (news_sub (by assumption) (two_mem (by k_mem) (by k_mem))) (show SPost w hr nw _ _ _ by simp only [hrun]; exact ⟨⟨_, rfl⟩, oh, on, _, rfl, hn⟩)
  | ok l' =>
    rw [hrun] at P'
    refine cps fun k_ => ?_
    obtain ⟨⟨tk3, rfl⟩, oh₂, rfl, hh₂⟩ := P'
    apply k_
    clear k_
    k_steps
    exact hret (.ret (.int 0 _)) [(hr, oh), (nw, on)] _ _ _ (by assumption) (news_sub (by assumption) (two_mem (by k_mem) (by k_mem))) (show SPost w hr nw _ _ _ by simp only [hrun]; exact ⟨⟨_, rfl⟩, oh, on, rfl, hh0, hn⟩)
theorem walkS_expr {ln' : Int} {t : Term} {n : Nat} (ht : WalkC w mean mg mb (isT t) (runT' t) n) : WalkC w mean mg mb (isS (.expr ln' t)) (fun z9 vis new => runT' t ln' vis new) (n + 1) := by
  intro G v hr sd nw o oh on ln vis new hp ho hv hlo hh hpos hn hne hl1 hl2
  obtain ⟨a, t1, t2, v1, rfl, hln, hwd, ha, htm⟩ := hp
  have hT : IsTup G a (List.toArray [.str "expr" t1, .int ln' t2, v1]) := tup_of ha
  obtain ⟨tkh, hob⟩ := hh
  show Triple _ _ _ _ _ _ _ _ _ _ _
  refine' enter (binds := [("node", .ref a), ("here", .ref hr), ("seen", .ref sd), ("new", .ref nw)]) ?k6 ?k7 ?k9 ?kB ?_ ?kn ?c5 ?c2 ?c3 ?c4
  case k6 => k_is
  case k7 => k_is
  case k9 => exact rfl
  case kB => exact locs rfl
  case kn => first | lia | (simp only [htP, htT, htS, htB]; lia)
  case c5 => decide
  case c2 => exact rfl
  case c3 => exact rfl
  case c4 => exact rfl
  k_whole
  intro dp un gd frs base A₀ s L h₁ tk₁ Qb Eb B X T hdp hun F N hlt hret hexc hown
  (try dsimp only at F)
  k_steps
  (try dsimp only [kRe, kS])
  rename Obj.IsDictOf _ _ _ => hdD
  refine Halt.mk ?_
  refine useN (ch := [(hr, _), (nw, on)]) (rest := []) (by assumption) (by assumption) (news_nilr (by assumption)) (by assumption) (by assumption) apart_nilr (by exact rfl) (by exact rfl) hdp hun (by first | exact Nat.lt_succ_self _ | lia) (fun G₂ st₂ rst₂ => ht (TermIs.mono (fun a o h => st₂ _ _ h) t htm) (st₂ _ _ ho) hv hlo ⟨_, hdD⟩ hpos hn hne hl1 hl2) ?_
  intro r' ch' h' tk' F' N' A' P'
  replace N' := news_unnil N'
  dsimp only at hret hpos
  cases hrun : runT' t ln' vis new with
  | error e =>
    rw [hrun] at P' hret
    refine cps fun k_ => ?_
    obtain ⟨⟨tk3, rfl⟩, oh₂, on₂, n₂, rfl, hn₂⟩ := P'
    apply k_
    clear k_
    k_steps
    exact hret (.ret (.int e _)) _ _ _ _ (by assumption) (by assumption) ⟨⟨_, rfl⟩, oh₂, on₂, n₂, rfl, hn₂⟩
  | ok x =>
    obtain ⟨l', n'⟩ := x
    rw [hrun] at P' hret
    refine cps fun k_ => ?_
    obtain ⟨⟨tk3, rfl⟩, oh₂, on₂, rfl, hh₂, hn₂⟩ := P'
    apply k_
    clear k_
    k_steps
    exact hret (.ret (.int 0 _)) _ _ _ _ (by assumption) (by assumption) ⟨⟨_, rfl⟩, oh₂, on₂, rfl, hh₂, hn₂⟩
theorem walkS_bare {b : Blk} {n : Nat} (hb : WithinC w mean mg mb b n) : WalkC w mean mg mb (isS (.bare b)) (fun ln vis new => match runB ln vis b with | .error e => .error e | .ok l => .ok (l, new)) (n + 1) := by
  intro G v hr sd nw o oh on ln vis new hp ho hv hlo hh hpos hn hne hl1 hl2
  obtain ⟨a, t1, t2, v1, rfl, ha, hbk⟩ := hp
  have hT : IsTup G a (List.toArray [.str "bare" t1, .str "" t2, v1]) := tup_of ha
  show Triple _ _ _ _ _ _ _ _ _ _ _
  refine' enter (binds := [("node", .ref a), ("here", .ref hr), ("seen", .ref sd), ("new", .ref nw)]) ?k6 ?k7 ?k9 ?kB ?_ ?kn ?c5 ?c2 ?c3 ?c4
  case k6 => k_is
  case k7 => k_is
  case k9 => exact rfl
  case kB => exact locs rfl
  case kn => first | lia | (simp only [htP, htT, htS, htB]; lia)
  case c5 => decide
  case c2 => exact rfl
  case c3 => exact rfl
  case c4 => exact rfl
  k_whole
  intro dp un gd frs base A₀ s L h₁ tk₁ Qb Eb B X T hdp hun F N hlt hret hexc hown
  (try dsimp only at F)
  k_steps
  refine Halt.mk ?_
  refine useN (ch := [(hr, oh)]) (rest := [(nw, on)]) (by assumption) (by assumption) (by assumption) (by assumption) (by assumption) (apart_two1 hne) (by exact rfl) (by exact rfl) hdp hun (by first | exact Nat.lt_succ_self _ | lia) (fun G₂ st₂ rst₂ => hb (BlkOf.mono (fun a o h => st₂ _ _ h) (fun z9 => StmsAre.mono (fun a o h => st₂ _ _ h) b) hbk) (st₂ _ _ ho) hv hlo hh (fun e he => hpos e (by simp only [he])) hl1) ?_
  intro r' ch' h' tk' F' N' A' P'
  cases hrun : runB ln vis b with
  | error e =>
    rw [hrun] at P'
    refine cps fun k_ => ?_
    obtain ⟨⟨tk3, rfl⟩, oh₂, rfl⟩ := P'
    apply k_
    clear k_
    k_steps
    exact hret (.ret (.int e _)) _ _ _ _ (by assumption) (by assumption) (show SPost w hr nw _ _ _ by simp only [hrun]; exact ⟨⟨_, rfl⟩, oh₂, on, new, rfl, hn⟩)
  | ok l' =>
    rw [hrun] at P'
    refine cps fun k_ => ?_
    obtain ⟨⟨tk3, rfl⟩, oh₂, rfl, hh₂⟩ := P'
    apply k_
    clear k_
    k_steps
    exact hret (.ret (.int 0 _)) _ _ _ _ (by assumption) (by assumption) (show SPost w hr nw _ _ _ by simp only [hrun]; exact ⟨⟨_, rfl⟩, oh₂, on, rfl, hh₂, hn⟩)
end
section
local macro_rules | `(tactic| walk_at "getMethod ref") => `(tactic| (k_here; k_dflt (first
  | (refine getm_items (Fr.keep (by k_memK) _ _ (by k_memK)) (by assumption) ?_)
  | (refine getm_items (And.left ((by with_reducible assumption : News _ _ _ _) (_, _) (by k_mem))) (by assumption) ?_))))
local macro_rules | `(tactic| walk_at "call builtin:dict.items") => `(tactic| (refine Halt.out ?_))
local macro_rules | `(tactic| walk_at "call type:list") => `(tactic| (refine Halt.out ?_))
local macro_rules | `(tactic| walk_at "call type:dict") => `(tactic| (refine Halt.out ?_))
local macro_rules | `(tactic| walk_at "binaryOp Add ref ref") => `(tactic| (refine Halt.out ?_))
local macro_rules | `(tactic| walk_at "subscriptTail") => `(tactic| (k_here; (with_reducible show wpAny _ _ (subscriptTail _ _ (Value.ref _) (Value.int 0 _)) _ _ _); k_dflt (refine item0_LG (by k_memK) (by k_memK) ?_ (by with_unfolding_all rfl))))
section
variable {w : World} {mean : ExcName → Option Value} {mg mb : Str → Option Value}
theorem visNil {o : Obj} (h : o.IsDictOf (strKind PG w) []) : VisIs w o [] := ⟨[], h, RelV.nil⟩
def runI (ln : Int) (vis : Vis) (t : Term) (b c : Blk) : Except Int Int := match runT ln vis [] t with
  | .error e => .error e
  | .ok n => match runB ln (n ++ vis) b with
    | .error e => .error e
    | .ok l => runB l (n ++ vis) c
theorem if_ok {t : Term} {b c : Blk} {n : Nat} (ht : WalkC w mean mg mb (isT t) (runT' t) n) (hb : WithinC w mean mg mb b n) (hc : WithinC w mean mg mb c n)
    {G : Heap} {v : Value} {hr sd : Addr} {o oh : Obj} {ln : Int} {vis : Vis} (hp : StmIs (seeH G) v (.ifs t b c)) (ho : G.get? sd = some o) (hv : VisIs w o vis) (hlo : (sd == sysModules) = false) (hh : HereIs w oh ln) (hpos : ∀ e, runI ln vis t b c = .error e → 1 ≤ e) (hl1 : (hr == sysModules) = false) :
    Triple w mean mg mb G 355 [v, .ref hr, .ref sd] (n + 1) [(hr, oh)] (WPost w hr (runI ln vis t b c)) No := by
  obtain ⟨a, t1, l, n3, p, v1, v2, v3, rfl, hwd, ha, hl, hpp, htm, hb1, hb2⟩ := hp
  have hT : IsTup G a (List.toArray [.str "if" t1, .ref l, v3]) := tup_of ha
  have hT2 : IsTup G p (List.toArray [v1, v2]) := tup_of hpp
  replace hl : G.get? l = some (lstO (.ref p :: []) n3) := hl
  show Triple _ _ _ _ _ _ _ _ _ _ _
  refine' enter (binds := [("node", .ref a), ("here", .ref hr), ("seen", .ref sd)]) ?k6 ?k7 ?k9 ?kB ?_ ?kn ?c5 ?c2 ?c3 ?c4
  case k6 => k_is
  case k7 => k_is
  case k9 => exact rfl
  case kB => exact locs rfl
  case kn => first | lia | (simp only [htP, htT, htS, htB]; lia)
  case c5 => decide
  case c2 => exact rfl
  case c3 => exact rfl
  case c4 => exact rfl
  k_whole
  intro dp un gd frs base A₀ s L h₁ tk₁ Qb Eb B X T hdp hun F N hlt hret hexc hown
  (try dsimp only at F)
  k_steps
  (try dsimp only [kRe, kS])
  rename (_ == sysModules) = false => hDlo
  rename Obj.IsDictOf (PySem.strKind PG w) _ _ => hdD
  rename @LT.lt Nat _ _ _ => l9
  rename News _ _ _ _ => N9
  rename_i D h1 oD _ _ _ h2 F2
  refine Halt.mk ?_
  refine useN (ch := [(hr, oh), (D, oD)]) (rest := []) (by assumption) (by assumption) (news_nilr (news_sub N9 (two_mem (by k_mem) (by k_mem)))) (by assumption) (by assumption) apart_nilr (by exact rfl) (by exact rfl) hdp hun (by first | exact Nat.lt_succ_self _ | lia) (fun G₂ st₂ rst₂ => ht (TermIs.mono (fun a o h => st₂ _ _ h) t htm) (st₂ _ _ ho) hv hlo hh (fun e he => hpos e (by simp only [runT'] at he; simp only [runI]; cases hq : runT ln vis [] t with | error e2 => rw [hq] at he; cases he; rfl | ok n2 => rw [hq] at he; cases he)) (visNil hdD) (Nat.ne_of_lt l9) hl1 hDlo) ?_
  intro r' ch' h' tk' F' N' A' P'
  replace N' := news_unnil N'
  clear N9 F2 A' hdD
  cases hrun : runT ln vis [] t with
  | error e =>
    simp only [runT', hrun] at P'
    have hne0 : 1 ≤ e := hpos e (by simp only [runI, hrun])
    refine cps fun k_ => ?_
    obtain ⟨⟨tk3, rfl⟩, oh₂, on₂, n₂, rfl, hn₂⟩ := P'
    apply k_
    clear k_
    k_steps
    refine Halt.mk ?_
    refine items_call (by assumption) (by assumption) (Fr.keep (by assumption) _ _ ho) hlo hv ?_
    intro h1 V1 hV1 F1 N1 up1
    k_steps
    refine Halt.mk ?_
    refine list_call rfl F1 N1 hV1 (F1.keep _ _ ho) hv ?_
    intro h2 l1 acc1 c1 kv1 hL1 hP1 hR1 hD1 F2 N2 up2
    k_steps
    refine Halt.mk ?_
    refine items_call F2 N2 ((N2 (D, on₂) (by k_mem)).1) hDlo hn₂ ?_
    intro h3 V2 hV2 F3 N3 up3
    k_steps
    refine Halt.mk ?_
    refine list_call rfl F3 N3 hV2 ((N3 (D, on₂) (by k_mem)).1) hn₂ ?_
    intro h4 l2 acc2 c2 kv2 hL2 hP2 hR2 hD2 F4 N4 up4
    replace hL1 := up4 _ _ (up3 _ _ hL1)
    replace hP1 := PairsAt.up (PairsAt.up hP1 up3) up4
    k_steps
    refine Halt.mk ?_
    refine add_call F4 N4 hL1 hL2 hP1 hP2 (hR1.len hD1) (hR2.len hD2) ?_
    intro h5 l3 c3 hL3 hP3 F5 N5
    clear hL1 hL2 hP1 hP2 up3 up4 hV1 hV2 up1 up2 F1 N1 F2 N2 F3 N3 F4 N4
    k_steps
    refine Halt.mk ?_
    refine dict_call rfl T.nolimit F5 N5 hL3 hP3 hR1 hR2 hD1 hD2 ?_
    clear hL3 hP3 hR1 hR2 hD1 hD2
    intro D2 oD2 h6 tk6 F6 N6 l6 hD2lo hv6
    clear F5 N5
    k_steps
    all_goals first
      | (exfalso; lia)
      | exact hret (.ret (.int e _)) [(hr, oh₂)] _ _ _ (by assumption) (news_sub (by assumption) (one_mem (by k_mem))) (show WPost w hr _ _ _ by simp only [runI, hrun]; exact ⟨⟨_, rfl⟩, oh₂, rfl⟩)
  | ok n' =>
    simp only [runT', hrun] at P'
    refine cps fun k_ => ?_
    obtain ⟨⟨tk3, rfl⟩, oh₂, on₂, rfl, hh₂, hn₂⟩ := P'
    apply k_
    clear k_
    k_steps
    refine Halt.mk ?_
    refine items_call (by assumption) (by assumption) (Fr.keep (by assumption) _ _ ho) hlo hv ?_
    intro h1 V1 hV1 F1 N1 up1
    k_steps
    refine Halt.mk ?_
    refine list_call rfl F1 N1 hV1 (F1.keep _ _ ho) hv ?_
    intro h2 l1 acc1 c1 kv1 hL1 hP1 hR1 hD1 F2 N2 up2
    k_steps
    refine Halt.mk ?_
    refine items_call F2 N2 ((N2 (D, on₂) (by k_mem)).1) hDlo hn₂ ?_
    intro h3 V2 hV2 F3 N3 up3
    k_steps
    refine Halt.mk ?_
    refine list_call rfl F3 N3 hV2 ((N3 (D, on₂) (by k_mem)).1) hn₂ ?_
    intro h4 l2 acc2 c2 kv2 hL2 hP2 hR2 hD2 F4 N4 up4
    replace hL1 := up4 _ _ (up3 _ _ hL1)
    replace hP1 := PairsAt.up (PairsAt.up hP1 up3) up4
    k_steps
    refine Halt.mk ?_
    refine add_call F4 N4 hL1 hL2 hP1 hP2 (hR1.len hD1) (hR2.len hD2) ?_
    intro h5 l3 c3 hL3 hP3 F5 N5
    clear hL1 hL2 hP1 hP2 up3 up4 hV1 hV2 up1 up2 F1 N1 F2 N2 F3 N3 F4 N4
    k_steps
    refine Halt.mk ?_
    refine dict_call rfl T.nolimit F5 N5 hL3 hP3 hR1 hR2 hD1 hD2 ?_
    clear hL3 hP3 hR1 hR2 hD1 hD2
    intro D2 oD2 h6 tk6 F6 N6 l6 hD2lo hv6
    clear F5 N5
    k_steps
    refine Halt.mk ?_
    rename News _ _ _ _ => N9
    refine useN (ch := [(hr, oh₂)]) (rest := [(D2, oD2), (D, on₂)]) (by assumption) (by assumption) (news_sub N9 (three_mem (by k_mem) (by k_mem) (by k_mem))) (by assumption) (by assumption) (apart_lt2 (l6 (hr, oh₂) (by k_mem)) l9) (by exact rfl) (by exact rfl) hdp hun (by first | exact Nat.lt_succ_self _ | lia) (fun G₂ st₂ rst₂ => hb (BlkOf.mono (fun a o h => st₂ _ _ h) (fun z9 => StmsAre.mono (fun a o h => st₂ _ _ h) b) hb1) (rst₂ (D2, oD2) (by k_mem)) hv6 hD2lo hh₂ (fun e he => hpos e (by simp only [runI, hrun, he])) hl1) ?_
    intro r' ch' h' tk' F' N' A' P'
    clear N9
    cases hrb : runB ln (n' ++ vis) b with
    | error e =>
      have hne0 : 1 ≤ e := hpos e (by simp only [runI, hrun, hrb])
      rw [hrb] at P'
      refine cps fun k_ => ?_
      obtain ⟨⟨tk4, rfl⟩, oh₃, rfl⟩ := P'
      apply k_
      clear k_
      k_steps
      all_goals first
        | (exfalso; lia)
        | exact hret (.ret (.int e _)) [(hr, oh₃)] _ _ _ (by assumption) (news_sub (by assumption) (one_mem (by k_mem))) (show WPost w hr _ _ _ by simp only [runI, hrun, hrb]; exact ⟨⟨_, rfl⟩, oh₃, rfl⟩)
    | ok l' =>
      rw [hrb] at P'
      refine cps fun k_ => ?_
      obtain ⟨⟨tk4, rfl⟩, oh₃, rfl, hh₃⟩ := P'
      apply k_
      clear k_
      replace N' : News G L h' ([(hr, oh₃)] ++ [(D2, oD2), (D, on₂)]) := N'
      k_steps
      refine Halt.mk ?_
      refine useN (ch := [(hr, oh₃)]) (rest := [(D2, oD2), (D, on₂)]) (by assumption) (by assumption) (by assumption) (by assumption) (by assumption) (apart_lt2 (l6 (hr, oh₂) (by k_mem)) l9) (by exact rfl) (by exact rfl) hdp hun (by first | exact Nat.lt_succ_self _ | lia) (fun G₂ st₂ rst₂ => hc (BlkOf.mono (fun a o h => st₂ _ _ h) (fun z9 => StmsAre.mono (fun a o h => st₂ _ _ h) c) hb2) (rst₂ (D2, oD2) (by k_mem)) hv6 hD2lo hh₃ (fun e he => hpos e (by simp only [runI, hrun, hrb, he])) hl1) ?_
      intro r' ch' h' tk' F' N' A' P'
      cases hrc : runB l' (n' ++ vis) c with
      | error e =>
        rw [hrc] at P'
        refine cps fun k_ => ?_
        obtain ⟨⟨tk4, rfl⟩, oh₄, rfl⟩ := P'
        apply k_
        clear k_
        k_steps
        exact hret (.ret (.int e _)) [(hr, oh₄)] _ _ _ (by assumption) (news_sub (by assumption) (one_mem (by k_mem))) (show WPost w hr _ _ _ by simp only [runI, hrun, hrb, hrc]; exact ⟨⟨_, rfl⟩, oh₄, rfl⟩)
      | ok l2' =>
        rw [hrc] at P'
        refine cps fun k_ => ?_
        obtain ⟨⟨tk4, rfl⟩, oh₄, rfl, hh₄⟩ := P'
        apply k_
        clear k_
        k_steps
        exact hret (.ret (.int 0 _)) [(hr, oh₄)] _ _ _ (by assumption) (news_sub (by assumption) (one_mem (by k_mem))) (show WPost w hr _ _ _ by simp only [runI, hrun, hrb, hrc]; exact ⟨⟨_, rfl⟩, oh₄, rfl, hh₄⟩)
end
end
section
local macro_rules | `(tactic| walk_at "getMethod ref") => `(tactic| (k_here; k_dflt (first
  | (refine getm_items (Fr.keep (by k_memK) _ _ (by k_memK)) (by assumption) ?_)
  | (refine getm_items (And.left ((by with_reducible assumption : News _ _ _ _) (_, _) (by k_mem))) (by assumption) ?_))))
local macro_rules | `(tactic| walk_at "call builtin:dict.items") => `(tactic| (refine Halt.out ?_))
local macro_rules | `(tactic| walk_at "call type:list") => `(tactic| (refine Halt.out ?_))
local macro_rules | `(tactic| walk_at "call type:dict") => `(tactic| (refine Halt.out ?_))
local macro_rules | `(tactic| walk_at "binaryOp Add ref ref") => `(tactic| (refine Halt.out ?_))
theorem apart_21 {a b c : Addr} {oa ob oc : Obj} (h1 : @Ne Nat a c) (h2 : @LT.lt Nat _ c b) : Apart [(a, oa), (b, ob)] [(c, oc)] := fun p hp q hq => by
  rw [List.mem_singleton.mp hq]
  rcases List.mem_cons.mp hp with rfl | hp
  · exact h1
  · rw [List.mem_singleton.mp hp]; exact (Nat.ne_of_lt h2).symm
theorem apart_13 {a b c d : Addr} {oa ob oc od : Obj} (h1 : @LT.lt Nat _ a b) (h2 : @LT.lt Nat _ a c) (h3 : @Ne Nat a d) : Apart [(a, oa)] [(b, ob), (c, oc), (d, od)] := fun p hp q hq => by
  rw [List.mem_singleton.mp hp]
  rcases List.mem_cons.mp hq with rfl | hq
  · exact Nat.ne_of_lt h1
  · rcases List.mem_cons.mp hq with rfl | hq
    · exact Nat.ne_of_lt h2
    · rw [List.mem_singleton.mp hq]; exact h3
theorem four_mem {a b c d : Addr × Obj} {l : Led} (h1 : a ∈ l) (h2 : b ∈ l) (h3 : c ∈ l) (h4 : d ∈ l) : ∀ p ∈ [a, b, c, d], p ∈ l := fun p hp => by
  rcases List.mem_cons.mp hp with rfl | hp
  · exact h1
  · exact three_mem h2 h3 h4 p hp
section
variable {w : World} {mean : ExcName → Option Value} {mg mb : Str → Option Value}
def okWith (new : Vis) (r : Except Int Int) : Except Int (Int × Vis) := match r with
  | .error e => .error e
  | .ok l => .ok (l, new)
def runE (ln : Int) (vis : Vis) (x i : Term) (b : Blk) : Except Int Int := match runT ln vis [] x with
  | .error e => .error e
  | .ok n => match runT ln vis n i with
    | .error e => .error e
    | .ok n' => runB ln (n' ++ vis) b
theorem foldR_one {i : Term} {ln : Int} {vis n : Vis} : foldR [runT' i] ln vis n = runT' i ln vis n := by
  simp only [foldR, runT']; cases runT ln vis n i <;> rfl
theorem walkS_if {t : Term} {b c : Blk} {n : Nat} (ht : WalkC w mean mg mb (isT t) (runT' t) n) (hb : WithinC w mean mg mb b n) (hc : WithinC w mean mg mb c n) : WalkC w mean mg mb (isS (.ifs t b c)) (fun ln vis new => okWith new (runI ln vis t b c)) (n + 2) := by
  intro G v hr sd nw o oh on ln vis new hp ho hv hlo hh hpos hn hne hl1 hl2
  dsimp only at hpos ⊢
  have hp0 := hp
  obtain ⟨a, t1, l, n3, p, v1, v2, v3, rfl, hwd, ha, hl, hpp, htm, hb1, hb2⟩ := hp
  have hT : IsTup G a (List.toArray [.str "if" t1, .ref l, v3]) := tup_of ha
  show Triple _ _ _ _ _ _ _ _ _ _ _
  refine' enter (binds := [("node", .ref a), ("here", .ref hr), ("seen", .ref sd), ("new", .ref nw)]) ?k6 ?k7 ?k9 ?kB ?_ ?kn ?c5 ?c2 ?c3 ?c4
  case k6 => k_is
  case k7 => k_is
  case k9 => exact rfl
  case kB => exact locs rfl
  case kn => first | lia | (simp only [htP, htT, htS, htB]; lia)
  case c5 => decide
  case c2 => exact rfl
  case c3 => exact rfl
  case c4 => exact rfl
  k_whole
  intro dp un gd frs base A₀ s L h₁ tk₁ Qb Eb B X T hdp hun F N hlt hret hexc hown
  (try dsimp only at F)
  k_steps
  refine Halt.mk ?_
  refine useN (ch := [(hr, oh)]) (rest := [(nw, on)]) (by assumption) (by assumption) (by assumption) (by assumption) (by assumption) (apart_two1 hne) (by exact rfl) (by exact rfl) hdp hun (by first | exact Nat.lt_succ_self _ | lia) (fun G₂ st₂ rst₂ => if_ok ht hb hc (StmIs.mono (fun a o h => st₂ _ _ h) _ hp0) (st₂ _ _ ho) hv hlo hh (fun e he => hpos e (by simp only [okWith, he])) hl1) ?_
  intro r' ch' h' tk' F' N' A' P'
  cases hrun : runI ln vis t b c with
  | error e =>
    rw [hrun] at P'
    refine cps fun k_ => ?_
    obtain ⟨⟨tk3, rfl⟩, oh₂, rfl⟩ := P'
    apply k_
    clear k_
    k_steps
    exact hret (.ret (.int e _)) _ _ _ _ (by assumption) (by assumption) (show SPost w hr nw _ _ _ by simp only [hrun, okWith]; exact ⟨⟨_, rfl⟩, oh₂, on, new, rfl, hn⟩)
  | ok l' =>
    rw [hrun] at P'
    refine cps fun k_ => ?_
    obtain ⟨⟨tk3, rfl⟩, oh₂, rfl, hh₂⟩ := P'
    apply k_
    clear k_
    k_steps
    exact hret (.ret (.int 0 _)) _ _ _ _ (by assumption) (by assumption) (show SPost w hr nw _ _ _ by simp only [hrun, okWith]; exact ⟨⟨_, rfl⟩, oh₂, on, rfl, hh₂, hn⟩)
theorem walkS_each {x i : Term} {b : Blk} {n : Nat} (hx : WalkC w mean mg mb (isT x) (runT' x) n) (hi : WalkC w mean mg mb (isT i) (runT' i) n) (hb : WithinC w mean mg mb b n) : WalkC w mean mg mb (isS (.foreach x i b)) (fun ln vis new => okWith new (runE ln vis x i b)) (n + 2) := by
  intro G v hr sd nw o oh on ln vis new hp ho hv hlo hh hpos hn hne hl1 hl2
  dsimp only at hpos ⊢
  obtain ⟨a, t1, t2, v1, a2, t3, l, n3, v2, v3, rfl, hwd, ha, ha2, hl, hx1, hi1, hb1⟩ := hp
  have hT : IsTup G a (List.toArray [.str "foreach" t1, .str "" t2, v1, .ref a2, v3]) := tup_of ha
  show Triple _ _ _ _ _ _ _ _ _ _ _
  refine' enter (binds := [("node", .ref a), ("here", .ref hr), ("seen", .ref sd), ("new", .ref nw)]) ?k6 ?k7 ?k9 ?kB ?_ ?kn ?c5 ?c2 ?c3 ?c4
  case k6 => k_is
  case k7 => k_is
  case k9 => exact rfl
  case kB => exact locs rfl
  case kn => first | lia | (simp only [htP, htT, htS, htB]; lia)
  case c5 => decide
  case c2 => exact rfl
  case c3 => exact rfl
  case c4 => exact rfl
  k_whole
  intro dp un gd frs base A₀ s L h₁ tk₁ Qb Eb B X T hdp hun F N hlt hret hexc hown
  (try dsimp only at F)
  k_steps
  (try dsimp only [kRe, kS])
  rename (_ == sysModules) = false => hDlo
  rename Obj.IsDictOf (PySem.strKind PG w) _ _ => hdD
  rename @LT.lt Nat _ _ _ ∧ @LT.lt Nat _ _ _ => l9
  rename News _ _ _ _ => N9
  rename_i D h1 oD _ _ _ h2 F2
  refine Halt.mk ?_
  refine useN (ch := [(hr, oh), (D, oD)]) (rest := [(nw, on)]) (by assumption) (by assumption) (news_sub N9 (three_mem (by k_mem) (by k_mem) (by k_mem))) (by assumption) (by assumption) (apart_21 hne l9.2) (by exact rfl) (by exact rfl) hdp hun (by first | exact Nat.lt_succ_self _ | lia) (fun G₂ st₂ rst₂ => hx (TermIs.mono (fun a o h => st₂ _ _ h) x hx1) (st₂ _ _ ho) hv hlo hh (fun e he => hpos e (by simp only [runT'] at he; simp only [runE, okWith]; cases hq : runT ln vis [] x with | error e2 => rw [hq] at he; cases he; rfl | ok n2 => rw [hq] at he; cases he)) (visNil hdD) (Nat.ne_of_lt l9.1) hl1 hDlo) ?_
  intro r' ch' h' tk' F' N' A' P'
  clear N9 F2 A' hdD
  cases hrun : runT ln vis [] x with
  | error e =>
    simp only [runT', hrun] at P'
    have hne0 : 1 ≤ e := hpos e (by simp only [runE, okWith, hrun])
    refine cps fun k_ => ?_
    obtain ⟨⟨tk3, rfl⟩, oh₂, on₂, n₂, rfl, hn₂⟩ := P'
    apply k_
    clear k_
    replace N' : News G L h' ([(hr, oh₂), (D, on₂)] ++ [(nw, on)]) := N'
    k_steps
    all_goals first
      | (exfalso; lia)
      | exact hret (.ret (.int e _)) [(hr, oh₂), (nw, on)] _ _ _ (by assumption) (news_sub (by assumption) (two_mem (by k_mem) (by k_mem))) (show SPost w hr nw _ _ _ by simp only [okWith, runE, hrun]; exact ⟨⟨_, rfl⟩, oh₂, on, new, rfl, hn⟩)
  | ok n' =>
    simp only [runT', hrun] at P'
    refine cps fun k_ => ?_
    obtain ⟨⟨tk3, rfl⟩, oh₂, on₂, rfl, hh₂, hn₂⟩ := P'
    apply k_
    clear k_
    replace N' : News G L h' ([(hr, oh₂), (D, on₂)] ++ [(nw, on)]) := N'
    k_steps
    refine Halt.mk ?_
    refine useN (ch := [(hr, oh₂), (D, on₂)]) (rest := [(nw, on)]) (by assumption) (by assumption) (by assumption) (by assumption) (by assumption) (apart_21 hne l9.2) (by exact rfl) (by exact rfl) hdp hun (by first | exact Nat.lt_succ_self _ | lia) (fun G₂ st₂ rst₂ => walk_list (runs := [runT' i]) (by simp) (.cons (kidT hi (TermIs.mono (fun a o h => st₂ _ _ h) i hi1)) .nil) (st₂ _ _ ha2) (st₂ _ _ hl) (st₂ _ _ ho) hv hlo hh₂ (fun e he => hpos e (by rw [foldR_one] at he; simp only [runT'] at he; simp only [runE, okWith, hrun]; cases hq : runT ln vis n' i with | error e2 => rw [hq] at he; cases he; rfl | ok n2 => rw [hq] at he; cases he)) hn₂ (Nat.ne_of_lt l9.1) hl1 hDlo) ?_
    intro r' ch' h' tk' F' N' A' P'
    rw [foldR_one] at P'
    cases hri : runT ln vis n' i with
    | error e =>
      simp only [runT', hri] at P'
      have hne0 : 1 ≤ e := hpos e (by simp only [runE, okWith, hrun, hri])
      refine cps fun k_ => ?_
      obtain ⟨⟨tk3, rfl⟩, oh₃, on₃, n₃, rfl, hn₃⟩ := P'
      apply k_
      clear k_
      replace N' : News G L h' ([(hr, oh₃), (D, on₃)] ++ [(nw, on)]) := N'
      k_steps
      all_goals first
        | (exfalso; lia)
        | exact hret (.ret (.int e _)) [(hr, oh₃), (nw, on)] _ _ _ (by assumption) (news_sub (by assumption) (two_mem (by k_mem) (by k_mem))) (show SPost w hr nw _ _ _ by simp only [okWith, runE, hrun, hri]; exact ⟨⟨_, rfl⟩, oh₃, on, new, rfl, hn⟩)
    | ok n2' =>
      simp only [runT', hri] at P'
      refine cps fun k_ => ?_
      obtain ⟨⟨tk3, rfl⟩, oh₃, on₃, rfl, hh₃, hn₃⟩ := P'
      apply k_
      clear k_
      replace N' : News G L h' ([(hr, oh₃), (D, on₃)] ++ [(nw, on)]) := N'
      k_steps
      refine Halt.mk ?_
      refine items_call (by assumption) (by assumption) (Fr.keep (by assumption) _ _ ho) hlo hv ?_
      intro h1 V1 hV1 F1 N1 up1
      k_steps
      refine Halt.mk ?_
      refine list_call rfl F1 N1 hV1 (F1.keep _ _ ho) hv ?_
      intro h2 l1 acc1 c1 kv1 hL1 hP1 hR1 hD1 F2 N2 up2
      k_steps
      refine Halt.mk ?_
      refine items_call F2 N2 ((N2 (D, on₃) (by k_mem)).1) hDlo hn₃ ?_
      intro h3 V2 hV2 F3 N3 up3
      k_steps
      refine Halt.mk ?_
      refine list_call rfl F3 N3 hV2 ((N3 (D, on₃) (by k_mem)).1) hn₃ ?_
      intro h4 l2 acc2 c2 kv2 hL2 hP2 hR2 hD2 F4 N4 up4
      replace hL1 := up4 _ _ (up3 _ _ hL1)
      replace hP1 := PairsAt.up (PairsAt.up hP1 up3) up4
      k_steps
      refine Halt.mk ?_
      refine add_call F4 N4 hL1 hL2 hP1 hP2 (hR1.len hD1) (hR2.len hD2) ?_
      intro h5 l3 c3 hL3 hP3 F5 N5
      clear hL1 hL2 hP1 hP2 up3 up4 hV1 hV2 up1 up2 F1 N1 F2 N2 F3 N3 F4 N4
      k_steps
      refine Halt.mk ?_
      refine dict_call rfl T.nolimit F5 N5 hL3 hP3 hR1 hR2 hD1 hD2 ?_
      clear hL3 hP3 hR1 hR2 hD1 hD2
      intro D2 oD2 h6 tk6 F6 N6 l6 hD2lo hv6
      clear F5 N5
      k_steps
      refine Halt.mk ?_
      rename News _ _ _ _ => N9
      refine useN (ch := [(hr, oh₃)]) (rest := [(D2, oD2), (D, on₃), (nw, on)]) (by assumption) (by assumption) (news_sub N9 (four_mem (by k_mem) (by k_mem) (by k_mem) (by k_mem))) (by assumption) (by assumption) (apart_13 (l6 (hr, oh₃) (by k_mem)) l9.1 hne) (by exact rfl) (by exact rfl) hdp hun (by first | exact Nat.lt_succ_self _ | lia) (fun G₂ st₂ rst₂ => hb (BlkOf.mono (fun a o h => st₂ _ _ h) (fun z9 => StmsAre.mono (fun a o h => st₂ _ _ h) b) hb1) (rst₂ (D2, oD2) (by k_mem)) hv6 hD2lo hh₃ (fun e he => hpos e (by simp only [runE, okWith, hrun, hri, he])) hl1) ?_
      intro r' ch' h' tk' F' N' A' P'
      clear N9
      cases hrb : runB ln (n2' ++ vis) b with
      | error e =>
        have hne0 : 1 ≤ e := hpos e (by simp only [runE, okWith, hrun, hri, hrb])
        rw [hrb] at P'
        refine cps fun k_ => ?_
        obtain ⟨⟨tk4, rfl⟩, oh₄, rfl⟩ := P'
        apply k_
        clear k_
        k_steps
        all_goals first
          | (exfalso; lia)
          | exact hret (.ret (.int e _)) [(hr, oh₄), (nw, on)] _ _ _ (by assumption) (news_sub (by assumption) (two_mem (by k_mem) (by k_mem))) (show SPost w hr nw _ _ _ by simp only [okWith, runE, hrun, hri, hrb]; exact ⟨⟨_, rfl⟩, oh₄, on, new, rfl, hn⟩)
      | ok l' =>
        rw [hrb] at P'
        refine cps fun k_ => ?_
        obtain ⟨⟨tk4, rfl⟩, oh₄, rfl, hh₄⟩ := P'
        apply k_
        clear k_
        k_steps
        exact hret (.ret (.int 0 _)) [(hr, oh₄), (nw, on)] _ _ _ (by assumption) (news_sub (by assumption) (two_mem (by k_mem) (by k_mem))) (show SPost w hr nw _ _ _ by simp only [okWith, runE, hrun, hri, hrb]; exact ⟨⟨_, rfl⟩, oh₄, on, rfl, hh₄, hn⟩)
end
end
local macro_rules | `(tactic| walk_at "exec For Name Subscript cons nil") => `(tactic| (refine Halt.out ?_))
section
local macro_rules | `(tactic| walk_at "call type:dict") => `(tactic| (refine Halt.out ?_))
def okWithS : Stm → Run
  | .ifs t b c => fun ln vis new => okWith new (runI ln vis t b c)
  | .foreach x i b => fun ln vis new => okWith new (runE ln vis x i b)
  | .bare b => fun ln vis new => okWith new (runB ln vis b)
  | .expr l t => fun z9 vis new => runT' t l vis new
theorem okWithS_nil (s : Stm) (ln : Int) (vis : Vis) : okWithS s ln vis [] = runS ln vis s := by
  cases s with
  | ifs t b c =>
    simp only [okWithS, runI, runS]
    cases runT ln vis [] t with
    | error e => rfl
    | ok n =>
      dsimp only
      cases runB ln (n ++ vis) b with
      | error e => rfl
      | ok l => dsimp only; cases runB l (n ++ vis) c <;> rfl
  | foreach x i b =>
    simp only [okWithS, runE, runS]
    cases runT ln vis [] x with
    | error e => rfl
    | ok n =>
      dsimp only
      cases runT ln vis n i with
      | error e => rfl
      | ok n' => dsimp only; cases runB ln (n' ++ vis) b <;> rfl
  | bare b => simp only [okWithS, runS] <;> cases runB ln vis b <;> rfl
  | expr l t => simp only [okWithS, runS, runT'] <;> cases runT l vis [] t <;> rfl
def AllS (P : Stm → Prop) : Blk → Prop
  | .nil => True
  | .cons s b => P s ∧ AllS P b
def Blk.get : Blk → Nat → Option Stm
  | .nil, _ => none
  | .cons s _, 0 => some s
  | .cons _ b, i + 1 => b.get i
def Blk.from : Blk → Nat → Blk
  | b, 0 => b
  | .nil, _ + 1 => .nil
  | .cons _ b, i + 1 => b.from i
theorem Blk.from_get : ∀ (b : Blk) (i : Nat) {s : Stm}, b.get i = some s → b.from i = .cons s (b.from (i + 1))
  | .nil, _, _, h => by simp [Blk.get] at h
  | .cons s' b, 0, _, h => by simp only [Blk.get, Option.some.injEq] at h; subst h; simp only [Blk.from]
  | .cons s' b, i + 1, _, h => by simp only [Blk.get] at h; simp only [Blk.from]; rw [Blk.from_get b i h]
theorem AllS.get {P : Stm → Prop} : ∀ (b : Blk) (i : Nat) {s : Stm}, AllS P b → b.get i = some s → P s
  | .nil, _, _, _, h => by simp [Blk.get] at h
  | .cons s' b, 0, _, a, h => by simp only [Blk.get, Option.some.injEq] at h; subst h; exact a.1
  | .cons s' b, i + 1, _, a, h => by simp only [Blk.get] at h; exact AllS.get b i a.2 h
theorem StmsAre.get {P : See} : ∀ (b : Blk) (i : Nat) {vs : List Value} {v : Value}, StmsAre P vs b → vs[i]? = some v → ∃ s, b.get i = some s ∧ StmIs P v s
  | .nil, i, vs, v, h, g => by simp only [StmsAre] at h; subst h; simp at g
  | .cons s b, i, vs, v, h, g => by
    simp only [StmsAre] at h
    refine cps fun k_ => ?_
    obtain ⟨v', r, rfl, h1, h2⟩ := h
    apply k_
    clear k_
    cases i with
    | zero => simp at g; subst g; exact ⟨s, rfl, h1⟩
    | succ i => exact StmsAre.get b i h2 (by simpa using g)
theorem StmsAre.end {P : See} : ∀ (b : Blk) {vs : List Value}, StmsAre P vs b → b.from vs.length = .nil
  | .nil, vs, h => by simp only [StmsAre] at h; subst h; rfl
  | .cons s b, vs, h => by
    simp only [StmsAre] at h
    refine cps fun k_ => ?_
    obtain ⟨v', r, rfl, h1, h2⟩ := h
    apply k_
    clear k_
    simp only [List.length_cons, Blk.from]; exact StmsAre.end b h2
theorem runB_cons {ln : Int} {vis : Vis} {s : Stm} {b : Blk} : runB ln vis (.cons s b) = match okWithS s ln vis [] with
    | .error e => .error e
    | .ok (l, n) => runB l (n ++ vis) b := by
  rw [okWithS_nil]; simp only [runB] <;> cases runS ln vis s <;> rfl
theorem merged_snoc {a l : List (Str × Value)} {k : Str} {x : Value} : merged a (l ++ [(k, x)]) = stored (merged a l) k x := by simp [merged, List.foldl_append]
theorem keys_len {kvs : List (Str × Value)} (hk : ∀ x ∈ kvs.map (·.1), x ∈ allKeys) (hn : (kvs.map (·.1)).Nodup) : kvs.length ≤ 39 := by
  have := List.Nodup.length_le_of_subset hn (fun x hx => hk x hx : kvs.map (·.1) ⊆ allKeys)
  rw [List.length_map, allKeys_len] at this
  exact this
theorem valueAt_get : ∀ {kvs : List (Str × Value)} {i : Nat} {k : Str} {x : Value}, (kvs.map (·.1)).Nodup → kvs[i]? = some (k, x) → valueAt kvs k = some x
  | [], i, k, x, _, h => by simp at h
  | (k', v) :: kvs, 0, k, x, _, h => by simp at h; obtain ⟨rfl, rfl⟩ := h; rw [valueAt_cons]; simp
  | (k', v) :: kvs, i + 1, k, x, hn, h => by
    rw [List.map_cons, List.nodup_cons] at hn
    have h' : kvs[i]? = some (k, x) := by simpa using h
    have hne : ¬ k' = k := fun e => hn.1 (by rw [show (k', v).1 = k from e]; exact List.mem_map.mpr ⟨(k, x), List.mem_of_getElem? h', rfl⟩)
    rw [valueAt_cons, if_neg hne]; exact valueAt_get hn.2 h'
theorem apart_22 {a b c d : Addr} {oa ob oc od : Obj} (h1 : @Ne Nat a c) (h2 : @Ne Nat a d) (h3 : @Ne Nat b c) (h4 : @Ne Nat b d) : Apart [(a, oa), (b, ob)] [(c, oc), (d, od)] := fun p hp q hq => by
  rcases List.mem_cons.mp hp with rfl | hp <;> rcases List.mem_cons.mp hq with rfl | hq
  · exact h1
  · rw [List.mem_singleton.mp hq]; exact h2
  · rw [List.mem_singleton.mp hp]; exact h3
  · rw [List.mem_singleton.mp hp, List.mem_singleton.mp hq]; exact h4
section
variable {w : World} {mean : ExcName → Option Value} {mg mb : Str → Option Value}
local macro_rules | `(tactic| walk_at "subscriptTail Name Name ref str") => `(tactic| refine halt_s2 ?_)
local macro_rules | `(tactic| walk_at "setItem ref str") => `(tactic| refine halt_i1 ?_)
inductive WithinJ (w : World) (hr S : Addr) (b : Blk) (ln : Int) (vis : Vis) (i : Nat) (m₁ : Str → Option Value) : Led → Prop
  | mk (oh₁ oS₁ : Obj) (ln₁ : Int) (vis₁ : Vis) (a : m₁ (Str.ofString "here") = some (.ref hr)) (c : m₁ (Str.ofString "seen") = some (.ref S)) (d : HereIs w oh₁ ln₁) (e : VisIs w oS₁ vis₁) (f : runB ln vis b = runB ln₁ vis₁ (b.from i)) : WithinJ w hr S b ln vis i m₁ [(hr, oh₁), (S, oS₁)]
inductive MergeJ (w : World) (hr S D : Addr) (kvS kvN : List (Str × Value)) (j : Nat) (m₂ : Str → Option Value) : Led → Prop
  | mk (oS₂ : Obj) (a : m₂ (Str.ofString "here") = some (.ref hr)) (c : m₂ (Str.ofString "seen") = some (.ref S)) (d : m₂ (Str.ofString "new") = some (.ref D)) (e : oS₂.IsDictOf (strKind PG w) (merged kvS (kvN.take j))) : MergeJ w hr S D kvS kvN j m₂ [(S, oS₂)]
theorem within_ok {b : Blk} {n : Nat} (hS : AllS (fun s => WalkC w mean mg mb (isS s) (okWithS s) n) b) : WithinC w mean mg mb b (n + 1) := by
  intro G v hr sd o oh ln vis hp ho hv hlo hh hpos hl1
  obtain ⟨a, t, l, k, vs, rfl, ha, hl, hlen, hst⟩ := hp
  have hT : IsTup G a (List.toArray [.str "block" t, .ref l]) := tup_of ha
  show Triple _ _ _ _ _ _ _ _ _ _ _
  refine' enter (binds := [("block", .ref a), ("here", .ref hr), ("seen", .ref sd)]) ?k6 ?k7 ?k9 ?kB ?_ ?kn ?c5 ?c2 ?c3 ?c4
  case k6 => k_is
  case k7 => k_is
  case k9 => exact rfl
  case kB => exact locs rfl
  case kn => first | lia | (simp only [htP, htT, htS, htB]; lia)
  case c5 => decide
  case c2 => exact rfl
  case c3 => exact rfl
  case c4 => exact rfl
  k_whole
  intro dp un gd frs base A₀ s L h₁ tk₁ Qb Eb B X T hdp hun F N hlt hret hexc hown
  (try dsimp only at F)
  k_steps
  refine Halt.mk ?_
  rename News _ _ _ _ => N9
  refine copy_call T.nolimit (by assumption) N9 (Fr.keep (by assumption) _ _ ho) hlo hv ?_
  intro S oS h1 F1 N1 lS hSlo hvS
  have hrS : @LT.lt Nat _ hr S := lS (hr, oh) (by k_mem)
  clear N9 lS
  k_steps
  refine Halt.mk ?_
  refine forK (G := G) hown ?_
  k_steps
  (try dsimp only [kRe, kS])
  rename Fr _ _ _ _ => F9
  rename News _ _ _ _ => N9
  have hIL : Heap.IsList _ l (List.toArray vs) := stays_list F9.keep ⟨_, hl, rfl, _, rfl⟩
  refine for_at_list (items := List.toArray vs) (own := []) (led := [(hr, oh), (S, oS)]) (J := WithinJ w hr S b ln vis)
    F9 (news_sub N9 (two_mem (by k_mem) (by k_mem))) hIL (.inl ⟨_, hl⟩) (.mk oh oS ln vis rfl rfl hh hvS (by cases b <;> rfl)) ?_ ?_
  · intro I h₂ tk₂ i v h tk m₁ led₁ oI hi hP hJ F₁ N₁ hneI R hR
    refine cps fun k_ => ?_
    obtain ⟨oh₁, oS₁, ln₁, vis₁, hm1, hm2, hh₁, hvS₁, hf⟩ := hJ
    apply k_
    clear k_
    have hv9 : vs[i]? = some v := by simpa using hP
    refine cps fun k_ => ?_
    obtain ⟨st, hget, hstm⟩ := StmsAre.get b i hst hv9
    apply k_
    clear k_
    have hW : WalkC w mean mg mb (isS st) (okWithS st) n := AllS.get b i hS hget
    rw [Blk.from_get b i hget, runB_cons] at hf
    have hpo : ∀ e, okWithS st ln₁ vis₁ [] = .error e → 1 ≤ e := fun e he => hpos e (by rw [hf, he])
    refine wpAny_assign_Name (wpAny_storeName_local rfl F₁.ns (fun h₃ hn₃ hs₃ => ?_) rfl)
    have F₃ := F₁.set hn₃ hs₃
    replace N₁ := N₁.set hs₃
    (try dsimp only at F₃ N₁)
    replace F₃ := fr_name (fr_name F₃ (x := Str.ofString "here") (v := .ref hr) (by rw [if_neg (by decide)]; exact hm1)) (x := Str.ofString "seen") (v := .ref S) (by rw [if_neg (by decide), if_neg (by decide)]; exact hm2)
    have hIr : @Ne Nat I hr := (hneI (hr, oh₁) (by simp)).symm
    have hIS : @Ne Nat I S := (hneI (S, oS₁) (by simp)).symm
    clear F₁ hn₃ hs₃ F9 N9
    replace N₁ : News G L h₃ [(I, oI), (hr, oh₁), (S, oS₁)] := N₁
    k_steps
    (try dsimp only [kRe, kS])
    rename (_ == sysModules) = false => hDlo
    rename Obj.IsDictOf (PySem.strKind PG w) _ _ => hdD
    rename @LT.lt Nat _ _ _ ∧ @LT.lt Nat _ _ _ ∧ @LT.lt Nat _ _ _ => l9
    rename News _ _ _ _ => N9
    refine Halt.mk ?_
    rename_i D h1 oD Fo No _ _ _ h2 F2
    clear Fo No
    refine useN (ch := [(hr, oh₁), (D, oD)]) (rest := [(S, oS₁), (I, oI)]) (by assumption) (by assumption) (news_sub N9 (four_mem (by k_mem) (by k_mem) (by k_mem) (by k_mem))) (by assumption) (by assumption) (apart_22 (Nat.ne_of_lt hrS) hIr.symm (Nat.ne_of_lt l9.2.2).symm (Nat.ne_of_lt l9.1).symm) (by exact rfl) (by exact rfl) hdp hun (by first | exact Nat.lt_succ_self _ | lia) (fun G₂ st₂ rst₂ => hW (StmIs.mono (fun a o h => st₂ _ _ h) st hstm) (rst₂ (S, oS₁) (by k_mem)) hvS₁ hSlo hh₁ hpo (visNil hdD) (Nat.ne_of_lt l9.2.1) hl1 hDlo) ?_
    intro r' ch' h' tk' F' N' A' P'
    clear N9 F2 hdD A'
    cases hrun : okWithS st ln₁ vis₁ [] with
    | error e =>
      rw [hrun] at P' hf
      have hne0 := hpo e hrun
      refine cps fun k_ => ?_
      obtain ⟨⟨tk3, rfl⟩, oh₂, on₂, n₂, rfl, hn₂⟩ := P'
      apply k_
      clear k_
      replace N' : News G L h' ([(hr, oh₂), (D, on₂)] ++ [(S, oS₁), (I, oI)]) := N'
      k_steps
      all_goals first
        | (exfalso; lia)
        | exact hR.ret (hret (.ret (.int e _)) [(hr, oh₂)] _ _ _ (by assumption) (news_sub (by assumption) (one_mem (by k_mem))) (show WPost w hr _ _ _ by rw [hf]; exact ⟨⟨_, rfl⟩, oh₂, rfl⟩))
    | ok x =>
      obtain ⟨l', n'⟩ := x
      rw [hrun] at P' hf
      refine cps fun k_ => ?_
      obtain ⟨⟨tk3, rfl⟩, oh₂, on₂, rfl, hh₂, hn₂⟩ := P'
      apply k_
      clear k_
      replace N' : News G L h' ([(hr, oh₂), (D, on₂)] ++ [(S, oS₁), (I, oI)]) := N'
      refine cps fun k_ => ?_
      obtain ⟨kvN, hdN, hrN, hlN⟩ := hn₂.len
      apply k_
      clear k_
      refine cps fun k_ => ?_
      obtain ⟨kvS, hdS, hrS₁, hlS⟩ := hvS₁.len
      apply k_
      clear k_
      have hnN := isDictOf_nodup hdN
      k_steps
      refine Halt.mk ?_
      refine forK (G := G) hown ?_
      k_steps
      (try dsimp only [kRe, kS])
      rename Fr _ _ _ _ => F9
      rename News _ _ _ _ => N9
      refine for_at_dict (kvs := kvN) (own := [(D, on₂), (I, oI), (hr, oh₂)]) (led := [(S, oS₁)]) (J := MergeJ w hr S D kvS kvN)
        F9 (news_sub N9 (four_mem (by k_mem) (by k_mem) (by k_mem) (by k_mem))) hDlo hdN (by k_mem) (.mk oS₁ rfl rfl rfl hdS) ?_ ?_
      · intro I2 h₄ tk₄ j kv h tk m₂ led₂ oI2 hj hP hJ F₄ N₄ hneI2 R2 hR2
        refine cps fun k_ => ?_
        obtain ⟨k9, x, hkx, hk9⟩ := hP
        apply k_
        clear k_
        obtain ⟨tk9, rfl⟩ := Value.isStrOf_shape hk9
        refine cps fun k_ => ?_
        obtain ⟨oS₂, hm1, hm2, hm3, hd₂⟩ := hJ
        apply k_
        clear k_
        refine wpAny_assign_Name (wpAny_storeName_local rfl F₄.ns (fun h₅ hn₅ hs₅ => ?_) rfl)
        have F₅ := F₄.set hn₅ hs₅
        have N₅ := N₄.set hs₅
        (try dsimp only at F₅ N₅)
        replace F₅ := fr_name (fr_name (fr_name F₅ (x := Str.ofString "here") (v := .ref hr) (by rw [if_neg (by decide)]; exact hm1)) (x := Str.ofString "seen") (v := .ref S) (by rw [if_neg (by decide), if_neg (by decide)]; exact hm2)) (x := Str.ofString "new") (v := .ref D) (by rw [if_neg (by decide), if_neg (by decide), if_neg (by decide)]; exact hm3)
        replace N₅ : News G L h₅ [(I2, oI2), (D, on₂), (I, oI), (hr, oh₂), (S, oS₂)] := N₅
        clear F₄ N₄ hn₅ hs₅ F9 N9
        have hI2S : @Ne Nat I2 S := (hneI2 (S, oS₂) (by simp)).symm
        have hneI2' : ∀ o9 : Obj, ∀ p ∈ [(S, o9)], p.1 ≠ I2 := fun o9 p hp => by rw [List.mem_singleton.mp hp]; exact hneI2 (S, oS₂) (by simp)
        have hlen2 : (merged kvS (kvN.take j)).length ≤ 39 := keys_len (keys_merged _ _ hrS₁.1 fun x hx => by obtain ⟨p, hp, rfl⟩ := List.mem_map.mp hx; exact hrN.1 _ (List.mem_map_of_mem (List.mem_of_mem_take hp))) (isDictOf_nodup hd₂)
        k_steps
        refine Halt.mk ?_
        refine item_kvs ((by assumption : News G L _ [(I2, oI2), (D, on₂), (I, oI), (hr, oh₂), (S, oS₂)]) (D, on₂) (by k_mem)).1 hdN (valueAt_get hnN hkx) ?_
        k_steps
        refine Halt.mk ?_
        refine set_kvs (by assumption) (by assumption) hd₂ (by k_updF) (Nat.le_trans hlen2 (by decide)) ?_
        intro h₆ o₆ F₆ N₆ hd₆
        (try dsimp only at N₆)
        k_steps
        refine hR2 _ _ ⟨_, [(S, o₆)], _, _, rfl, F₆, N₆, hneI2' o₆, .mk o₆ rfl rfl rfl ?_⟩
        rw [List.take_add_one, hkx]; exact merged_snoc ▸ hd₆
      · intro m₃ led₃ h₄ tk₄ hJ F₄ N₄
        refine cps fun k_ => ?_
        obtain ⟨oS₂, hm1, hm2, hm3, hd₂⟩ := hJ
        apply k_
        clear k_
        rw [List.take_length] at hd₂
        clear F9 N9
        k_steps
        refine hR _ _ ⟨_, [(hr, oh₂), (S, oS₂)], _, _, rfl, F₄, news_sub N₄ (three_mem (by k_mem) (by k_mem) (by k_mem)), ?_, .mk oh₂ oS₂ l' (n' ++ vis₁) hm1 hm2 hh₂ ⟨_, hd₂, hrS₁.merged hrN hnN⟩ hf⟩
        intro p hp
        rcases List.mem_cons.mp hp with rfl | hp
        · exact hIr.symm
        · rw [List.mem_singleton.mp hp]; exact hIS.symm
  · intro m' led' h' tk' hJ F' N'
    refine cps fun k_ => ?_
    obtain ⟨oh₁, oS₁, ln₁, vis₁, hm1, hm2, hh₁, hvS₁, hf⟩ := hJ
    apply k_
    clear k_
    have hd : b.from vs.toArray.size = .nil := by rw [List.size_toArray]; exact StmsAre.end b hst
    rw [hd] at hf
    simp only [runB] at hf
    k_steps
    exact hret (.ret (.int 0 _)) [(hr, oh₁)] _ _ _ F' (news_sub N' (one_mem (by k_mem))) (show WPost w hr _ _ _ by rw [hf]; exact ⟨⟨_, rfl⟩, oh₁, rfl, hh₁⟩)
end
end
section
variable {w : World} {mean : ExcName → Option Value} {mg mb : Str → Option Value}
theorem htB_pos : ∀ b : Blk, 1 ≤ htB b
  | .nil => Nat.le_refl 1
  | .cons s b => Nat.le_trans (Nat.le_add_right 1 (htS s)) (Nat.le_max_left _ _)
theorem WithinC.le {b : Blk} {n n' : Nat} (h : n ≤ n') (t : WithinC w mean mg mb b n) : WithinC w mean mg mb b n' := by
  intro G v hr sd o oh ln vis a1 a2 a3 a4 a5 a6 a7
  exact Triple.le h (t a1 a2 a3 a4 a5 a6 a7)
theorem withinOf {b : Blk} (h : AllS (fun s => WalkC w mean mg mb (isS s) (okWithS s) (htB b - 1)) b) : WithinC w mean mg mb b (htB b) := by
  have q : WithinC w mean mg mb b (htB b - 1 + 1) := within_ok h
  rw [Nat.sub_add_cancel (htB_pos b)] at q
  exact @q
mutual
theorem lawT : ∀ t : Term, WalkC w mean mg mb (isT t) (runT' t) (htT t)
  | .told my sg x => WalkC.le (by simp only [htT]; lia) walkT_told
  | .loc p => WalkC.le (by simp only [htT]; lia) walkT_loc
  | .name x => WalkC.le (by simp only [htT]; lia) walkT_name
  | .num => WalkC.le (by simp only [htT]; lia) walkT_num
  | .assign a b => WalkC.le (by simp only [htT]; lia) (walkT_assign (WalkC.le (Nat.le_max_left _ _) (lawT a)) (WalkC.le (Nat.le_max_right _ _) (lawT b)))
  | .anon b => WalkC.le (by simp only [htT]; lia) (walkT_anon (withinOf (lawAll b _ (Nat.le_of_eq (Nat.sub_add_cancel (htB_pos b)).symm))))
  | .list a b => WalkC.le (by simp only [htT]; lia) (walkT_list (WalkC.le (Nat.le_max_left _ _) (lawT a)) (WalkC.le (Nat.le_max_right _ _) (lawT b)))
theorem lawS : ∀ s : Stm, WalkC w mean mg mb (isS s) (okWithS s) (htS s)
  | .ifs t b c => WalkC.le (by simp only [htS]; lia) (walkS_if (n := max (htT t) (max (htB b) (htB c))) (WalkC.le (Nat.le_max_left _ _) (lawT t))
      (WithinC.le (Nat.le_trans (Nat.le_max_left _ _) (Nat.le_max_right _ _)) (withinOf (lawAll b _ (Nat.le_of_eq (Nat.sub_add_cancel (htB_pos b)).symm))))
      (WithinC.le (Nat.le_trans (Nat.le_max_right _ _) (Nat.le_max_right _ _)) (withinOf (lawAll c _ (Nat.le_of_eq (Nat.sub_add_cancel (htB_pos c)).symm)))))
  | .foreach x i b => WalkC.le (by simp only [htS]; lia) (walkS_each (n := max (htT x) (max (htT i) (htB b))) (WalkC.le (Nat.le_max_left _ _) (lawT x))
      (WalkC.le (Nat.le_trans (Nat.le_max_left _ _) (Nat.le_max_right _ _)) (lawT i))
      (WithinC.le (Nat.le_trans (Nat.le_max_right _ _) (Nat.le_max_right _ _)) (withinOf (lawAll b _ (Nat.le_of_eq (Nat.sub_add_cancel (htB_pos b)).symm)))))
  | .bare b => WalkC.le (by simp only [htS]; lia) (WalkC.run (fun ln vis new => by simp only [okWithS, okWith] <;> cases runB ln vis b <;> rfl) (walkS_bare (withinOf (lawAll b _ (Nat.le_of_eq (Nat.sub_add_cancel (htB_pos b)).symm)))))
  | .expr l t => WalkC.le (by simp only [htS]; lia) (WalkC.run (fun ln vis new => by simp only [okWithS]) (walkS_expr (lawT t)))
theorem lawAll : ∀ (b : Blk) (n : Nat), htB b ≤ n + 1 → AllS (fun s => WalkC w mean mg mb (isS s) (okWithS s) n) b
  | .nil, _, _ => trivial
  | .cons s b, n, h => ⟨WalkC.le (by simp only [htB] at h; lia) (lawS s), lawAll b n (by simp only [htB] at h; lia)⟩
end
theorem lawB (b : Blk) : WithinC w mean mg mb b (htB b) := withinOf (lawAll b _ (Nat.le_of_eq (Nat.sub_add_cancel (htB_pos b)).symm))
end
/-! the resolver's scopes -/
abbrev Lin := Int × Addr
structure Fm where
  lv : List (Vis × Vis)
  ln : Lin
def ownV (f : Fm) : Vis := f.lv.flatMap (·.1)
def visF : List Fm → Vis
  | [] => []
  | f :: σ => ownV f ++ visF σ
def ND (l : Led) : Prop := (l.map (·.1)).Nodup
theorem ND.cons {p : Addr × Obj} {l : Led} (h : ND (p :: l)) : (∀ q ∈ l, q.1 ≠ p.1) ∧ ND l := by
  unfold ND at h
  rw [List.map_cons, List.nodup_cons] at h
  exact ⟨fun q hq e => h.1 (e ▸ List.mem_map_of_mem hq), h.2⟩
theorem ND.mk {p : Addr × Obj} {l : Led} (h1 : ∀ q ∈ l, q.1 ≠ p.1) (h : ND l) : ND (p :: l) := by
  unfold ND at h ⊢
  rw [List.map_cons, List.nodup_cons]
  refine ⟨fun hm => ?_, h⟩
  obtain ⟨q, hq, e⟩ := List.mem_map.mp hm
  exact h1 q hq e
theorem ND.nil : ND [] := List.nodup_nil
theorem ND.keys {l l' : Led} (e : l'.map (·.1) = l.map (·.1)) (h : ND l) : ND l' := by unfold ND; rw [e]; exact h
theorem ND.insert {a b : Led} {p : Addr × Obj} (h : ND (a ++ b)) (hp : ∀ q ∈ a ++ b, q.1 ≠ p.1) : ND (a ++ p :: b) := by
  induction a with
  | nil => exact ND.mk hp h
  | cons q a ih =>
    have := ND.cons h
    refine ND.mk (fun r hr => ?_) (ih this.2 fun r hr => hp r (List.mem_cons_of_mem _ hr))
    rcases List.mem_append.mp hr with hr | hr
    · exact this.1 r (List.mem_append_left _ hr)
    · rcases List.mem_cons.mp hr with rfl | hr
      · exact (hp q List.mem_cons_self).symm
      · exact this.1 r (List.mem_append_right _ hr)
theorem ND.erase {a b : Led} {p : Addr × Obj} (h : ND (a ++ p :: b)) : ND (a ++ b) := by
  unfold ND at h ⊢
  exact h.sublist (List.Sublist.map _ (List.Sublist.append (List.Sublist.refl _) (List.sublist_cons_self _ _)))
theorem ND.sub {l l' : Led} (s : List.Sublist l' l) (h : ND l) : ND l' := List.Nodup.sublist (List.Sublist.map _ s) h
theorem ND.right {a b : Led} (h : ND (a ++ b)) : ND b := h.sub (List.sublist_append_right _ _)
theorem ND.append {a b : Led} (ha : ND a) (hb : ND b) (ap : Apart a b) : ND (a ++ b) := by
  induction a with
  | nil => exact hb
  | cons p a ih =>
    have := ND.cons ha
    refine ND.mk (fun q hq => ?_) (ih this.2 fun p' hp' q hq => ap p' (List.mem_cons_of_mem _ hp') q hq)
    rcases List.mem_append.mp hq with hq | hq
    · exact this.1 q hq
    · exact (ap p List.mem_cons_self q hq).symm
theorem ND.apart {a b : Led} (h : ND (a ++ b)) : Apart a b := by
  induction a with
  | nil => exact fun z9 hp => nomatch hp
  | cons p a ih =>
    have := ND.cons h
    intro p' hp' q hq
    rcases List.mem_cons.mp hp' with rfl | hp'
    · exact (this.1 q (List.mem_append_right _ hq)).symm
    · exact ih this.2 p' hp' q hq
def IsPl (my : Bool) (v : Value) : Prop := match my with
  | true => ∃ n tk, v = .int n tk
  | false => ∃ x tk, v = .str x tk
def RelB (kvs : List (Str × Value)) (vis : Vis) : Prop := (∀ x ∈ kvs.map (·.1), x ∈ allKeys) ∧ ∀ k, match vis.lookup k with
  | none => valueAt kvs k = none
  | some my => ∃ v, valueAt kvs k = some v ∧ IsPl my v
theorem RelB.nil : RelB [] [] := ⟨fun z9 h => by simp at h, fun z9 => rfl⟩
theorem RelB.stored {kvs : List (Str × Value)} {vis : Vis} (h : RelB kvs vis) {k : Str} (hk : k ∈ allKeys) {my : Bool} {v : Value} (hv : IsPl my v) : RelB (stored kvs k v) ((k, my) :: vis) := by
  refine ⟨keys_stored h.1 hk, fun k' => ?_⟩
  rw [valueAt_stored, List.lookup_cons]
  by_cases e : k' = k
  · subst e; simp; exact hv
  · have e' : (k' == k) = false := by simpa using e
    rw [if_neg e, e']; exact h.2 k'
inductive BlkV (w : World) (o : Obj) (vis : Vis) : Prop
  | mk (kvs : _) (h1_ : o.IsDictOf (strKind PG w) kvs) (h2_ : RelB kvs vis) : BlkV w o vis
theorem BlkV.len {w : World} {o : Obj} {vis : Vis} (h : BlkV w o vis) : ∃ kvs, o.IsDictOf (strKind PG w) kvs ∧ RelB kvs vis ∧ kvs.length ≤ 39 :=
  let ⟨kvs, a, b⟩ := h; ⟨kvs, a, b, keys_len b.1 (isDictOf_nodup a)⟩
def CapV (w : World) (o : Obj) (base : Vis) (cnt : Nat) (kvs : List (Str × Value)) : Prop := o.IsDictOf (strKind PG w) kvs ∧ (∀ x ∈ kvs.map (·.1), x ∈ allKeys) ∧ cnt ≤ kvs.length ∧ ∀ k v, valueAt kvs k = some v → (∃ n tk, v = .int n tk) ∧ base.lookup k = some true
theorem CapV.len {w : World} {o : Obj} {base : Vis} {cnt : Nat} {kvs : List (Str × Value)} (h : CapV w o base cnt kvs) : cnt ≤ 39 :=
  let ⟨a, b, c, _⟩ := h; Nat.le_trans c (keys_len b (isDictOf_nodup a))
theorem CapV.nil {w : World} {o : Obj} {base : Vis} (h : o.IsDictOf (strKind PG w) []) : CapV w o base 0 [] := ⟨h, fun z9 h => by simp at h, Nat.le_refl _, fun k v h => by simp [valueAt] at h⟩
inductive BlksNil (w : World) (base : Vis) (cnt : Nat) (kv0 : List (Str × Value)) (B : Led) (bs : List Value) : Prop
  | mk (b : Addr) (o : Obj) (e1 : B = [(b, o)]) (e2 : bs = [.ref b]) (h1 : CapV w o base cnt kv0) (h2 : (b == sysModules) = false) : BlksNil w base cnt kv0 B bs
inductive BlksCons (w : World) (v : Vis) (R : Led → List Value → Prop) (B : Led) (bs : List Value) : Prop
  | mk (b : Addr) (o : Obj) (B' : Led) (bs' : List Value) (e1 : B = (b, o) :: B') (e2 : bs = bs' ++ [.ref b]) (h1 : BlkV w o v) (h2 : (b == sysModules) = false) (h3 : R B' bs') : BlksCons w v R B bs
def BlksAre (w : World) (base : Vis) (cnt : Nat) (kv0 : List (Str × Value)) : List (Vis × Vis) → Led → List Value → Prop
  | [], B, bs => BlksNil w base cnt kv0 B bs
  | p :: lv, B, bs => BlksCons w p.1 (BlksAre w base cnt kv0 lv) B bs
inductive TupsCons (k : Str) (my : Bool) (R : Led → List Value → Prop) (T : Led) (vs : List Value) : Prop
  | mk (a : Addr) (t : Tok) (v : Value) (T' : Led) (vs' : List Value) (e1 : T = (a, tupO [.str k t, v]) :: T') (e2 : vs = vs' ++ [.ref a]) (h1 : IsPl my v) (h2 : k ∈ allKeys) (h3 : R T' vs') : TupsCons k my R T vs
def TupsAre : Vis → Led → List Value → Prop
  | [], T, vs => T = [] ∧ vs = []
  | (k, my) :: r, T, vs => TupsCons k my (TupsAre r) T vs
inductive WaitsNil (W : Led) (ws : List Value) : Prop
  | mk (a : Addr) (n : Nat) (e1 : W = [(a, lstO [] n)]) (e2 : ws = [.ref a]) : WaitsNil W ws
inductive WaitsCons (T0 : Led → List Value → Prop) (R : Led → List Value → Prop) (W : Led) (ws : List Value) : Prop
  | mk (a : Addr) (n : Nat) (vs : List Value) (T W' : Led) (ws' : List Value) (e1 : W = (a, lstO vs n) :: (T ++ W')) (e2 : ws = ws' ++ [.ref a]) (h1 : T0 T vs) (h2 : R W' ws') : WaitsCons T0 R W ws
def WaitsAre : List (Vis × Vis) → Led → List Value → Prop
  | [], W, ws => WaitsNil W ws
  | p :: lv, W, ws => WaitsCons (TupsAre p.2) (WaitsAre lv) W ws
theorem TupsAre.len : ∀ {wt : Vis} {T : Led} {vs : List Value}, TupsAre wt T vs → vs.length = wt.length
  | [], _, _, h => by rw [h.2]; rfl
  | (k, my) :: r, _, _, h => by obtain ⟨a, t, v, T', vs', _, rfl, _, _, h'⟩ := h; rw [List.length_append, TupsAre.len h']; rfl
theorem BlksAre.len {w : World} {base : Vis} {cnt : Nat} {kv0 : List (Str × Value)} : ∀ {lv : List (Vis × Vis)} {B : Led} {bs : List Value}, BlksAre w base cnt kv0 lv B bs → bs.length = lv.length + 1
  | [], _, _, h => by obtain ⟨b, o, _, rfl, _⟩ := h; rfl
  | p :: lv, _, _, h => by obtain ⟨b, o, B', bs', _, rfl, _, _, h'⟩ := h; rw [List.length_append, BlksAre.len h']; rfl
theorem WaitsAre.len : ∀ {lv : List (Vis × Vis)} {W : Led} {ws : List Value}, WaitsAre lv W ws → ws.length = lv.length + 1
  | [], _, _, h => by obtain ⟨a, n, _, rfl⟩ := h; rfl
  | p :: lv, _, _, h => by obtain ⟨a, n, vs, T, W', ws', _, rfl, _, h'⟩ := h; rw [List.length_append, WaitsAre.len h']; rfl
abbrev ent (w : World) (x : Str) (t : Tok) (v : Value) : DictEntry := { hash := PyData.keyHash w.params x, key := .str x t, val := v }
abbrev scDict (w : World) (t1 t2 t3 t4 t5 t6 t7 : Tok) (vo vp vb vw vs vc vl : Value) : Obj :=
  dictOf [ent w "outer" t1 vo, ent w "package" t2 vp, ent w "blocks" t3 vb, ent w "waiting" t4 vw, ent w "size" t5 vs, ent w "captures" t6 vc, ent w "line" t7 vl] 7
structure ScT where
  t1 : Tok
  t2 : Tok
  t3 : Tok
  t4 : Tok
  t5 : Tok
  t6 : Tok
  t7 : Tok
  tp : Tok
  ts : Tok
  tl : Tok
  sz : Int
abbrev scLed (w : World) (x dx bl wt cp : Addr) (t : ScT) (vo : Value) (ln : Lin) (bs ws caps : List Value) (n1 n2 n3 : Nat) (Z : Led) : Led :=
  (x, instObj 108 dx) :: (dx, scDict w t.t1 t.t2 t.t3 t.t4 t.t5 t.t6 t.t7 vo (.str "main" t.tp) (.ref bl) (.ref wt) (.int t.sz t.ts) (.ref cp) (.int ln.1 t.tl)) ::
    (bl, lstO bs n1) :: (wt, lstO ws n2) :: (cp, lstO caps n3) :: Z
inductive ChainC (w : World) (f : Fm) (base : Vis) (R9 : Value → Led → Prop) (v : Value) (ch : Led) : Prop
  | mk (x dx bl wt cp : Addr) (t : ScT) (vo : Value) (bs ws caps : List Value) (n1 n2 n3 : Nat) (kv0 : List (Str × Value)) (B W R : Led) (e1 : v = .ref x) (e2 : ch = scLed w x dx bl wt cp t vo f.ln bs ws caps n1 n2 n3 (B ++ (W ++ R)))
      (h1 : BlksAre w base caps.length kv0 f.lv B bs) (h2 : WaitsAre f.lv W ws) (h3 : R9 vo R ∧ f.ln.2 = x) : ChainC w f base R9 v ch
def ChainIs (w : World) : List Fm → Value → Led → Prop
  | [], v, ch => v = .none ∧ ch = []
  | f :: σ, v, ch => ChainC w f (visF σ) (ChainIs w σ) v ch
def Chain (w : World) (σ : List Fm) (v : Value) (ch : Led) : Prop := ChainIs w σ v ch ∧ ND ch
theorem nd5 {x dx bl wt cp : Addr} {o1 o2 o3 o4 o5 : Obj} {Z : Led} (h : ND ((x, o1) :: (dx, o2) :: (bl, o3) :: (wt, o4) :: (cp, o5) :: Z)) :
    (@Ne Nat dx x ∧ @Ne Nat bl x ∧ @Ne Nat wt x ∧ @Ne Nat cp x ∧ ∀ p ∈ Z, p.1 ≠ x) ∧ (@Ne Nat bl dx ∧ @Ne Nat wt dx ∧ @Ne Nat cp dx ∧ ∀ p ∈ Z, p.1 ≠ dx) ∧ (@Ne Nat wt bl ∧ @Ne Nat cp bl ∧ ∀ p ∈ Z, p.1 ≠ bl) ∧ (@Ne Nat cp wt ∧ ∀ p ∈ Z, p.1 ≠ wt) ∧ (∀ p ∈ Z, p.1 ≠ cp) ∧ ND Z := by
  obtain ⟨a1, h⟩ := h.cons
  obtain ⟨a2, h⟩ := h.cons
  obtain ⟨a3, h⟩ := h.cons
  obtain ⟨a4, h⟩ := h.cons
  obtain ⟨a5, h⟩ := h.cons
  simp only [List.forall_mem_cons] at a1 a2 a3 a4
  exact ⟨⟨a1.1, a1.2.1, a1.2.2.1, a1.2.2.2.1, a1.2.2.2.2⟩, ⟨a2.1, a2.2.1, a2.2.2.1, a2.2.2.2⟩, ⟨a3.1, a3.2.1, a3.2.2⟩, ⟨a4.1, a4.2⟩, a5, h⟩
local macro_rules | `(tactic| k_all) => `(tactic| with_reducible assumption)
section
local macro_rules | `(tactic| k_room) => `(tactic| ((try simp only [depth_under_make, depth_under_kw, depth_in1, depth_deeper, depth_caller]); (try dsimp only); omega))
section
variable {w : World} {mean : ExcName → Option Value} {mg mb : Str → Option Value}
abbrev ScT.slot (t : ScT) (ts : Tok) : ScT := ⟨t.t1, t.t2, t.t3, t.t4, t.t5, t.t6, t.t7, t.tp, ts, t.tl, t.sz + 1⟩
theorem new_slot_raw {G : Heap} {x dx bl wt cp : Addr} {t : ScT} {vo : Value} {ln : Lin} {bs ws caps : List Value} {n1 n2 n3 : Nat} {Z9 : Led} (nd : ND (scLed w x dx bl wt cp t vo ln bs ws caps n1 n2 n3 Z9)) :
    Triple w mean mg mb G 140 [.ref x] 1 (scLed w x dx bl wt cp t vo ln bs ws caps n1 n2 n3 Z9) (fun r ch' => ∃ ts n tk, ch' = scLed w x dx bl wt cp (t.slot ts) vo ln bs ws caps n1 n2 n3 Z9 ∧ r = .int n tk) No := by
  have nd' := nd
  obtain ⟨⟨e1, e2, e3, e4, r1⟩, ⟨e5, e6, e7, r2⟩, ⟨e8, e9, r3⟩, ⟨e10, r4⟩, r5, nd0⟩ := nd5 nd'
  clear nd'
  show Triple _ _ _ _ _ _ _ _ _ _ _
  refine' enter (binds := [("scope", .ref x)]) ?k6 ?k7 ?k9 ?kB ?_ ?kn ?c5 ?c2 ?c3 ?c4
  case k6 => k_is
  case k7 => k_is
  case k9 => exact rfl
  case kB => exact locs rfl
  case kn => first | omega | (simp only [htP, htT, htS, htB]; omega)
  case c5 => decide
  case c2 => exact rfl
  case c3 => exact rfl
  case c4 => exact rfl
  k_whole
  intro dp un gd frs base A₀ s L h₁ tk₁ Qb Eb B X T hdp hun F N hlt hret hexc hown
  (try dsimp only at F)
  k_steps
  rename News _ _ _ _ => N9
  have N8 : News G L _ (scLed w x dx bl wt cp (t.slot _) vo ln bs ws caps n1 n2 n3 Z9) := N9
  exact hret (.ret (.int _ _)) _ _ _ _ (by assumption) N8 ⟨_, _, _, rfl, rfl⟩
theorem new_slot {G : Heap} {f : Fm} {σ : List Fm} {v : Value} {ch : Led} (hc : Chain w (f :: σ) v ch) :
    Triple w mean mg mb G 140 [v] 1 ch (fun r ch' => Chain w (f :: σ) v ch' ∧ ∃ n tk, r = .int n tk) No := by
  obtain ⟨⟨x, dx, bl, wt, cp, t, vo, bs, ws, caps, n1, n2, n3, kv0, B9, W9, R9, rfl, rfl, hB, hW, hR⟩, nd⟩ := hc
  refine Triple.post ?_ (new_slot_raw nd)
  rintro r c ⟨ts, n, tk, rfl, rfl⟩
  exact ⟨⟨⟨x, dx, bl, wt, cp, t.slot ts, vo, bs, ws, caps, n1, n2, n3, kv0, B9, W9, R9, rfl, rfl, hB, hW, hR⟩, nd.keys rfl⟩, n, tk, rfl⟩
end
end
section
variable {w : World} {A : Around} {E : Value → Shared → Prop} {s : Shared} {G : Heap} {L l : Addr} {m : Str → Option Value} {led led' : Led} {xs : List Value} {v : Value} {n : Nat}
theorem isList_of {h : Heap} (ho : h.get? l = some (lstO xs n)) : h.IsList l xs.toArray := ⟨_, ho, rfl, _, rfl⟩
theorem last_item {value slice : PySem.Expr} {u : Tok} {Q : Value → Shared → Prop} (hl : s.heap.IsList l (xs ++ [v]).toArray) (hsz : xs.length ≤ 1000000) (h : Q v s)
    (hs : subscripted slice false (.ref l) (.int (-1) u) = operate [.ref l, .int (-1) u] (getItem (.ref l) (.int (-1) u)) := by with_unfolding_all rfl) :
    wpAny (model PG w) A (subscriptTail value slice (.ref l) (.int (-1) u)) Q E s :=
  tail_any hl.typeIs slot_list_getitem.lookup (wpAny_getItem_list_neg hl (by decide) (by simp only [List.size_toArray, List.length_append, List.length_singleton]; lia) (by decide)
    (by simp only [List.size_toArray, List.length_append, List.length_singleton]; rw [show ((-1 : Int) + ((xs.length + 1 : Nat) : Int)).toNat = xs.length by lia]; simp) h) hs
theorem erase_last (xs : List Value) (v : Value) : (xs ++ [v]).eraseIdx xs.length = xs := by
  induction xs with
  | nil => rfl
  | cons x xs ih => simp only [List.cons_append, List.length_cons, List.eraseIdx_cons_succ, ih]
theorem pop_last {Q : Value → Shared → Prop} (F : Fr G L s.heap m) (N : News G L s.heap led) (U : Upd l (lstO (xs ++ [v]) n) (lstO xs (n + 1)) led led') (hsz : xs.length ≤ 1000000)
    (h : ∀ h', Fr G L h' m → News G L h' led' → Q v { s with heap := h' }) : wpAny (model PG w) A (call (.builtin "list.pop") [.ref l]) Q E s := by
  refine cps fun k_ => ?_
  obtain ⟨pre, post, rfl, rfl, a, b⟩ := U.split
  apply k_
  clear k_
  have z := N (l, lstO (xs ++ [v]) n) (List.mem_append_right _ (.head _))
  have e : (xs ++ [v]).toArray.size - 1 = xs.length := by simp
  refine call_meets PySem.F.slot_list_pop ⟨_, z.1, rfl⟩ PySem.F.entry_list_pop (PySem.F.args_list_pop_1 _) (PySem.MeetsSeq.list_pop_last l (xs ++ [v]).toArray n v (by rw [e]; simp) (by rw [sizeLine_eq]; simp only [List.size_toArray, List.length_append, List.length_singleton]; lia)) ⟨z.1, ?_⟩
  have o : Obj.mapSeq (fun ys => ys.eraseIdxIfInBounds ((xs ++ [v]).toArray.size - 1)) (lstO (xs ++ [v]) n) = lstO xs (n + 1) := by
    rw [e, mapSeq_erase _ _ _ (by simp)]
    show lstO _ _ = _
    rw [show (xs ++ [v]).toArray.toList.eraseIdx xs.length = xs from erase_last xs v]
  have hg : (s.heap.update l (Obj.mapSeq fun ys => ys.eraseIdxIfInBounds ((xs ++ [v]).toArray.size - 1))).get? l = some (lstO xs (n + 1)) := by
    rw [Heap.get?_update_self _ z.1 (by rw [o]; rfl), o]
  exact h _ (F.change (Heap.SameBut.update ..) z.2.1 z.2.2) (news_set N a b (Heap.SameBut.update ..) hg)
theorem setItem_last {u : Value} {t : Tok} {Q : Unit → Shared → Prop} (F : Fr G L s.heap m) (N : News G L s.heap led) (U : Upd l (lstO (xs ++ [v]) n) (lstO (xs ++ [u]) n) led led') (hsz : xs.length ≤ 1000000)
    (h : ∀ h', Fr G L h' m → News G L h' led' → Q () { s with heap := h' }) : wpAny (model PG w) A (setItem (.ref l) (.int (-1) t) u) Q E s := by
  refine cps fun k_ => ?_
  obtain ⟨pre, post, rfl, rfl, a, b⟩ := U.split
  apply k_
  clear k_
  have z := N (l, lstO (xs ++ [v]) n) (List.mem_append_right _ (.head _))
  have hl : s.heap.IsList l (xs ++ [v]).toArray := isList_of z.1
  have o : Obj.mapSeq (·.setIfInBounds xs.length u) (lstO (xs ++ [v]) n) = lstO (xs ++ [u]) n := by
    simp only [Obj.mapSeq, lstO, Array.size_setIfInBounds, beq_self_eq_true, if_true]
    congr 2
    simp
  have hg : (s.heap.update l (Obj.mapSeq (·.setIfInBounds xs.length u))).get? l = some (lstO (xs ++ [u]) n) := by
    rw [Heap.get?_update_self _ z.1 (by rw [o]; rfl), o]
  have fin : Q () { s with heap := s.heap.update l (Obj.mapSeq (·.setIfInBounds xs.length u)) } := h _ (F.change (Heap.SameBut.update ..) z.2.1 z.2.2) (news_set N a b (Heap.SameBut.update ..) hg)
  unfold setItem
  try with_reducible refine wpAny_holding ?_
  first | refine wpAny_bind (wpAny_pure ?_) | skip
  refine wpAny_bind (wpAny_sequenceKey hl.typeIs (by decide) ?_)
  refine wpAny_bind (wpAny_callSpecial?_slot (name := Str.ofString "__setitem__") hl.typeIs slot_list_setitem
    (wpAny_call_entry slot_list_setitem hl.typeIs entry_list_setitem ?_ (args_list_setitem _ _ _)))
  show wpAny _ _ (Builtin.List.listSubscript? (.int (-1) t) >>= _) _ _ s
  refine wpAny_bind (wpAny_listSubscript_int (fitsIndex_neg (by decide) (by decide)) ?_)
  show wpAny _ _ ((Builtin.List.listItems (.ref l) >>= fun xs => pure ((seqIndex? (-1) xs.size).bind fun i => xs[i]?.map (i, ·))) >>= _) _ _ s
  refine wpAny_bind (wpAny_bind ?_)
  show wpAny _ _ (seqItems? (.ref l) >>= _) _ _ s
  refine wpAny_bind (wpAny_seqItems z.1 rfl (wpAny_pure (wpAny_pure ?_)))
  have hidx : seqIndex? (-1) (xs ++ [v]).toArray.size = some xs.length := by
    rw [seqIndex_neg (by decide) (by simp only [List.size_toArray, List.length_append, List.length_singleton]; lia)]
    congr 1
    simp only [List.size_toArray, List.length_append, List.length_singleton]; lia
  have hx : (xs ++ [v]).toArray[xs.length]? = some v := by simp
  rw [hidx]
  simp only [Option.bind_some, hx, Option.map_some]
  show wpAny _ _ (setSeqItemAt l xs.length u >>= _) _ _ s
  refine wpAny_bind (wpAny_setSeqItemAt z.1 rfl ?_)
  first
    | exact wpAny_bind (wpAny_pure (wpAny_pure ⟨.none, rfl, wpAny_pure fin⟩))
    | exact wpAny_pure ⟨.none, rfl, wpAny_pure fin⟩
theorem filterMap_some {α β : Type} {f : α → Option β} {g : α → β} : ∀ {l : List α}, (∀ k ∈ l, f k = some (g k)) → l.filterMap f = l.map g
  | [], _ => rfl
  | a :: l, h => by
    rw [List.filterMap_cons, h a List.mem_cons_self, List.map_cons, filterMap_some fun k hk => h k (List.mem_cons_of_mem _ hk)]
theorem slicePick_rev (xs : List Value) : slicePick xs.toArray none none (some (-1)) = xs.reverse.toArray := by
  have hb : sliceBounds none none (some (-1)) xs.toArray.size = ((xs.length : Int) - 1, -1, -1) := by simp [sliceBounds]
  have hr : sliceRange ((xs.length : Int) - 1) (-1) (-1) = (List.range xs.length).map fun k => xs.length - 1 - k := by
    unfold sliceRange
    have hc : (if (-1 : Int) > 0 then (if (xs.length : Int) - 1 < -1 then (-1 - ((xs.length : Int) - 1) + -1 - 1) / -1 else 0) else (if (xs.length : Int) - 1 > -1 then ((xs.length : Int) - 1 - -1 - -1 - 1) / - -1 else 0)) = (xs.length : Int) := by
      rw [if_neg (by decide)]
      split
      · rw [show (- -1 : Int) = 1 by decide, Int.ediv_one]; lia
      · lia
    simp only [hc, Int.toNat_natCast]
    refine List.map_congr_left fun k hk => ?_
    have := List.mem_range.mp hk
    lia
  unfold slicePick
  rw [hb, hr]
  congr 1
  rw [List.filterMap_map]
  apply List.ext_getElem?
  intro i
  have hall : (List.range xs.length).filterMap ((fun k => xs.toArray[k]?) ∘ fun k => xs.length - 1 - k) = (List.range xs.length).map fun k => (xs[xs.length - 1 - k]?).getD .none := by
    refine filterMap_some fun k hk => ?_
    have := List.mem_range.mp hk
    have hlt : xs.length - 1 - k < xs.length := by lia
    simp [hlt]
  rw [hall, List.getElem?_map]
  by_cases hi : i < xs.length
  · rw [List.getElem?_range hi, List.getElem?_reverse hi]
    have hlt : xs.length - 1 - i < xs.length := by lia
    simp [hlt]
  · rw [List.getElem?_eq_none (by simpa using hi), List.getElem?_eq_none (by simpa using hi)]; rfl
theorem in_kvs {d : Addr} {o : Obj} {kvs : List (Str × Value)} {k : Str} {t : Tok} {Q : Value → Shared → Prop} (ho : s.heap.get? d = some o) (hd : o.IsDictOf (strKind PG w) kvs) (hlo : (d == sysModules) = false)
    (h : Q (.bool (valueAt kvs k).isSome) { s with toks := s.toks + 1 }) : wpAny (model PG w) A (compareOp .In (.str k t) (.ref d)) Q E s :=
  have hm : s.heap.DictOf (strKind PG w) d kvs := Heap.dictOf_iff.mpr ⟨o, ho, hd⟩
  wpAny_in_of (strKind_is _ _ k t) hlo hm.mapOf h
end
local macro_rules | `(tactic| k_room) => `(tactic| ((try simp only [depth_under_make, depth_under_kw, depth_in1, depth_deeper, depth_caller]); (try dsimp only); lia))
theorem nd_enter {F B W R : Led} {D D2 : Addr × Obj} (h : ND (F ++ (B ++ (W ++ R)))) (h1 : ∀ q ∈ F ++ (B ++ (W ++ R)), q.1 ≠ D.1) (h2 : ∀ q ∈ D :: (F ++ (B ++ (W ++ R))), q.1 ≠ D2.1) : ND (F ++ ((D :: B) ++ ((D2 :: W) ++ R))) := by
  have a := ND.insert (p := D) h h1
  have e : F ++ D :: (B ++ (W ++ R)) = (F ++ D :: B) ++ (W ++ R) := by simp only [List.append_assoc, List.cons_append]
  rw [e] at a
  have b := ND.insert (p := D2) a fun q hq => h2 q (by
    simp only [List.mem_append, List.mem_cons] at hq ⊢
    rcases hq with (hq | hq | hq) | hq | hq <;> simp only [hq, true_or, or_true])
  have e2 : (F ++ D :: B) ++ D2 :: (W ++ R) = F ++ ((D :: B) ++ ((D2 :: W) ++ R)) := by simp only [List.append_assoc, List.cons_append]
  rw [e2] at b
  exact b
theorem mem_enter {F B W R : Led} {D D2 : Addr × Obj} : ∀ p ∈ F ++ ((D :: B) ++ ((D2 :: W) ++ R)), p ∈ D2 :: D :: (F ++ (B ++ (W ++ R))) := fun p hp => by
  simp only [List.mem_append, List.mem_cons] at hp ⊢
  rcases hp with hp | (hp | hp) | (hp | hp) | hp <;> simp only [hp, true_or, or_true]
theorem sub_leave {F B W R T : Led} {b a : Addr × Obj} : List.Sublist (F ++ (B ++ (W ++ R))) (F ++ ((b :: B) ++ ((a :: (T ++ W)) ++ R))) :=
  List.Sublist.append (List.Sublist.refl _) (List.Sublist.append (List.sublist_cons_self _ _) (List.Sublist.append ((List.sublist_append_right _ _).cons _) (List.Sublist.refl _)))
section
variable {w : World} {mean : ExcName → Option Value} {mg mb : Str → Option Value}
theorem enter_block {G : Heap} {f : Fm} {σ : List Fm} {v : Value} {ch : Led} (hc : Chain w (f :: σ) v ch) (hlen : f.lv.length ≤ 10000) :
    Triple w mean mg mb G 119 [v] 1 ch (fun r ch' => Chain w (⟨([], []) :: f.lv, f.ln⟩ :: σ) v ch') No := by
  obtain ⟨⟨x, dx, bl, wt, cp, t, vo, bs, ws, caps, n1, n2, n3, kv0, B9, W9, R9, rfl, rfl, hB, hW, hR⟩, nd⟩ := hc
  have nd' := nd
  obtain ⟨⟨e1, e2, e3, e4, r1⟩, ⟨e5, e6, e7, r2⟩, ⟨e8, e9, r3⟩, ⟨e10, r4⟩, r5, nd0⟩ := nd5 nd'
  clear nd'
  have hz1 : bs.toArray.size ≤ sizeLine := by rw [sizeLine_eq, List.size_toArray, hB.len]; lia
  have hz2 : ws.toArray.size ≤ sizeLine := by rw [sizeLine_eq, List.size_toArray, hW.len]; lia
  show Triple _ _ _ _ _ _ _ _ _ _ _
  refine' enter (binds := [("scope", .ref x)]) ?k6 ?k7 ?k9 ?kB ?_ ?kn ?c5 ?c2 ?c3 ?c4
  case k6 => k_is
  case k7 => k_is
  case k9 => exact rfl
  case kB => exact locs rfl
  case kn => first | lia | (simp only [htP, htT, htS, htB]; lia)
  case c5 => decide
  case c2 => exact rfl
  case c3 => exact rfl
  case c4 => exact rfl
  k_whole
  intro dp un gd frs base A₀ s L h₁ tk₁ Qb Eb B X T hdp hun F N hlt hret hexc hown
  (try dsimp only at F)
  k_steps
  rename News _ _ _ _ => N9
  rename @LT.lt Nat _ _ _ ∧ @LT.lt Nat _ _ _ ∧ @LT.lt Nat _ _ _ ∧ @LT.lt Nat _ _ _ ∧ @LT.lt Nat _ _ _ ∧ @LT.lt Nat _ _ _ ∧ _ => l9
  rename @LT.lt Nat _ _ _ ∧ @LT.lt Nat _ _ _ ∧ @LT.lt Nat _ _ _ ∧ @LT.lt Nat _ _ _ ∧ @LT.lt Nat _ _ _ ∧ AllLt _ _ => l8
  rename (_ == sysModules) = false => hlo
  rename Obj.IsDictOf (PySem.strKind PG w) _ _ => hd9
  rename_i D h1 oD _ _ _ h2 D2 h3 h4 F4
  simp only [List.push_toArray] at N9
  have g1 : ∀ q ∈ scLed w x dx bl wt cp t vo f.ln bs ws caps n1 n2 n3 (B9 ++ (W9 ++ R9)), q.1 ≠ D := fun q hq => Nat.ne_of_lt (allLt_mem (l := scLed w x dx bl wt cp t vo f.ln bs ws caps n1 n2 n3 (B9 ++ (W9 ++ R9))) l8 q hq)
  have g2 : ∀ q ∈ (D, oD) :: scLed w x dx bl wt cp t vo f.ln bs ws caps n1 n2 n3 (B9 ++ (W9 ++ R9)), q.1 ≠ D2 := fun q hq => Nat.ne_of_lt (allLt_mem (l := (D, oD) :: scLed w x dx bl wt cp t vo f.ln bs ws caps n1 n2 n3 (B9 ++ (W9 ++ R9))) l9 q hq)
  have N8 : News G L h4 (scLed w x dx bl wt cp t vo f.ln (bs ++ [.ref D]) (ws ++ [.ref D2]) caps (n1 + 1) (n2 + 1) n3 (((D, oD) :: B9) ++ (((D2, lstO [] 0) :: ([] ++ W9)) ++ R9))) :=
    news_sub N9 (mem_enter (F := scLed w x dx bl wt cp t vo f.ln (bs ++ [.ref D]) (ws ++ [.ref D2]) caps (n1 + 1) (n2 + 1) n3 []))
  have nd8 : ND (scLed w x dx bl wt cp t vo f.ln (bs ++ [.ref D]) (ws ++ [.ref D2]) caps (n1 + 1) (n2 + 1) n3 (((D, oD) :: B9) ++ (((D2, lstO [] 0) :: ([] ++ W9)) ++ R9))) :=
    ND.keys (l := scLed w x dx bl wt cp t vo f.ln bs ws caps n1 n2 n3 (((D, oD) :: B9) ++ (((D2, lstO [] 0) :: ([] ++ W9)) ++ R9))) rfl (nd_enter (F := scLed w x dx bl wt cp t vo f.ln bs ws caps n1 n2 n3 []) nd g1 g2)
  exact hret .next _ _ _ _ F4 N8 ⟨⟨x, dx, bl, wt, cp, t, vo, _, _, caps, _, _, n3, kv0, _, _, R9, rfl, rfl, ⟨D, oD, B9, bs, rfl, rfl, ⟨[], hd9, RelB.nil⟩, hlo, hB⟩, ⟨D2, 0, [], [], W9, ws, rfl, rfl, ⟨rfl, rfl⟩, hW⟩, hR⟩, nd8⟩
local macro_rules | `(tactic| walk_at "call builtin:list.pop") => `(tactic| (refine Halt.out ?_))
theorem leave_block {G : Heap} {p9 : Vis × Vis} {lv : List (Vis × Vis)} {ln : Lin} {σ : List Fm} {v : Value} {ch : Led} (hc : Chain w (⟨p9 :: lv, ln⟩ :: σ) v ch) (hlen : lv.length ≤ 10000) :
    Triple w mean mg mb G 126 [v] 1 ch (fun r ch' => Chain w (⟨lv, ln⟩ :: σ) v ch') No := by
  obtain ⟨⟨x, dx, bl, wt, cp, t, vo, bs, ws, caps, n1, n2, n3, kv0, B9, W9, R9, rfl, rfl, hB, hW, hR⟩, nd⟩ := hc
  have nd' := nd
  obtain ⟨⟨e1, e2, e3, e4, r1⟩, ⟨e5, e6, e7, r2⟩, ⟨e8, e9, r3⟩, ⟨e10, r4⟩, r5, nd0⟩ := nd5 nd'
  clear nd'
  simp only [BlksAre] at hB
  simp only [WaitsAre] at hW
  obtain ⟨b, o, B8, bs', rfl, rfl, hb, hblo, hB⟩ := hB
  obtain ⟨a, n, vs, T8, W8, ws', rfl, rfl, hT, hW⟩ := hW
  show Triple _ _ _ _ _ _ _ _ _ _ _
  refine' enter (binds := [("scope", .ref x)]) ?k6 ?k7 ?k9 ?kB ?_ ?kn ?c5 ?c2 ?c3 ?c4
  case k6 => k_is
  case k7 => k_is
  case k9 => exact rfl
  case kB => exact locs rfl
  case kn => first | lia | (simp only [htP, htT, htS, htB]; lia)
  case c5 => decide
  case c2 => exact rfl
  case c3 => exact rfl
  case c4 => exact rfl
  k_whole
  intro dp un gd frs base A₀ s L h₁ tk₁ Qb Eb B X T hdp hun F N hlt hret hexc hown
  (try dsimp only at F)
  k_steps
  refine Halt.mk ?_
  refine pop_last (xs := bs') (v := .ref b) (n := n1) (by assumption) (by assumption) (by k_upd) (by rw [hB.len]; lia) ?_
  intro h2 F2 N2
  clear N F
  k_steps
  refine Halt.mk ?_
  refine pop_last (xs := ws') (v := .ref a) (n := n2) F2 N2 (by k_upd) (by rw [hW.len]; lia) ?_
  intro h3 F3 N3
  clear N2 F2
  k_steps
  have N8 : News G L h3 (scLed w x dx bl wt cp t vo ln bs' ws' caps (n1 + 1) (n2 + 1) n3 (B8 ++ (W8 ++ R9))) := news_sub N3 (sub_leave (F := scLed w x dx bl wt cp t vo ln bs' ws' caps (n1 + 1) (n2 + 1) n3 [])).subset
  have nd8 : ND (scLed w x dx bl wt cp t vo ln bs' ws' caps (n1 + 1) (n2 + 1) n3 (B8 ++ (W8 ++ R9))) := ND.keys (l := scLed w x dx bl wt cp t vo ln (bs' ++ [.ref b]) (ws' ++ [.ref a]) caps n1 n2 n3 (B8 ++ (W8 ++ R9))) rfl (nd.sub (sub_leave (F := scLed w x dx bl wt cp t vo ln (bs' ++ [.ref b]) (ws' ++ [.ref a]) caps n1 n2 n3 [])))
  exact hret .next _ _ _ _ F3 N8 ⟨⟨x, dx, bl, wt, cp, t, vo, _, _, caps, _, _, n3, kv0, B8, W8, R9, rfl, rfl, hB, hW, hR⟩, nd8⟩
end
section
variable {w : World} {mean : ExcName → Option Value} {mg mb : Str → Option Value}
section
variable {dp un : Nat} {gd : Option (List Code)} {frs : List Env} {G : Heap} {env : Env} {elts : List PySem.Expr} {x1 : Nat} {tpos : Pos} {body : List Stmt} {Q : Flow → Shared → Prop} {E : Value → Shared → Prop}
  {m : Str → Option Value} {led : Led} {J : Nat → (Str → Option Value) → Led → Prop} {s : Shared}
theorem for_at_listTS {l : Addr} {items : Array Value} {own : Led} (F : Fr G env.locals s.heap m) (N : News G env.locals s.heap (own ++ led)) (hl : s.heap.IsList l items) (hlo : (∃ o, G.get? l = some o) ∨ ∃ o, (l, o) ∈ own) (hJ : J 0 m led)
    (turn : ∀ I h₂ tk₂, ForTurn w dp un gd frs G env (.Tuple elts x1 tpos) body Q E I items.size (fun i v => items[i]? = some v) own J { s with heap := h₂, toks := tk₂ })
    (done : ∀ m' led' h' tk', J items.size m' led' → Fr G env.locals h' m' → News G env.locals h' (own ++ led') → Q .next { s with heap := h', toks := tk' }) :
    wpAny (model PG w) (arn dp un gd frs) (pyIter (.ref l)) (fun it s₂ => (∃ h₂ tk₂, s₂ = { s with heap := h₂, toks := tk₂ }) ∧ ForAt w dp un gd frs G env (.Tuple elts x1 tpos) body Q E it s₂) E s := by
  refine wpAny_pyIter_list hl ?_
  generalize hI : s.heap.objs.size = I
  generalize hh : s.heap.push { cls := .type "list_iterator", data := .fields #[.ref l, .int 0 0] } = h₂
  have up : ∀ b o, s.heap.get? b = some o → h₂.get? b = some o := fun b o e => by rw [← hh]; exact Heap.get?_push_of_some _ e
  have hlt : ∀ b o, s.heap.get? b = some o → b ≠ I := fun b o e q => absurd (Heap.lt_size e) (by rw [hI, q]; exact Nat.lt_irrefl _)
  refine cps fun k_ => ?_
  obtain ⟨oL, es, ep, hL, hr'⟩ := F.ns
  apply k_
  clear k_
  refine cps fun k_ => ?_
  obtain ⟨ol, hol, _⟩ := id hl
  apply k_
  clear k_
  refine ⟨⟨h₂, s.toks, rfl⟩, I, [I, l], items.size, _, _, m, own, led, J, rfl, (fun i h tk v Q' E' hi st hq => by cases v <;> first | exact wpAny_letOwnedTupleGo_listiter st.1 hq | exact wpAny_pure hq), Walks.list rfl I l (hlt _ _ hol) items, ⟨⟨_, by rw [← hh, ← hI]; exact Heap.get?_push_size _ rfl, rfl, rfl⟩, hl.at fun o e => up _ _ e⟩,
    fun i h st => let ⟨o, ho, _⟩ := st.1; ⟨o, ho⟩, ⟨⟨oL, es, ep, up _ _ hL, hr'⟩, fun b o e => up b o (F.keep b o e), F.above⟩, fun p hp => ⟨up _ _ (N p hp).1, (N p hp).2⟩, ?_, (hlt _ _ hL).symm, fun p hp => hlt _ _ (N p hp).1,
    fun b hb => ?_, hJ, (turn I h₂ s.toks).raw, fun m' led' h' tk' a b c => done m' led' h' tk' a b c⟩
  · cases q : G.get? I with
    | none => rfl
    | some o => exact absurd rfl (hlt _ _ (F.keep _ _ q))
  · rcases List.mem_cons.mp hb with q | hb
    · exact .inl q
    · rw [List.mem_singleton.mp hb]; exact .inr hlo
theorem for_at_listT {hp : Heap} {tk₀ : Nat} {l : Addr} {items : Array Value} {own : Led} (F : Fr G env.locals hp m) (N : News G env.locals hp (own ++ led)) (hl : hp.IsList l items) (hlo : (∃ o, G.get? l = some o) ∨ ∃ o, (l, o) ∈ own) (hJ : J 0 m led)
    (turn : ∀ I h₂ tk₂, ForTurn w dp un gd frs G env (.Tuple elts x1 tpos) body Q E I items.size (fun i v => items[i]? = some v) own J { s with heap := h₂, toks := tk₂ })
    (done : ∀ m' led' h' tk', J items.size m' led' → Fr G env.locals h' m' → News G env.locals h' (own ++ led') → Q .next { s with heap := h', toks := tk' }) :
    wpAny (model PG w) (arn dp un gd frs) (pyIter (.ref l)) (fun it s₂ => (∃ h₂ tk₂, s₂ = { s with heap := h₂, toks := tk₂ }) ∧ ForAt w dp un gd frs G env (.Tuple elts x1 tpos) body Q E it s₂) E { s with heap := hp, toks := tk₀ } := for_at_listTS (s := { s with heap := hp, toks := tk₀ }) F N hl hlo hJ turn done
end
end
local macro_rules | `(tactic| walk_at "exec For Tuple Subscript cons nil") => `(tactic| (refine Halt.out ?_))
section
local macro_rules | `(tactic| walk_at "subscriptTail") => `(tactic| refine halt_s1 ?_)
local macro_rules | `(tactic| walk_at "setItem ref str") => `(tactic| refine halt_i1 ?_)
local macro_rules | `(tactic| walk_at "setItem ref int") => `(tactic| refine halt_i2 ?_)
theorem TupsAre.get : ∀ {wt : Vis} {T : Led} {vs : List Value} {i : Nat} {v : Value}, TupsAre wt T vs → vs[i]? = some v → ∃ a t k my pl, v = .ref a ∧ (a, tupO [.str k t, pl]) ∈ T ∧ IsPl my pl ∧ k ∈ allKeys ∧ wt.reverse[i]? = some (k, my)
  | [], T, vs, i, v, h, g => by obtain ⟨rfl, rfl⟩ := h; simp at g
  | (k, my) :: r, T, vs, i, v, h, g => by
    obtain ⟨a, t, pl, T', vs', rfl, rfl, hp, hk, h'⟩ := h
    rw [List.reverse_cons]
    have hl := h'.len
    by_cases hi : i < vs'.length
    · rw [List.getElem?_append_left hi] at g
      obtain ⟨a2, t2, k2, my2, pl2, e1, e2, e3, e4, e5⟩ := TupsAre.get h' g
      exact ⟨a2, t2, k2, my2, pl2, e1, List.mem_cons_of_mem _ e2, e3, e4, by rw [List.getElem?_append_left (by rw [List.length_reverse]; lia)]; exact e5⟩
    · have he : i = vs'.length := by
        have := (List.getElem?_eq_some_iff.mp g).1
        simp at this; lia
      subst he
      rw [List.getElem?_append_right (Nat.le_refl _), Nat.sub_self] at g
      simp at g
      exact ⟨a, t, k, my, pl, g.symm, List.mem_cons_self, hp, hk, by rw [List.getElem?_append_right (by rw [List.length_reverse]; lia), List.length_reverse, hl, Nat.sub_self]; rfl⟩
theorem ND.mid {F B : Led} {p : Addr × Obj} (h : ND (F ++ p :: B)) : ∀ q ∈ F ++ B, q.1 ≠ p.1 := by
  induction F with
  | nil => exact h.cons.1
  | cons r F ih =>
    have c := h.cons
    intro q hq
    rcases List.mem_cons.mp hq with rfl | hq
    · exact (c.1 p (List.mem_append_right _ List.mem_cons_self)).symm
    · exact ih c.2 q hq
theorem mem_rot {i b : Addr × Obj} {F : Led} : ∀ p ∈ b :: i :: F, p ∈ i :: (F ++ [b]) := fun p hp => by
  simp only [List.mem_append, List.mem_cons, List.not_mem_nil, or_false] at hp ⊢
  rcases hp with hp | hp | hp <;> simp only [hp, true_or, or_true]
theorem mem_rot' {i b : Addr × Obj} {F : Led} : ∀ p ∈ i :: (F ++ [b]), p ∈ b :: i :: F := fun p hp => by
  simp only [List.mem_append, List.mem_cons, List.not_mem_nil, or_false] at hp ⊢
  rcases hp with hp | hp | hp <;> simp only [hp, true_or, or_true]
theorem nd_intro {F B T W R : Led} {b b' a D : Addr × Obj} (h : ND (F ++ ((b :: B) ++ ((a :: (T ++ W)) ++ R)))) (hb : b'.1 = b.1) (hD : ∀ q ∈ (F ++ (B ++ ((a :: (T ++ W)) ++ R))) ++ [b'], q.1 ≠ D.1) : ND (F ++ ((b' :: B) ++ ((D :: W) ++ R))) := by
  have s1 : List.Sublist (F ++ ((b :: B) ++ (W ++ R))) (F ++ ((b :: B) ++ ((a :: (T ++ W)) ++ R))) :=
    List.Sublist.append (List.Sublist.refl _) (List.Sublist.append (List.Sublist.refl _) (List.Sublist.append ((List.sublist_append_right _ _).cons _) (List.Sublist.refl _)))
  have h2 : ND (F ++ ((b' :: B) ++ (W ++ R))) := ND.keys (l := F ++ ((b :: B) ++ (W ++ R))) (by simp [hb]) (h.sub s1)
  have e : F ++ ((b' :: B) ++ (W ++ R)) = (F ++ (b' :: B)) ++ (W ++ R) := by simp only [List.append_assoc]
  rw [e] at h2
  have b := ND.insert (p := D) h2 fun q hq => hD q (by
    simp only [List.mem_append, List.mem_cons, List.not_mem_nil, or_false] at hq ⊢
    rcases hq with (hq | hq | hq) | hq | hq <;> simp only [hq, true_or, or_true])
  have e2 : (F ++ (b' :: B)) ++ D :: (W ++ R) = F ++ ((b' :: B) ++ ((D :: W) ++ R)) := by simp only [List.append_assoc, List.cons_append]
  rw [e2] at b
  exact b
theorem mem_intro {F B T W R : Led} {b a D : Addr × Obj} : ∀ p ∈ F ++ ((b :: B) ++ ((D :: W) ++ R)), p ∈ D :: (F ++ ((B ++ ((a :: (T ++ W)) ++ R)) ++ [b])) := fun p hp => by
  simp only [List.mem_append, List.mem_cons, List.not_mem_nil, or_false] at hp ⊢
  rcases hp with hp | (hp | hp) | (hp | hp) | hp <;> simp only [hp, true_or, or_true]
theorem mem_out {F B Z : Led} {b : Addr × Obj} : ∀ p ∈ (F ++ (B ++ Z)) ++ [b], p ∈ F ++ ((b :: B) ++ Z) := fun p hp => by
  simp only [List.mem_append, List.mem_cons, List.not_mem_nil, or_false] at hp ⊢
  rcases hp with (hp | hp | hp) | hp <;> simp only [hp, true_or, or_true]
section
variable {w : World} {mean : ExcName → Option Value} {mg mb : Str → Option Value}
theorem introduce {G : Heap} {a0 w0 : Vis} {lv : List (Vis × Vis)} {ln : Lin} {σ : List Fm} {v : Value} {ch : Led} (hc : Chain w (⟨(a0, w0) :: lv, ln⟩ :: σ) v ch) (hlen : lv.length ≤ 10000) (hw0 : w0.length ≤ 1000) :
    Triple w mean mg mb G 133 [v] 1 ch (fun r ch' => Chain w (⟨(w0 ++ a0, []) :: lv, ln⟩ :: σ) v ch') No := by
  obtain ⟨⟨x, dx, bl, wt, cp, t, vo, bs, ws, caps, n1, n2, n3, kv0, B9, W9, R9, rfl, rfl, hB, hW, hR⟩, nd⟩ := hc
  have nd' := nd
  obtain ⟨⟨e1, e2, e3, e4, r1⟩, ⟨e5, e6, e7, r2⟩, ⟨e8, e9, r3⟩, ⟨e10, r4⟩, r5, nd0⟩ := nd5 nd'
  clear nd'
  simp only [BlksAre] at hB
  simp only [WaitsAre] at hW
  obtain ⟨b, o, B8, bs', rfl, rfl, hb, hblo, hB⟩ := hB
  obtain ⟨a, n, vs, T8, W8, ws', rfl, rfl, hT8, hW⟩ := hW
  show Triple _ _ _ _ _ _ _ _ _ _ _
  refine' enter (binds := [("scope", .ref x)]) ?k6 ?k7 ?k9 ?kB ?_ ?kn ?c5 ?c2 ?c3 ?c4
  case k6 => k_is
  case k7 => k_is
  case k9 => exact rfl
  case kB => exact locs rfl
  case kn => first | lia | (simp only [htP, htT, htS, htB]; lia)
  case c5 => decide
  case c2 => exact rfl
  case c3 => exact rfl
  case c4 => exact rfl
  k_whole
  intro dp un gd frs base A₀ s L h₁ tk₁ Qb Eb B X T hdp hun F N hlt hret hexc hown
  (try dsimp only at F)
  k_steps
  refine Halt.mk ?_
  refine forK (G := G) hown ?_
  k_steps
  refine Halt.mk ?_
  rename News _ _ _ _ => N9
  refine last_item (xs := ws') (v := .ref a) (isList_of (N9 (wt, lstO (ws' ++ [Value.ref a]) n2) (by k_mem)).1) (by rw [hW.len]; lia) ?_
  k_steps
  (try dsimp only [kRe, kS])
  rename Fr _ _ _ _ => F9
  have hnb := nd
  have hnb2 := ND.mid (F := scLed w x dx bl wt cp t vo ln (bs' ++ [Value.ref b]) (ws' ++ [Value.ref a]) caps n1 n2 n3 []) hnb
  refine for_at_listT (items := vs.toArray) (own := scLed w x dx bl wt cp t vo ln (bs' ++ [Value.ref b]) (ws' ++ [Value.ref a]) caps n1 n2 n3 (B8 ++ (((a, lstO vs n) :: (T8 ++ W8)) ++ R9))) (led := [(b, o)])
    (J := fun i m₁ led₁ => ∃ o₁, led₁ = [(b, o₁)] ∧ m₁ (Str.ofString "scope") = some (.ref x) ∧ BlkV w o₁ ((w0.reverse.take i).reverse ++ a0))
    F9 (news_sub N9 (mem_out (F := scLed w x dx bl wt cp t vo ln (bs' ++ [Value.ref b]) (ws' ++ [Value.ref a]) caps n1 n2 n3 []))) (isList_of (N9 (a, lstO vs n) (by k_mem)).1) (.inr ⟨_, by k_mem⟩) ⟨o, rfl, rfl, hb⟩ ?_ ?_
  · intro I h₂ tk₂ i v h tk m₁ led₁ oI hi hP hJ F₁ N₁ hneI R hR
    obtain ⟨o₁, rfl, hm1, hb₁⟩ := hJ
    obtain ⟨a1, t1, k1, my1, pl1, rfl, hmT, hpl, hk1, hrev⟩ := TupsAre.get hT8 (show vs[i]? = some v by simpa using hP)
    have hIb : @Ne Nat I b := (hneI (b, o₁) (by simp)).symm
    have hmo : (a1, tupO [.str k1 t1, pl1]) ∈ (I, oI) :: (scLed w x dx bl wt cp t vo ln (bs' ++ [Value.ref b]) (ws' ++ [Value.ref a]) caps n1 n2 n3 (B8 ++ (((a, lstO vs n) :: (T8 ++ W8)) ++ R9)) ++ [(b, o₁)]) := by
      refine List.mem_cons_of_mem _ (List.mem_append_left _ ?_)
      refine List.mem_append_right (scLed w x dx bl wt cp t vo ln (bs' ++ [Value.ref b]) (ws' ++ [Value.ref a]) caps n1 n2 n3 []) (List.mem_append_right _ (List.mem_append_left _ (List.mem_cons_of_mem _ (List.mem_append_left _ hmT))))
    refine unpackN_ F₁ N₁ ⟨_, (N₁ _ hmo).1, rfl, _, rfl⟩ rfl rfl rfl ?_
    intro h₃ F₃ N₃
    show wpAny _ _ (assignInOrder [_, _] [_, _]) _ _ _
    refine assignInOrder_cons ?_
    refine wpAny_assign_Name (wpAny_storeName_local rfl F₃.ns (fun h₄ hn₄ hs₄ => ?_) rfl)
    have F₄ := F₃.set hn₄ hs₄
    have N₄ := N₃.set hs₄
    refine assignInOrder_cons ?_
    refine wpAny_assign_Name (wpAny_storeName_local rfl F₄.ns (fun h₅ hn₅ hs₅ => ?_) rfl)
    have F₅ := F₄.set hn₅ hs₅
    have N₅ := N₄.set hs₅
    refine assignInOrder_nil ?_
    (try dsimp only at F₅ N₅)
    replace F₅ := fr_name F₅ (x := Str.ofString "scope") (v := .ref x) (by rw [if_neg (by decide), if_neg (by decide)]; exact hm1)
    have N₆ : News G L h₅ ((b, o₁) :: (I, oI) :: scLed w x dx bl wt cp t vo ln (bs' ++ [Value.ref b]) (ws' ++ [Value.ref a]) caps n1 n2 n3 (B8 ++ (((a, lstO vs n) :: (T8 ++ W8)) ++ R9))) := news_sub N₅ mem_rot
    have hne9 : ∀ p ∈ (I, oI) :: scLed w x dx bl wt cp t vo ln (bs' ++ [Value.ref b]) (ws' ++ [Value.ref a]) caps n1 n2 n3 (B8 ++ (((a, lstO vs n) :: (T8 ++ W8)) ++ R9)), p.1 ≠ b := fun p hp => by
      rcases List.mem_cons.mp hp with rfl | hp
      · exact hIb
      · exact hnb2 p hp
    clear F₁ N₁ F₃ N₃ F₄ N₄ N₅ hn₄ hs₄ hn₅ hs₅ F9 N9 hmo
    k_steps
    refine Halt.mk ?_
    rename News _ _ _ _ => N9
    refine last_item (xs := bs') (v := .ref b) (isList_of (N9 (bl, lstO (bs' ++ [Value.ref b]) n1) (by k_mem)).1) (by rw [hB.len]; lia) ?_
    k_steps
    refine Halt.mk ?_
    obtain ⟨kvs, hd, hr, hl⟩ := hb₁.len
    refine set_kvs (by assumption) N9 hd (UpdF.head hne9) (by lia) ?_
    intro h₆ o₆ F₆ N₆ hd₆
    clear N9
    k_steps
    refine hR _ _ ⟨_, [(b, o₆)], _, _, rfl, F₆, news_sub N₆ mem_rot', ?_, o₆, rfl, rfl, ⟨_, hd₆, ?_⟩⟩
    · intro p hp; rw [List.mem_singleton.mp hp]; exact hIb.symm
    · rw [List.take_add_one, hrev]
      simp only [Option.toList, List.reverse_append, List.reverse_cons, List.reverse_nil, List.nil_append, List.cons_append]
      exact hr.stored hk1 hpl
  · intro m' led' h' tk' hJ F' N'
    obtain ⟨o₁, rfl, hm1, hb₁⟩ := hJ
    rw [show vs.toArray.size = w0.reverse.length by rw [List.size_toArray, List.length_reverse, hT8.len], List.take_length, List.reverse_reverse] at hb₁
    replace F' := fr_name F' (x := Str.ofString "scope") (v := .ref x) hm1
    replace N' : News G L h' (scLed w x dx bl wt cp t vo ln (bs' ++ [Value.ref b]) (ws' ++ [Value.ref a]) caps n1 n2 n3 (B8 ++ (((a, lstO vs n) :: (T8 ++ W8)) ++ R9)) ++ [(b, o₁)]) := N'
    clear F9 N9
    k_steps
    rename_i D h2 F2 N2 l9
    refine Halt.mk ?_
    have N3 : News G L h2 ((D, lstO [] 0) :: scLed w x dx bl wt cp t vo ln (bs' ++ [Value.ref b]) (ws' ++ [Value.ref a]) caps n1 n2 n3 ((B8 ++ (((a, lstO vs n) :: (T8 ++ W8)) ++ R9)) ++ [(b, o₁)])) := N2
    have hDwt : @Ne Nat D wt := (Nat.ne_of_lt (l9 (wt, lstO (ws' ++ [Value.ref a]) n2) (List.mem_append_left _ (by k_mem)))).symm
    have hrest : ∀ p ∈ (cp, lstO caps n3) :: ((B8 ++ (((a, lstO vs n) :: (T8 ++ W8)) ++ R9)) ++ [(b, o₁)]), p.1 ≠ wt := fun p hp => by
      rcases List.mem_cons.mp hp with rfl | hp
      · exact e10
      · rcases List.mem_append.mp hp with hp | hp
        · exact r4 p (List.mem_cons_of_mem _ hp)
        · rw [List.mem_singleton.mp hp]; exact r4 (b, o) List.mem_cons_self
    refine setItem_last (xs := ws') (v := .ref a) (u := .ref D) (n := n2) F2 N3 (Upd.tail hDwt (Upd.tail e3.symm (Upd.tail e6.symm (Upd.tail e8.symm (Upd.head hrest))))) (by rw [hW.len]; lia) ?_
    intro h3 F3 N4
    clear N2 N3 F2
    k_steps
    have N8 : News G L h3 (scLed w x dx bl wt cp t vo ln (bs' ++ [Value.ref b]) (ws' ++ [Value.ref D]) caps n1 n2 n3 (((b, o₁) :: B8) ++ (((D, lstO [] 0) :: ([] ++ W8)) ++ R9))) := news_sub N4 (mem_intro (F := scLed w x dx bl wt cp t vo ln (bs' ++ [Value.ref b]) (ws' ++ [Value.ref D]) caps n1 n2 n3 []))
    have nd8 : ND (scLed w x dx bl wt cp t vo ln (bs' ++ [Value.ref b]) (ws' ++ [Value.ref D]) caps n1 n2 n3 (((b, o₁) :: B8) ++ (((D, lstO [] 0) :: ([] ++ W8)) ++ R9))) := ND.keys (l := scLed w x dx bl wt cp t vo ln (bs' ++ [Value.ref b]) (ws' ++ [Value.ref a]) caps n1 n2 n3 (((b, o₁) :: B8) ++ (((D, lstO [] 0) :: ([] ++ W8)) ++ R9))) rfl
      (nd_intro (F := scLed w x dx bl wt cp t vo ln (bs' ++ [Value.ref b]) (ws' ++ [Value.ref a]) caps n1 n2 n3 []) (B := B8) (T := T8) (W := W8) (R := R9) (b := (b, o)) (b' := (b, o₁)) (a := (a, lstO vs n)) (D := (D, lstO [] 0)) hnb rfl fun q hq => Nat.ne_of_lt (l9 q hq))
    exact hret .next _ _ _ _ F3 N8 ⟨⟨x, dx, bl, wt, cp, t, vo, _, _, caps, n1, n2, n3, kv0, _, _, R9, rfl, rfl, ⟨b, o₁, B8, bs', rfl, rfl, hb₁, hblo, hB⟩, ⟨D, 0, [], [], W8, ws', rfl, rfl, ⟨rfl, rfl⟩, hW⟩, hR⟩, nd8⟩
end
end
section
local macro_rules | `(tactic| walk_at "subscriptTail") => `(tactic| refine halt_s3 ?_)
local macro_rules | `(tactic| walk_at "compareOp In") => `(tactic| refine halt_c1 ?_)
local macro_rules | `(tactic| walk_at "exec For") => `(tactic| (refine Halt.out ?_))
theorem flat_drop (lv : List (Vis × Vis)) {i : Nat} {p : Vis × Vis} (h : lv[i]? = some p) (key : Str) : ((lv.drop i).flatMap (·.1)).lookup key = (p.1.lookup key).or (((lv.drop (i + 1)).flatMap (·.1)).lookup key) := by
  rw [List.drop_eq_getElem_cons (List.getElem?_eq_some_iff.mp h).1, (List.getElem?_eq_some_iff.mp h).2, List.flatMap_cons, lookup_append]
theorem BlksAre.get {w : World} {base : Vis} {cnt : Nat} {kv0 : List (Str × Value)} : ∀ {lv : List (Vis × Vis)} {B : Led} {bs : List Value} {i : Nat} {v : Value}, BlksAre w base cnt kv0 lv B bs → bs.reverse[i]? = some v →
    ∃ b o, v = .ref b ∧ (b, o) ∈ B ∧ (b == sysModules) = false ∧ ((∃ p, lv[i]? = some p ∧ BlkV w o p.1) ∨ (i = lv.length ∧ o.IsDictOf (strKind PG w) kv0))
  | [], B, bs, i, v, h, g => by
    refine cps fun k_ => ?_
    obtain ⟨b, o, rfl, rfl, hc, hlo⟩ := h
    apply k_
    clear k_
    have hi : i = 0 := by
      have := (List.getElem?_eq_some_iff.mp g).1
      simp at this; exact this
    subst hi
    simp at g
    exact ⟨b, o, g.symm, List.mem_singleton_self _, hlo, .inr ⟨rfl, hc.1⟩⟩
  | p :: lv, B, bs, i, v, h, g => by
    refine cps fun k_ => ?_
    obtain ⟨b, o, B', bs', rfl, rfl, hb, hlo, h'⟩ := h
    apply k_
    clear k_
    rw [List.reverse_append, List.reverse_singleton, List.singleton_append] at g
    cases i with
    | zero => simp at g; exact ⟨b, o, g.symm, List.mem_cons_self, hlo, .inl ⟨p, rfl, hb⟩⟩
    | succ i =>
      rw [List.getElem?_cons_succ] at g
      refine cps fun k_ => ?_
      obtain ⟨b2, o2, e1, e2, e3, e4⟩ := BlksAre.get h' g
      apply k_
      clear k_
      refine ⟨b2, o2, e1, List.mem_cons_of_mem _ e2, e3, ?_⟩
      rcases e4 with ⟨p2, q1, q2⟩ | ⟨q1, q2⟩
      · exact .inl ⟨p2, by simpa using q1, q2⟩
      · exact .inr ⟨by simp [q1], q2⟩
section
local macro_rules | `(tactic| walk_at "no") => `(tactic| skip)
variable {w : World} {mean : ExcName → Option Value} {mg mb : Str → Option Value}
theorem slice_rev {A : Around} {E : Value → Shared → Prop} {s : Shared} {G : Heap} {L l : Addr} {m : Str → Option Value} {led : Led} {value slice : PySem.Expr} {xs : List Value} {u : Tok} {ops : List Value} {Q : Value → Shared → Prop}
    (F : Fr G L s.heap m) (N : News G L s.heap led) (hl : s.heap.IsList l xs.toArray) (hsz : xs.length ≤ 1000000)
    (h : ∀ D h', Fr G L h' m → News G L h' ((D, lstO xs.reverse 0) :: led) → (∀ p ∈ led, @LT.lt Nat _ p.1 D) → Q (.ref D) { s with heap := h' })
    (hs : subscripted slice false (.ref l) (.ref s.heap.objs.size) = operate ops (getItem (.ref l) (.ref s.heap.objs.size)) := by with_unfolding_all rfl) :
    wpAny (model PG w) A (subscriptTail value slice (.ref l) (.ref s.heap.objs.size)) Q E { s with heap := s.heap.push { cls := .type "slice", data := .fields #[.none, .none, .int (-1) u] } } := by
  refine tail_any (Heap.IsList.typeIs (s := { s with heap := s.heap.push { cls := .type "slice", data := .fields #[.none, .none, .int (-1) u] } }) (hl.push _)) slot_list_getitem.lookup
    (wpAny_getItem_list_slice (hl.push _) (Heap.IsSliceOf.new ..) .none .none (.int _ _) (by decide) ?_ (by rw [sizeLine_eq, List.size_toArray]; lia)) hs
  have N1 := News.push (F.push { cls := .type "slice", data := .fields #[.none, .none, .int (-1) u] }) (N.grown fun z9 z9 e => Heap.get?_push_of_some _ e) { cls := .type "list", data := .seq (slicePick xs.toArray none none (some (-1))) }
  rw [Heap.size_push, slicePick_rev] at N1
  rw [slicePick_rev]
  show Q (.ref (s.heap.push _).objs.size) _
  rw [Heap.size_push]
  exact h _ _ ((F.push _).push _) N1 fun p hp => Nat.lt_succ_of_lt (Heap.lt_size (N p hp).1)
def FoundIn (own : Vis) (kv0 : List (Str × Value)) (key : Str) (r : Value) : Prop :=
  (∃ my, own.lookup key = some my ∧ IsPl my r) ∨ (own.lookup key = none ∧ valueAt kv0 key = some r) ∨ (own.lookup key = none ∧ valueAt kv0 key = none ∧ r = .none)
theorem find_here {G : Heap} {x dx bl wt cp : Addr} {t : ScT} {vo : Value} {ln : Lin} {bs ws caps : List Value} {n1 n2 n3 : Nat} {B9 Z9 : Led} {base : Vis} {cnt : Nat} {kv0 : List (Str × Value)} {lv : List (Vis × Vis)} {key : Str} {tk : Tok}
    (hB : BlksAre w base cnt kv0 lv B9 bs) (hlen : lv.length ≤ 900) :
    Triple w mean mg mb G 147 [.ref x, .str key tk] 1 (scLed w x dx bl wt cp t vo ln bs ws caps n1 n2 n3 (B9 ++ Z9)) (fun r ch' => ch' = scLed w x dx bl wt cp t vo ln bs ws caps n1 n2 n3 (B9 ++ Z9) ∧ FoundIn (lv.flatMap (·.1)) kv0 key r) No := by
  show Triple _ _ _ _ _ _ _ _ _ _ _
  refine' enter (binds := [("scope", .ref x), ("key", .str key tk)]) ?k6 ?k7 ?k9 ?kB ?_ ?kn ?c5 ?c2 ?c3 ?c4
  case k6 => k_is
  case k7 => k_is
  case k9 => exact rfl
  case kB => exact locs rfl
  case kn => first | lia | (simp only [htP, htT, htS, htB]; lia)
  case c5 => decide
  case c2 => exact rfl
  case c3 => exact rfl
  case c4 => exact rfl
  k_whole
  intro dp un gd frs base A₀ s L h₁ tk₁ Qb Eb B X T hdp hun F N hlt hret hexc hown
  (try dsimp only at F)
  k_steps
  refine Halt.mk ?_
  refine forK (G := G) hown ?_
  k_steps
  refine Halt.mk ?_
  rename News _ _ _ _ => N9
  rename Fr _ _ _ _ => F9
  have hbl := isList_of (N9 (bl, lstO bs n1) (by k_mem)).1
  with_unfolding_all refine slice_rev F9 N9 hbl (by rw [hB.len]; lia) ?_ (by with_unfolding_all rfl)
  intro D h2 F2 N2 l2
  k_steps
  (try dsimp only [kRe, kS])
  refine for_at_list (items := bs.reverse.toArray) (own := (D, lstO bs.reverse 0) :: scLed w x dx bl wt cp t vo ln bs ws caps n1 n2 n3 (B9 ++ Z9)) (led := [])
    (J := fun i m₁ led₁ => led₁ = [] ∧ m₁ (Str.ofString "key") = some (.str key tk) ∧ (lv.flatMap (·.1)).lookup key = ((lv.drop i).flatMap (·.1)).lookup key ∧ (lv.length < i → valueAt kv0 key = none))
    F2 (news_nilr N2) (isList_of (N2 (D, lstO bs.reverse 0) (by k_mem)).1) (.inr ⟨_, by k_mem⟩) ⟨rfl, rfl, rfl, fun h => absurd h (Nat.not_lt_zero _)⟩ ?_ ?_
  · intro I h₂ tk₂ i v h tk3 m₁ led₁ oI hi hP hJ F₁ N₁ hneI R hR
    refine cps fun k_ => ?_
    obtain ⟨rfl, hm1, hj1, hj2⟩ := hJ
    apply k_
    clear k_
    refine cps fun k_ => ?_
    obtain ⟨b, o, rfl, hmb, hblo, hcase⟩ := BlksAre.get hB (show bs.reverse[i]? = some v by simpa using hP)
    apply k_
    clear k_
    refine wpAny_assign_Name (wpAny_storeName_local rfl F₁.ns (fun h₃ hn₃ hs₃ => ?_) rfl)
    have F₃ := F₁.set hn₃ hs₃
    replace N₁ := N₁.set hs₃
    (try dsimp only at F₃ N₁)
    replace F₃ := fr_name F₃ (x := Str.ofString "key") (v := .str key tk) (by rw [if_neg (by decide)]; exact hm1)
    have hmb' : (b, o) ∈ (I, oI) :: ((D, lstO bs.reverse 0) :: scLed w x dx bl wt cp t vo ln bs ws caps n1 n2 n3 (B9 ++ Z9) ++ []) :=
      List.mem_cons_of_mem _ (List.mem_append_left _ (List.mem_cons_of_mem _ (List.mem_append_right (scLed w x dx bl wt cp t vo ln bs ws caps n1 n2 n3 []) (List.mem_append_left _ hmb))))
    clear F₁ hn₃ hs₃ F9 N9
    have hkv : ∃ kv, o.IsDictOf (strKind PG w) kv ∧ ((valueAt kv key = none ∧ ((lv.flatMap (·.1)).lookup key = ((lv.drop (i + 1)).flatMap (·.1)).lookup key ∧ (lv.length < i + 1 → valueAt kv0 key = none))) ∨ ∃ r, valueAt kv key = some r ∧ FoundIn (lv.flatMap (·.1)) kv0 key r) := by
      rcases hcase with ⟨p, hp, kv, hd, hr⟩ | ⟨rfl, hd⟩
      · refine ⟨kv, hd, ?_⟩
        rw [flat_drop lv hp] at hj1
        have hr2 := hr.2 key
        cases hl : p.1.lookup key with
        | none => rw [hl] at hr2 hj1; refine .inl ⟨hr2, by simpa using hj1, fun hh => ?_⟩; have := (List.getElem?_eq_some_iff.mp hp).1; lia
        | some my => rw [hl] at hr2 hj1; obtain ⟨r, h1, h2⟩ := hr2; exact .inr ⟨r, h1, .inl ⟨my, by simpa using hj1, h2⟩⟩
      · refine ⟨kv0, hd, ?_⟩
        rw [List.drop_eq_nil_of_le (Nat.le_refl _)] at hj1
        cases hv : valueAt kv0 key with
        | none => refine .inl ⟨rfl, by rw [hj1, List.drop_eq_nil_of_le (by lia)], fun z9 => rfl⟩
        | some r => exact .inr ⟨r, rfl, .inr (.inl ⟨by rw [hj1]; rfl, hv⟩)⟩
    refine cps fun k_ => ?_
    obtain ⟨kv, hd, hkv⟩ := hkv
    apply k_
    clear k_
    k_steps
    refine Halt.mk ?_
    rename News _ _ _ _ => N9
    refine in_kvs (N9 _ hmb').1 hd hblo ?_
    rcases hkv with ⟨hv, hj⟩ | ⟨r, hv, hf⟩
    · rw [hv, Option.isSome_none]
      k_steps
      rename Fr _ _ _ _ => F9
      rename News _ _ _ _ => N8
      exact hR _ _ ⟨_, [], _, _, rfl, F9, N8, (fun z9 h => nomatch h), rfl, rfl, hj.1, hj.2⟩
    · rw [hv, Option.isSome_some]
      k_steps
      refine Halt.mk ?_
      rename News _ _ _ _ => N8
      refine item_kvs (N8 _ hmb').1 hd hv ?_
      k_steps
      exact hR.ret (hret (.ret r) _ _ _ _ (by assumption) (news_sub N8 fun p hp => List.mem_cons_of_mem _ (List.mem_append_left _ (List.mem_cons_of_mem _ hp))) ⟨rfl, hf⟩)
  · intro m' led' h' tk' hJ F' N'
    refine cps fun k_ => ?_
    obtain ⟨rfl, hm1, hj1, hj2⟩ := hJ
    apply k_
    clear k_
    have hsz : bs.reverse.toArray.size = lv.length + 1 := by rw [List.size_toArray, List.length_reverse, hB.len]
    rw [hsz] at hj1 hj2
    rw [List.drop_eq_nil_of_le (by lia)] at hj1
    k_steps
    exact hret (.ret .none) _ _ _ _ F' (news_sub N' fun p hp => List.mem_append_left _ (List.mem_cons_of_mem _ hp)) ⟨rfl, .inr (.inr ⟨by rw [hj1]; rfl, hj2 (by lia), rfl⟩)⟩
end
end
section
local macro_rules | `(tactic| walk_at "subscriptTail") => `(tactic| refine halt_s3 ?_)
local macro_rules | `(tactic| walk_at "setItem ref str") => `(tactic| (refine Halt.out ?_))
theorem BlksAre.base {w : World} {base : Vis} {cnt : Nat} {kv0 : List (Str × Value)} : ∀ {lv : List (Vis × Vis)} {B : Led} {bs : List Value}, BlksAre w base cnt kv0 lv B bs →
    ∃ b0 o0 B' bs', B = B' ++ [(b0, o0)] ∧ bs = .ref b0 :: bs' ∧ CapV w o0 base cnt kv0 ∧ (b0 == sysModules) = false ∧ ∀ o' cnt' kv', CapV w o' base cnt' kv' → BlksAre w base cnt' kv' lv (B' ++ [(b0, o')]) bs
  | [], B, bs, h => by
    obtain ⟨b, o, rfl, rfl, hc, hlo⟩ := h
    exact ⟨b, o, [], [], rfl, rfl, hc, hlo, fun o' cnt' kv' hc' => ⟨b, o', rfl, rfl, hc', hlo⟩⟩
  | p :: lv, B, bs, h => by
    obtain ⟨b, o, B1, bs1, rfl, rfl, hb, hlo, h'⟩ := h
    obtain ⟨b0, o0, B', bs', rfl, rfl, hc, hlo0, hall⟩ := BlksAre.base h'
    exact ⟨b0, o0, (b, o) :: B', bs' ++ [.ref b], rfl, rfl, hc, hlo0, fun o' cnt' kv' hc' => ⟨b, o, _, _, rfl, rfl, hb, hlo, hall o' cnt' kv' hc'⟩⟩
theorem stored_len {kvs : List (Str × Value)} {k : Str} {v : Value} (h : valueAt kvs k = none) : (stored kvs k v).length = kvs.length + 1 := by
  unfold stored
  rw [if_neg]
  · simp
  · intro ha
    obtain ⟨p, hp, hk⟩ := List.any_eq_true.mp ha
    have : (kvs.find? fun p => decide (p.1 = k)).isSome := List.find?_isSome.mpr ⟨p, hp, hk⟩
    unfold valueAt at h
    rw [Option.map_eq_none_iff] at h
    rw [h] at this
    exact absurd this (by decide)
theorem CapV.put {w : World} {o' : Obj} {base : Vis} {cnt : Nat} {kvs : List (Str × Value)} {k : Str} {n : Int} {tk : Tok} (hk : k ∈ allKeys) (hK : ∀ x ∈ kvs.map (·.1), x ∈ allKeys) (hc : cnt ≤ kvs.length) (hv : ∀ k v, valueAt kvs k = some v → (∃ n tk, v = .int n tk) ∧ base.lookup k = some true)
    (h : o'.IsDictOf (strKind PG w) (stored kvs k (.int n tk))) (hn : valueAt kvs k = none) (hb : base.lookup k = some true) : CapV w o' base (cnt + 1) (stored kvs k (.int n tk)) := by
  refine ⟨h, keys_stored hK hk, by rw [stored_len hn]; lia, fun k' v' hv' => ?_⟩
  rw [valueAt_stored] at hv'
  split at hv'
  · next e => cases hv'; exact ⟨⟨n, tk, rfl⟩, e ▸ hb⟩
  · exact hv k' v' hv'
theorem nd_drop {F B W R : Led} (h : ND (F ++ (B ++ (W ++ R)))) : ND (F ++ (B ++ W)) := h.sub (List.Sublist.append (List.Sublist.refl _) (List.Sublist.append (List.Sublist.refl _) (List.sublist_append_left _ _)))
theorem apart_split3 {F B W R : Led} (h : ND (F ++ (B ++ (W ++ R)))) : Apart R (F ++ (B ++ W)) := by
  have e : F ++ (B ++ (W ++ R)) = (F ++ (B ++ W)) ++ R := by simp only [List.append_assoc]
  rw [e] at h
  exact h.apart.symm
theorem nd_join {F B W R : Led} (h : ND (F ++ (B ++ W))) (hR : ND R) (ap : Apart R (F ++ (B ++ W))) : ND (F ++ (B ++ (W ++ R))) := by
  have e : F ++ (B ++ (W ++ R)) = (F ++ (B ++ W)) ++ R := by simp only [List.append_assoc]
  rw [e]
  exact h.append hR ap.symm
theorem mem_split3 {F B W R : Led} : ∀ p ∈ R ++ (F ++ (B ++ W)), p ∈ F ++ (B ++ (W ++ R)) := fun p hp => by
  simp only [List.mem_append] at hp ⊢
  rcases hp with hp | hp | hp | hp <;> simp only [hp, true_or, or_true]
theorem mem_split3' {F B W R : Led} : ∀ p ∈ F ++ (B ++ (W ++ R)), p ∈ R ++ (F ++ (B ++ W)) := fun p hp => by
  simp only [List.mem_append] at hp ⊢
  rcases hp with hp | hp | hp | hp <;> simp only [hp, true_or, or_true]
theorem mem_b0 {F B Z : Led} {b T : Addr × Obj} : ∀ p ∈ b :: (F ++ (B ++ Z)), p ∈ T :: (F ++ ((B ++ [b]) ++ Z)) := fun p hp => by
  simp only [List.mem_append, List.mem_cons, List.not_mem_nil, or_false] at hp ⊢
  rcases hp with hp | hp | hp | hp <;> simp only [hp, true_or, or_true]
theorem mem_b0' {F B Z : Led} {b : Addr × Obj} : ∀ p ∈ F ++ ((B ++ [b]) ++ Z), p ∈ b :: (F ++ (B ++ Z)) := fun p hp => by
  simp only [List.mem_append, List.mem_cons, List.not_mem_nil, or_false] at hp ⊢
  rcases hp with hp | (hp | hp) | hp <;> simp only [hp, true_or, or_true]
theorem nd_b0 {F B Z : Led} {b : Addr × Obj} (h : ND (F ++ ((B ++ [b]) ++ Z))) : ∀ p ∈ F ++ (B ++ Z), p.1 ≠ b.1 := by
  have e : F ++ ((B ++ [b]) ++ Z) = (F ++ B) ++ b :: Z := by simp only [List.append_assoc, List.cons_append, List.nil_append]
  rw [e] at h
  have := h.mid
  rw [List.append_assoc] at this
  exact this
theorem key_pos : ∀ k ∈ allKeys, 1 ≤ k.length := by decide +kernel
def FoundV (ob : Option Bool) (r : Value) : Prop := match ob with
  | none => r = .none
  | some my => IsPl my r
theorem item0_led {w : World} {A : Around} {E : Value → Shared → Prop} {s : Shared} {l : Addr} {value slice : PySem.Expr} {xs : List Value} {u : Tok} {x : Value} {Q : Value → Shared → Prop} (hL : s.heap.IsList l (List.toArray (x :: xs))) (h : Q x s)
    (hs : subscripted slice false (.ref l) (.int 0 u) = operate [.ref l, .int 0 u] (getItem (.ref l) (.int 0 u)) := by with_unfolding_all rfl) :
    wpAny (model PG w) A (subscriptTail value slice (.ref l) (.int 0 u)) Q E s :=
  tail_any hL.typeIs slot_list_getitem.lookup (wpAny_getItem_list hL (by decide) (by decide) (by simp) h) hs
section
variable {w : World} {mean : ExcName → Option Value} {mg mb : Str → Option Value}
theorem find_one {G : Heap} {f : Fm} {v : Value} {ch : Led} {key : Str} {tk : Tok} (hc : Chain w [f] v ch) (hk : key ∈ allKeys) (hlen : f.lv.length ≤ 900) :
    Triple w mean mg mb G 154 [v, .str key tk] 2 ch (fun r ch' => Chain w [f] v ch' ∧ FoundV ((visF [f]).lookup key) r) No := by
  have hc0 := hc
  obtain ⟨⟨x, dx, bl, wt, cp, t, vo, bs, ws, caps, n1, n2, n3, kv0, B9, W9, R9, rfl, rfl, hB, hW, hR⟩, nd⟩ := hc
  have nd' := nd
  obtain ⟨⟨e1, e2, e3, e4, r1⟩, ⟨e5, e6, e7, r2⟩, ⟨e8, e9, r3⟩, ⟨e10, r4⟩, r5, nd0⟩ := nd5 nd'
  clear nd'
  obtain ⟨hR, hme⟩ := hR
  simp only [ChainIs] at hR
  obtain ⟨rfl, rfl⟩ := hR
  show Triple _ _ _ _ _ _ _ _ _ _ _
  refine' enter (binds := [("scope", .ref x), ("key", .str key tk)]) ?k6 ?k7 ?k9 ?kB ?_ ?kn ?c5 ?c2 ?c3 ?c4
  case k6 => k_is
  case k7 => k_is
  case k9 => exact rfl
  case kB => exact locs rfl
  case kn => first | lia | (simp only [htP, htT, htS, htB]; lia)
  case c5 => decide
  case c2 => exact rfl
  case c3 => exact rfl
  case c4 => exact rfl
  k_whole
  intro dp un gd frs base A₀ s L h₁ tk₁ Qb Eb B X T hdp hun F N hlt hret hexc hown
  (try dsimp only at F)
  k_steps
  refine Halt.mk ?_
  refine useN (rest := []) (by assumption) (by assumption) (news_nilr (by assumption)) (by assumption) (by assumption) apart_nilr (by exact rfl) (by exact rfl) hdp hun (by first | exact Nat.lt_succ_self _ | lia) (fun G₂ st₂ rst₂ => find_here hB hlen) ?_
  intro r' ch' h' tk' F' N' A' P'
  obtain ⟨rfl, hf⟩ := P'
  replace N' := news_unnil N'
  clear A'
  have hvis : (visF [f]).lookup key = (f.lv.flatMap (·.1)).lookup key := by simp only [visF, ownV, List.append_nil]
  rcases hf with ⟨my, hl, hp⟩ | ⟨hl, hv⟩ | ⟨hl, hv, rfl⟩
  · cases my
    · obtain ⟨x9, t9, rfl⟩ := hp
      k_steps
      exact hret (.ret (.str x9 t9)) _ _ _ _ (by assumption) (by assumption) ⟨hc0, by rw [hvis, hl]; exact ⟨_, _, rfl⟩⟩
    · obtain ⟨x9, t9, rfl⟩ := hp
      k_steps
      exact hret (.ret (.int x9 t9)) _ _ _ _ (by assumption) (by assumption) ⟨hc0, by rw [hvis, hl]; exact ⟨_, _, rfl⟩⟩
  · exfalso
    obtain ⟨_, _, _, _, _, _, hcap, _, _⟩ := BlksAre.base hB
    have := (hcap.2.2.2 key r' hv).2
    simp [visF] at this
  · k_steps
    exact hret (.ret .none) _ _ _ _ (by assumption) (by assumption) ⟨hc0, by rw [hvis, hl]; rfl⟩
theorem find_more {G : Heap} {f g : Fm} {σ : List Fm} {v : Value} {ch : Led} {key : Str} {tk : Tok} {n : Nat} (hn : 1 ≤ n)
    (IH : ∀ {G : Heap} {v : Value} {ch : Led}, Chain w (g :: σ) v ch → Triple w mean mg mb G 154 [v, .str key tk] n ch (fun r ch' => Chain w (g :: σ) v ch' ∧ FoundV ((visF (g :: σ)).lookup key) r) No)
    (hc : Chain w (f :: g :: σ) v ch) (hk : key ∈ allKeys) (hlen : f.lv.length ≤ 900) :
    Triple w mean mg mb G 154 [v, .str key tk] (n + 1) ch (fun r ch' => Chain w (f :: g :: σ) v ch' ∧ FoundV ((visF (f :: g :: σ)).lookup key) r) No := by
  have hc0 := hc
  obtain ⟨⟨x, dx, bl, wt, cp, t, vo, bs, ws, caps, n1, n2, n3, kv0, B9, W9, R9, rfl, rfl, hB, hW, hR⟩, nd⟩ := hc
  have nd' := nd
  obtain ⟨⟨e1, e2, e3, e4, r1⟩, ⟨e5, e6, e7, r2⟩, ⟨e8, e9, r3⟩, ⟨e10, r4⟩, r5, nd0⟩ := nd5 nd'
  clear nd'
  obtain ⟨hR, hme⟩ := hR
  obtain ⟨y, rfl⟩ : ∃ y, vo = .ref y := by
    obtain ⟨y, _, _, _, _, _, _, _, _, _, _, _, _, _, _, _, _, h, _⟩ := hR
    exact ⟨y, h⟩
  show Triple _ _ _ _ _ _ _ _ _ _ _
  refine' enter (binds := [("scope", .ref x), ("key", .str key tk)]) ?k6 ?k7 ?k9 ?kB ?_ ?kn ?c5 ?c2 ?c3 ?c4
  case k6 => k_is
  case k7 => k_is
  case k9 => exact rfl
  case kB => exact locs rfl
  case kn => first | lia | (simp only [htP, htT, htS, htB]; lia)
  case c5 => decide
  case c2 => exact rfl
  case c3 => exact rfl
  case c4 => exact rfl
  k_whole
  intro dp un gd frs base A₀ s L h₁ tk₁ Qb Eb B X T hdp hun F N hlt hret hexc hown
  (try dsimp only at F)
  k_steps
  refine Halt.mk ?_
  refine useN (rest := []) (by assumption) (by assumption) (news_nilr (by assumption)) (by assumption) (by assumption) apart_nilr (by exact rfl) (by exact rfl) hdp hun (by first | exact Nat.lt_succ_self _ | lia) (fun G₂ st₂ rst₂ => find_here hB hlen) ?_
  intro r' ch' h' tk' F' N' A' P'
  obtain ⟨rfl, hf⟩ := P'
  replace N' := news_unnil N'
  clear A'
  have hvis : (visF (f :: g :: σ)).lookup key = ((f.lv.flatMap (·.1)).lookup key).or ((visF (g :: σ)).lookup key) := by rw [visF, ownV, lookup_append]
  rcases hf with ⟨my, hl, hp⟩ | ⟨hl, hv⟩ | ⟨hl, hv, rfl⟩
  · cases my
    · obtain ⟨x9, t9, rfl⟩ := hp
      k_steps
      exact hret (.ret (.str x9 t9)) _ _ _ _ (by assumption) (by assumption) ⟨hc0, by rw [hvis, hl]; exact ⟨_, _, rfl⟩⟩
    · obtain ⟨x9, t9, rfl⟩ := hp
      k_steps
      exact hret (.ret (.int x9 t9)) _ _ _ _ (by assumption) (by assumption) ⟨hc0, by rw [hvis, hl]; exact ⟨_, _, rfl⟩⟩
  · obtain ⟨_, _, _, _, _, _, hcap, _, _⟩ := BlksAre.base hB
    obtain ⟨⟨x9, t9, rfl⟩, hb9⟩ := hcap.2.2.2 key r' hv
    k_steps
    exact hret (.ret (.int x9 t9)) _ _ _ _ (by assumption) (by assumption) ⟨hc0, by rw [hvis, hl, hb9]; exact ⟨_, _, rfl⟩⟩
  · k_steps
    refine Halt.mk ?_
    rename News _ _ _ _ => N9
    have ndF : ND (scLed w x dx bl wt cp t (.ref y) f.ln bs ws caps n1 n2 n3 (B9 ++ W9)) := nd_drop (F := scLed w x dx bl wt cp t (.ref y) f.ln bs ws caps n1 n2 n3 []) nd
    refine use (ch := R9) (rest := scLed w x dx bl wt cp t (.ref y) f.ln bs ws caps n1 n2 n3 (B9 ++ W9)) (by assumption) (by assumption) (news_sub N9 (mem_split3 (F := scLed w x dx bl wt cp t (.ref y) f.ln bs ws caps n1 n2 n3 []))) (by assumption) (by assumption)
      (apart_split3 (F := scLed w x dx bl wt cp t (.ref y) f.ln bs ws caps n1 n2 n3 []) nd) (by exact rfl) (by exact rfl) hdp hun (by first | exact Nat.lt_succ_self _ | lia) (fun G₂ st₂ rst₂ => IH ⟨hR, nd0.right.right⟩) ?_ (fun z9 z9 z9 z9 z9 h => h.elim)
    intro r' R8 h' tk' F' N' A' P'
    obtain ⟨⟨hR8, ndR8⟩, hfv⟩ := P'
    clear N9
    have N8 : News G L h' (scLed w x dx bl wt cp t (.ref y) f.ln bs ws caps n1 n2 n3 (B9 ++ (W9 ++ R8))) := news_sub N' (mem_split3' (F := scLed w x dx bl wt cp t (.ref y) f.ln bs ws caps n1 n2 n3 []))
    have nd8 : ND (scLed w x dx bl wt cp t (.ref y) f.ln bs ws caps n1 n2 n3 (B9 ++ (W9 ++ R8))) := nd_join (F := scLed w x dx bl wt cp t (.ref y) f.ln bs ws caps n1 n2 n3 []) ndF ndR8 A'
    have hc8 : Chain w (f :: g :: σ) (.ref x) (scLed w x dx bl wt cp t (.ref y) f.ln bs ws caps n1 n2 n3 (B9 ++ (W9 ++ R8))) := ⟨⟨x, dx, bl, wt, cp, t, .ref y, bs, ws, caps, n1, n2, n3, kv0, B9, W9, R8, rfl, rfl, hB, hW, hR8, hme⟩, nd8⟩
    clear N' A' nd nd0 r1 r2 r3 r4 r5 hR
    rw [hl, Option.none_or] at hvis
    cases hl2 : (visF (g :: σ)).lookup key with
    | none =>
      rw [hl2] at hfv hvis
      replace hfv : r' = .none := hfv
      subst hfv
      k_steps
      exact hret (.ret .none) _ _ _ _ (by assumption) (by assumption) ⟨hc8, by rw [hvis]; rfl⟩
    | some my =>
      rw [hl2] at hfv hvis
      cases my
      · obtain ⟨x9, t9, rfl⟩ := hfv
        k_steps
        exact hret (.ret (.str x9 t9)) _ _ _ _ (by assumption) (by assumption) ⟨hc8, by rw [hvis]; exact ⟨_, _, rfl⟩⟩
      · obtain ⟨x9, t9, rfl⟩ := hfv
        have hkp := key_pos key hk
        obtain ⟨⟨_, _, _, _, r1⟩, ⟨_, _, _, r2⟩, ⟨_, _, r3⟩, ⟨_, r4⟩, r5, nd0⟩ := nd5 nd8
        obtain ⟨b0, o0, B', bs', rfl, rfl, hcap, hlo0, hall⟩ := BlksAre.base hB
        have hz : caps.toArray.size ≤ sizeLine := by have := hcap.len; rw [sizeLine_eq, List.size_toArray]; lia
        k_steps
        refine Halt.mk ?_
        refine useN (rest := []) (by assumption) (by assumption) (news_nilr (by assumption)) (by assumption) (by assumption) apart_nilr (by exact rfl) (by exact rfl) hdp hun (by first | exact Nat.lt_succ_self _ | lia) (fun G₂ st₂ rst₂ => new_slot_raw nd8) ?_
        intro r' ch' h' tk' F' N' A' P'
        obtain ⟨ts, n9, tk9, rfl, rfl⟩ := P'
        replace N' := news_unnil N'
        clear A'
        k_steps
        rename_i hq D hr9 l9 h9 F9 N9
        refine Halt.mk ?_
        refine item0_led (xs := bs') (isList_of (N9 (bl, lstO (Value.ref b0 :: bs') n1) (by k_mem)).1) ?_
        k_steps
        refine Halt.mk ?_
        simp only [List.push_toArray] at N9
        have N7 : News G L h9 ((b0, o0) :: scLed w x dx bl wt cp (t.slot ts) (.ref y) f.ln (Value.ref b0 :: bs') ws (caps ++ [Value.ref D]) n1 n2 (n3 + 1) (B' ++ (W9 ++ R8))) := news_sub N9 (mem_b0 (F := scLed w x dx bl wt cp (t.slot ts) (.ref y) f.ln (Value.ref b0 :: bs') ws (caps ++ [Value.ref D]) n1 n2 (n3 + 1) []))
        have nd9 : ND (scLed w x dx bl wt cp (t.slot ts) (.ref y) f.ln (Value.ref b0 :: bs') ws (caps ++ [Value.ref D]) n1 n2 (n3 + 1) ((B' ++ [(b0, o0)]) ++ (W9 ++ R8))) := nd8.keys rfl
        have hne9 : ∀ p ∈ scLed w x dx bl wt cp (t.slot ts) (.ref y) f.ln (Value.ref b0 :: bs') ws (caps ++ [Value.ref D]) n1 n2 (n3 + 1) (B' ++ (W9 ++ R8)), p.1 ≠ b0 := nd_b0 (F := scLed w x dx bl wt cp (t.slot ts) (.ref y) f.ln (Value.ref b0 :: bs') ws (caps ++ [Value.ref D]) n1 n2 (n3 + 1) []) nd9
        obtain ⟨hd0, hK, hcl, hvv⟩ := hcap
        refine set_kvs F9 N7 hd0 (UpdF.head hne9) (by have := keys_len hK (isDictOf_nodup hd0); lia) ?_
        intro h8 o8 F8 N6 hd8
        clear N9 N7 F9
        k_steps
        have N5 : News G L h8 (scLed w x dx bl wt cp (t.slot ts) (.ref y) f.ln (Value.ref b0 :: bs') ws (caps ++ [Value.ref D]) n1 n2 (n3 + 1) ((B' ++ [(b0, o8)]) ++ (W9 ++ R8))) := news_sub N6 (mem_b0' (F := scLed w x dx bl wt cp (t.slot ts) (.ref y) f.ln (Value.ref b0 :: bs') ws (caps ++ [Value.ref D]) n1 n2 (n3 + 1) []))
        have hcl9 : (caps ++ [Value.ref D]).length = caps.length + 1 := by simp
        have hcp := CapV.put hk hK hcl hvv hd8 hv hl2
        rw [← hcl9] at hcp
        exact hret (.ret (.int n9 tk9)) _ _ _ _ (by assumption) N5 ⟨⟨⟨x, dx, bl, wt, cp, t.slot ts, .ref y, _, ws, caps ++ [Value.ref D], n1, n2, n3 + 1, _, _, W9, R8, rfl, rfl, hall _ _ _ hcp, hW, ⟨hR8, hme⟩⟩, nd9.keys (by simp)⟩, by rw [hvis]; exact ⟨_, _, rfl⟩⟩
theorem find_name {key : Str} {tk : Tok} (hk : key ∈ allKeys) : ∀ (σ : List Fm), (∀ f ∈ σ, f.lv.length ≤ 900) → σ ≠ [] → ∀ {G : Heap} {v : Value} {ch : Led}, Chain w σ v ch →
    Triple w mean mg mb G 154 [v, .str key tk] (σ.length + 1) ch (fun r ch' => Chain w σ v ch' ∧ FoundV ((visF σ).lookup key) r) No
  | [], _, h => absurd rfl h
  | [f], hl, _ => fun hc => find_one hc hk (hl f List.mem_cons_self)
  | f :: g :: σ, hl, _ => fun hc => find_more (n := (g :: σ).length + 1) (by simp) (fun hc => find_name hk (g :: σ) (fun f hf => hl f (List.mem_cons_of_mem _ hf)) (by simp) hc) hc hk (hl f List.mem_cons_self)
end
end
section
local macro_rules | `(tactic| walk_at "binaryOp Add str str") => `(tactic| ((fail_if_success (with_reducible show wpAny _ _ (binaryOp _ (Value.str _ _) (Value.str (PySem.Str.ofString _) _)) _ _ _)); (refine Halt.out ?_)))
def strVals (l : List (Str × Tok)) : List Value := l.map fun p => .str p.1 p.2
theorem in_tup_strs {w : World} {A : Around} {E : Value → Shared → Prop} {s : Shared} {a : Addr} {l : List (Str × Tok)} {x : Str} {u : Tok} {Q : Value → Shared → Prop} (hl : s.heap.IsTuple a (strVals l).toArray) (h : Q (.bool (l.any fun p => p.1 == x)) s) :
    wpAny (model PG w) A (compareOp .In (.str x u) (.ref a)) Q E s := by
  refine PySem.SeqAt.in_tupleAt (fun y => match y with | .str z _ => z == x | _ => false) hl (fun y hy => ?_) ?_
  · refine cps fun k_ => ?_
    obtain ⟨p, _, rfl⟩ := List.mem_map.mp (List.mem_toArray.mp hy)
    apply k_
    clear k_
    exact PySem.SeqAt.EqAt.str_str _ _ _ _
  · rw [List.any_toArray, strVals, List.any_map]; exact h
def forced : List (Str × Tok) := [("ENV", 246), ("INC", 247), ("ARGV", 248), ("ARGVOUT", 249), ("SIG", 250), ("STDIN", 251), ("STDOUT", 252), ("STDERR", 253), ("_", 254)]
section
variable {w : World} {mean : ExcName → Option Value} {mg mb : Str → Option Value}
theorem special_ok {G : Heap} {x : Str} {u : Tok} (hx : x ∈ allNames) : Triple w mean mg mb G 61 [.str x u] 1 [] (fun r ch' => ch' = [] ∧ ∃ b, r = .bool b) No := by
  have hxl := name_len x hx
  show Triple _ _ _ _ _ _ _ _ _ _ _
  refine' enter (binds := [("name", .str x u)]) ?k6 ?k7 ?k9 ?kB ?_ ?kn ?c5 ?c2 ?c3 ?c4
  case k6 => k_is
  case k7 => k_is
  case k9 => exact rfl
  case kB => exact locs rfl
  case kn => first | lia | (simp only [htP, htT, htS, htB]; lia)
  case c5 => decide
  case c2 => exact rfl
  case c3 => exact rfl
  case c4 => exact rfl
  k_whole
  intro dp un gd frs base A₀ s L h₁ tk₁ Qb Eb B X T hdp hun F N hlt hret hexc hown
  (try dsimp only at F)
  k_steps
  refine Halt.mk ?_
  have h54 : (hd.heap_39 w.params).lookup 54 = some (tupO [.str "ENV" 246, .str "INC" 247, .str "ARGV" 248, .str "ARGVOUT" 249, .str "SIG" 250, .str "STDIN" 251, .str "STDOUT" 252, .str "STDERR" 253, .str "_" 254]) := by k_is
  refine in_tup_strs (l := forced) ⟨_, F.keep _ _ (X _ _ h54), rfl, _, rfl⟩ ?_
  k_steps
  all_goals exact hret (.ret (.bool _)) _ _ _ _ (by assumption) (by assumption) ⟨rfl, _, rfl⟩
theorem rooted_a {G : Heap} {u : Tok} : Triple w mean mg mb G 68 [.str "a::b" u] 1 [] (fun r ch' => ch' = [] ∧ ∃ y tk, r = .str y tk) No := by
  show Triple _ _ _ _ _ _ _ _ _ _ _
  refine' enter (binds := [("name", .str "a::b" u)]) ?k6 ?k7 ?k9 ?kB ?_ ?kn ?c5 ?c2 ?c3 ?c4
  case k6 => k_is
  case k7 => k_is
  case k9 => exact rfl
  case kB => exact locs rfl
  case kn => first | lia | (simp only [htP, htT, htS, htB]; lia)
  case c5 => decide
  case c2 => exact rfl
  case c3 => exact rfl
  case c4 => exact rfl
  k_whole
  intro dp un gd frs base A₀ s L h₁ tk₁ Qb Eb B X T hdp hun F N hlt hret hexc hown
  (try dsimp only at F)
  k_steps
  all_goals first
    | (rename_i e; exact absurd e (by decide +kernel))
    | exact hret (.ret (.str _ _)) _ _ _ _ (by assumption) (by assumption) ⟨rfl, _, _, rfl⟩
theorem rooted_x {G : Heap} {u : Tok} : Triple w mean mg mb G 68 [.str "::x" u] 1 [] (fun r ch' => ch' = [] ∧ ∃ y tk, r = .str y tk) No := by
  show Triple _ _ _ _ _ _ _ _ _ _ _
  refine' enter (binds := [("name", .str "::x" u)]) ?k6 ?k7 ?k9 ?kB ?_ ?kn ?c5 ?c2 ?c3 ?c4
  case k6 => k_is
  case k7 => k_is
  case k9 => exact rfl
  case kB => exact locs rfl
  case kn => first | lia | (simp only [htP, htT, htS, htB]; lia)
  case c5 => decide
  case c2 => exact rfl
  case c3 => exact rfl
  case c4 => exact rfl
  k_whole
  intro dp un gd frs base A₀ s L h₁ tk₁ Qb Eb B X T hdp hun F N hlt hret hexc hown
  (try dsimp only at F)
  k_steps
  all_goals first
    | (rename_i e; exact absurd e (by decide +kernel))
    | exact hret (.ret (.str _ _)) _ _ _ _ (by assumption) (by assumption) ⟨rfl, _, _, rfl⟩
theorem colon_or : ∀ x ∈ allNames, (Builtin.Str.occurrences x (Str.ofString "::") 0 x.length 1).isEmpty = true ∨ x = "a::b" ∨ x = "::x" := by decide +kernel
theorem whole_ok {G : Heap} {x : Str} {t u : Tok} (hx : x ∈ allNames) : Triple w mean mg mb G 75 [.str "main" t, .str x u] 2 [] (fun r ch' => ch' = [] ∧ ∃ y tk, r = .str y tk) No := by
  have hxl := name_len x hx
  have hco := colon_or x hx
  have hs1 : (Str.ofString "main::").length + x.length ≤ sizeLine := by rw [sizeLine_eq]; have : (Str.ofString "main::").length ≤ 10 := by decide +kernel
                                                                        lia
  have hs2 : (Str.ofString "main" ++ Str.ofString "::").length + x.length ≤ sizeLine := by rw [sizeLine_eq]; have : (Str.ofString "main" ++ Str.ofString "::").length ≤ 10 := by decide +kernel
                                                                                           lia
  show Triple _ _ _ _ _ _ _ _ _ _ _
  refine' enter (binds := [("package", .str "main" t), ("name", .str x u)]) ?k6 ?k7 ?k9 ?kB ?_ ?kn ?c5 ?c2 ?c3 ?c4
  case k6 => k_is
  case k7 => k_is
  case k9 => exact rfl
  case kB => exact locs rfl
  case kn => first | lia | (simp only [htP, htT, htS, htB]; lia)
  case c5 => decide
  case c2 => exact rfl
  case c3 => exact rfl
  case c4 => exact rfl
  k_whole
  intro dp un gd frs base A₀ s L h₁ tk₁ Qb Eb B X T hdp hun F N hlt hret hexc hown
  (try dsimp only at F)
  k_steps
  · refine Halt.mk ?_
    refine useN (ch := []) (rest := []) (by assumption) (by assumption) (by assumption) (by assumption) (by assumption) apart_nilr (by exact rfl) (by exact rfl) hdp hun (by first | exact Nat.lt_succ_self _ | lia) (fun G₂ st₂ rst₂ => special_ok hx) ?_
    intro r' ch' h' tk' F' N' A' P'
    refine cps fun k_ => ?_
    obtain ⟨rfl, b, rfl⟩ := P'
    apply k_
    clear k_
    replace N' := news_unnil N'
    cases b
    all_goals k_steps
    all_goals (refine Halt.mk ?_)
    all_goals (refine PyProof.Rows.add_str (fun t' tk' => ?_) ?_)
    all_goals (try assumption)
    all_goals k_steps
    all_goals exact hret (.ret (.str _ _)) _ _ _ _ (by assumption) (by assumption) ⟨rfl, _, _, rfl⟩
  · refine Halt.mk ?_
    rename_i e
    rcases hco with hco | rfl | rfl
    · rw [hco] at e; cases e
    · refine useN (ch := []) (rest := []) (by assumption) (by assumption) (by assumption) (by assumption) (by assumption) apart_nilr (by exact rfl) (by exact rfl) hdp hun (by first | exact Nat.lt_succ_self _ | lia) (fun G₂ st₂ rst₂ => rooted_a) ?_
      intro r' ch' h' tk' F' N' A' P'
      refine cps fun k_ => ?_
      obtain ⟨rfl, y9, t9, rfl⟩ := P'
      apply k_
      clear k_
      replace N' := news_unnil N'
      k_steps
      exact hret (.ret (.str _ _)) _ _ _ _ (by assumption) (by assumption) ⟨rfl, _, _, rfl⟩
    · refine useN (ch := []) (rest := []) (by assumption) (by assumption) (by assumption) (by assumption) (by assumption) apart_nilr (by exact rfl) (by exact rfl) hdp hun (by first | exact Nat.lt_succ_self _ | lia) (fun G₂ st₂ rst₂ => rooted_x) ?_
      intro r' ch' h' tk' F' N' A' P'
      refine cps fun k_ => ?_
      obtain ⟨rfl, y9, t9, rfl⟩ := P'
      apply k_
      clear k_
      replace N' := news_unnil N'
      k_steps
      exact hret (.ret (.str _ _)) _ _ _ _ (by assumption) (by assumption) ⟨rfl, _, _, rfl⟩
end
end
section
local macro_rules | `(tactic| walk_at "binaryOp Add str str") => `(tactic| (k_here; (fail_if_success (with_reducible show wpAny _ _ (binaryOp _ (Value.str _ _) (Value.str (PySem.Str.ofString _) _)) _ _ _)); k_dflt (refine add_key (by k_memK) (by k_memK) ?_; intro _ _)))
local macro_rules | `(tactic| k_mem) => `(tactic| with_reducible assumption)
local macro_rules | `(tactic| walk_at "no") => `(tactic| skip)
def padWords : List Str := ["pads", "pada", "padh", "mys", "mya", "myh"]
def globWords : List Str := ["globs", "globa", "globh"]
def WordIs (wd : Str) (told : Bool) : Prop := match told with
  | true => wd ∈ padWords
  | false => wd ∈ globWords
inductive ChainSee (w : World) (f : Fm) (v : Value) (ch : Led) : Prop
  | mk (x dx bl wt cp : Addr) (t : ScT) (vo : Value) (bs ws caps : List Value) (n1 n2 n3 : Nat) (e : v = .ref x) (h1 : (x, instObj 108 dx) ∈ ch)
      (h2 : (dx, scDict w t.t1 t.t2 t.t3 t.t4 t.t5 t.t6 t.t7 vo (.str "main" t.tp) (.ref bl) (.ref wt) (.int t.sz t.ts) (.ref cp) (.int f.ln.1 t.tl)) ∈ ch) (h3 : (bl, lstO bs n1) ∈ ch) (h4 : (wt, lstO ws n2) ∈ ch) (h5 : (cp, lstO caps n3) ∈ ch) : ChainSee w f v ch
theorem chain_see {w : World} {f : Fm} {σ : List Fm} {v : Value} {ch : Led} (hc : Chain w (f :: σ) v ch) : ChainSee w f v ch := by
  refine cps fun k_ => ?_
  obtain ⟨⟨x, dx, bl, wt, cp, t, vo, bs, ws, caps, n1, n2, n3, kv0, B9, W9, R9, rfl, rfl, hB, hW, hR⟩, nd⟩ := hc
  apply k_
  clear k_
  exact ⟨x, dx, bl, wt, cp, t, vo, bs, ws, caps, n1, n2, n3, rfl, by simp, by simp, by simp, by simp, by simp⟩
inductive NamePost (w : World) (σ : List Fm) (v : Value) (told : Bool) (chk : Bool) (r : Value) (ch' : Led) : Prop
  | mk (a0 : _) (wd : _) (tk : _) (pl : _) (ch'' : _) (h1_ : r = .ref a0) (h2_ : ch' = (a0, tupO [.str wd tk, pl]) :: ch'') (h3_ : Chain w σ v ch'') (h4_ : (∀ p ∈ ch'', p.1 ≠ a0)) (h5_ : (chk = true → WordIs wd told)) : NamePost w σ v told chk r ch'
def endWords : List Str := ["s", "a", "h"]
theorem glob_end : ∀ z ∈ endWords, Str.ofString "glob" ++ z ∈ globWords := by decide
theorem my_end : ∀ z ∈ endWords, Str.ofString "my" ++ z ∈ padWords := by decide
theorem pad_end : ∀ z ∈ endWords, Str.ofString "pad" ++ z ∈ padWords := by decide
theorem word_end {w : World} {A : Around} {Q E : Value → Shared → Prop} {s : Shared} {G : Heap} {L : Addr} {m : Str → Option Value} {p1 p2 : Pos} {sg : Str} {t : Tok} (F : Fr G L s.heap m) (X : (hd.heap_39 w.params).In G) (hsg : sg ∈ sigs) (h : ∀ z tk n, z ∈ endWords → z.length = 1 → Q (.str z tk) { s with toks := n }) :
    wpAny (model PG w) A (subscriptTail (.Name "WORD_ENDS" p1) (.Name "sigil" p2) (.ref 90) (.str sg t)) Q E s := by
  simp only [sigs, List.mem_cons, List.not_mem_nil, or_false] at hsg
  rcases hsg with rfl | rfl | rfl
  all_goals k_steps; exact h _ _ _ (by decide) rfl
local macro_rules | `(tactic| walk_at "subscriptTail Name Name ref str") => `(tactic| (refine Halt.out ?_))
inductive TestQ (b : Bool) (s : Shared) (hp : Heap) : Bool → Shared → Prop
  | mk {c : Bool} {tk : Nat} (e : c = b) : TestQ b s hp c { s with heap := hp, toks := tk }
theorem test_mono {M : Model} {A : Around} {t : Sem Bool} {Q : Bool → Shared → Prop} {E : Value → Shared → Prop} {s : Shared} {hp : Heap} {tk₀ : Nat} (b : Bool) (hq : ∀ tk, Q b { s with heap := hp, toks := tk }) (h : wpAny M A t (TestQ b s hp) E { s with heap := hp, toks := tk₀ }) : wpAny M A t Q E { s with heap := hp, toks := tk₀ } :=
  wpAny_mono h (fun z9 z9 y => by cases y with | mk e => exact e ▸ hq _) fun z9 z9 e => e
local macro_rules | `(tactic| walk_at "isTrue BoolOp") => `(tactic| (goal_lacks TestQ; (refine Halt.out ?_)))
local macro_rules | `(tactic| walk_at "isTrue Compare") => `(tactic| (goal_lacks TestQ; (with_reducible show wpAny _ _ (isTrue (PySem.Expr.Compare (PySem.Expr.Name "sigil" _) _ _ _) _ _) _ _ _); (refine Halt.out ?_)))
section
variable {w : World} {mean : ExcName → Option Value} {mg mb : Str → Option Value}
theorem rname {G : Heap} {f : Fm} {σ : List Fm} {v : Value} {ch : Led} {a : Addr} {sg x9 : Str} {t1 t2 t3 : Tok} (hc : Chain w (f :: σ) v ch) (hl : ∀ g ∈ f :: σ, g.lv.length ≤ 900) (hsg : sg ∈ sigs) (hx : x9 ∈ allNames) (ha : G.get? a = some (tupO [.str "name" t1, .str sg t2, .str x9 t3])) :
    Triple w mean mg mb G 166 [v, .ref a] (σ.length + 4) ch (NamePost w (f :: σ) v ((visF (f :: σ)).lookup (keyOf sg x9) == some true) (!colonNames.contains x9)) No := by
  have hT : IsTup G a (List.toArray [.str "name" t1, .str sg t2, .str x9 t3]) := tup_of ha
  have hxl := name_len x9 hx
  have hc0 := hc
  obtain ⟨x, dx, bl, wt, cp, t, vo, bs, ws, caps, n1, n2, n3, rfl, hm1, hm2, hm3, hm4, hm5⟩ := chain_see hc
  show Triple _ _ _ _ _ _ _ _ _ _ _
  refine' enter (binds := [("scope", .ref x), ("node", .ref a)]) ?k6 ?k7 ?k9 ?kB ?_ ?kn ?c5 ?c2 ?c3 ?c4
  case k6 => k_is
  case k7 => k_is
  case k9 => exact rfl
  case kB => exact locs rfl
  case kn => first | lia | (simp only [htP, htT, htS, htB]; lia)
  case c5 => decide
  case c2 => exact rfl
  case c3 => exact rfl
  case c4 => exact rfl
  k_whole
  intro dp un gd frs base A₀ s L h₁ tk₁ Qb Eb B X T hdp hun F N hlt hret hexc hown
  (try dsimp only at F)
  k_steps
  refine Halt.mk ?_
  refine test_mono (Builtin.Str.occurrences x9 (Str.ofString "::") 0 x9.length 1).isEmpty (fun tk9 => ?_) ?_
  rotate_left
  · rcases (show sg = "$" ∨ sg = "@" ∨ sg = "%" by simpa only [sigs, List.mem_cons, List.not_mem_nil, or_false] using hsg) with rfl | rfl | rfl
    all_goals k_steps
    all_goals exact .mk (Eq.symm (by assumption))
  k_steps
  · refine Halt.mk ?_
    refine useN (ch := ch) (rest := []) (by assumption) (by assumption) (news_nilr (by assumption)) (by assumption) (by assumption) apart_nilr (by exact rfl) (by exact rfl) hdp hun (by first | exact Nat.lt_succ_self _ | lia | (simp only [List.length_cons]; lia)) (fun G₂ st₂ rst₂ => find_name (key_mem hsg hx) (f :: σ) hl (by simp) hc) ?_
    intro r' ch' h' tk' F' N' A' P'
    obtain ⟨hc', hfv⟩ := P'
    replace N' := news_unnil N'
    clear A' hc0 hm1 hm2 hm3 hm4 hm5
    refine cps fun k_ => ?_
    obtain ⟨_, dx, bl, wt, cp, t, vo, bs, ws, caps, n1, n2, n3, he9, hm1, hm2, hm3, hm4, hm5⟩ := chain_see hc'; cases he9
    apply k_
    clear k_
    cases hlk : (visF (f :: σ)).lookup (keyOf sg x9) with
    | none =>
      rw [hlk] at hfv
      replace hfv : r' = .none := hfv
      subst hfv
      k_steps
      refine Halt.mk ?_
      refine test_mono false (fun tk9 => ?_) ?_
      rotate_left
      · rcases (show sg = "$" ∨ sg = "@" ∨ sg = "%" by simpa only [sigs, List.mem_cons, List.not_mem_nil, or_false] using hsg) with rfl | rfl | rfl
        all_goals k_steps
        all_goals exact .mk rfl
      k_steps
      refine Halt.mk ?_
      refine word_end (by assumption) (by assumption) hsg fun z tz nz hz hz1 => ?_
      k_steps
      refine Halt.mk ?_
      refine useN (ch := []) (rest := ch') (by assumption) (by assumption) (by assumption) (by assumption) (by assumption) (Apart.symm apart_nilr) (by exact rfl) (by exact rfl) hdp hun (by first | exact Nat.lt_succ_self _ | lia | (simp only [List.length_cons]; lia)) (fun G₂ st₂ rst₂ => whole_ok hx) ?_
      intro r' c8 h' tk' F' N' A' P'
      refine cps fun k_ => ?_
      obtain ⟨rfl, y9, t9, rfl⟩ := P'
      apply k_
      clear k_
      replace N' : News G L h' ch' := N'
      clear A'
      k_steps
      rename News _ _ _ _ => N9
      rename ∀ p ∈ ch', _ => l9
      exact hret (.ret (.ref _)) _ _ _ _ (by assumption) N9 ⟨_, _, _, _, _, rfl, rfl, hc', fun p hp => Nat.ne_of_lt (l9 p hp), fun z9 => by rw [hlk]; exact glob_end z hz⟩
    | some my =>
      rw [hlk] at hfv
      cases my
      · refine cps fun k_ => ?_
        obtain ⟨y9, t9, rfl⟩ := hfv
        apply k_
        clear k_
        k_steps
        refine Halt.mk ?_
        refine word_end (by assumption) (by assumption) hsg fun z tz nz hz hz1 => ?_
        k_steps
        rename News _ _ _ _ => N9
        rename ∀ p ∈ ch', _ => l9
        exact hret (.ret (.ref _)) _ _ _ _ (by assumption) N9 ⟨_, _, _, _, _, rfl, rfl, hc', fun p hp => Nat.ne_of_lt (l9 p hp), fun z9 => by rw [hlk]; exact glob_end z hz⟩
      · refine cps fun k_ => ?_
        obtain ⟨y9, t9, rfl⟩ := hfv
        apply k_
        clear k_
        k_steps
        refine Halt.mk ?_
        refine word_end (by assumption) (by assumption) hsg fun z tz nz hz hz1 => ?_
        k_steps
        rename News _ _ _ _ => N9
        rename ∀ p ∈ ch', _ => l9
        exact hret (.ret (.ref _)) _ _ _ _ (by assumption) N9 ⟨_, _, _, _, _, rfl, rfl, hc', fun p hp => Nat.ne_of_lt (l9 p hp), fun z9 => by rw [hlk]; exact pad_end z hz⟩
  · refine Halt.mk ?_
    refine test_mono false (fun tk9 => ?_) ?_
    rotate_left
    · rcases (show sg = "$" ∨ sg = "@" ∨ sg = "%" by simpa only [sigs, List.mem_cons, List.not_mem_nil, or_false] using hsg) with rfl | rfl | rfl
      all_goals k_steps
      all_goals exact .mk rfl
    k_steps
    refine Halt.mk ?_
    refine word_end (by assumption) (by assumption) hsg fun z tz nz hz hz1 => ?_
    k_steps
    refine Halt.mk ?_
    rename _ = false => e9
    have hcn : colonNames.contains x9 = true := by
      rcases colon_or x9 hx with h | rfl | rfl
      · rw [h] at e9; cases e9
      · decide
      · decide
    refine useN (ch := []) (rest := ch) (by assumption) (by assumption) (by assumption) (by assumption) (by assumption) (Apart.symm apart_nilr) (by exact rfl) (by exact rfl) hdp hun (by first | exact Nat.lt_succ_self _ | lia | (simp only [List.length_cons]; lia)) (fun G₂ st₂ rst₂ => whole_ok hx) ?_
    intro r' c8 h' tk' F' N' A' P'
    refine cps fun k_ => ?_
    obtain ⟨rfl, y9, t9, rfl⟩ := P'
    apply k_
    clear k_
    replace N' : News G L h' ch := N'
    clear A'
    k_steps
    rename News _ _ _ _ => N9
    rename ∀ p ∈ ch, _ => l9
    exact hret (.ret (.ref _)) _ _ _ _ (by assumption) N9 ⟨_, _, _, _, _, rfl, rfl, hc0, fun p hp => Nat.ne_of_lt (l9 p hp), fun h => by rw [hcn] at h; cases h⟩
end
end
/-! an exception class with an __init__ of its own, over own classes over Exception -/
section
variable {M : Model} {A : Around} {E : Value → Shared → Prop} {h : Heap} {g : Array GenState} {d : Drawn} {t : Nat} {os : OsState}
variable {nm q : Str} {C N : Addr} {bs bm bmB : List Value} {hdct : Bool} {sn : List Str} {sub : List Value} {ab : Bool} {col : Option Bool} {dd : Option Addr} {k0 k1 k2 k3 k5 : Option Value} {B newId initId : String}
theorem xc_check (F : ExcBaseFacts B newId initId bmB) (hB : bm.contains (.type B) = true) {rest : List Value} {Q : Unit → Shared → Prop} (hC : h.get? C = some (excClassObj nm q C N bs bm hdct sn sub ab col dd k0 k1 k2 k3 k5 newId))
    (hq : Q () ⟨h, g, d, t, os⟩) : wpAny M A (checkBuiltinCall newId ⟨.ref C :: rest, []⟩) Q E ⟨h, g, d, t, os⟩ := by
  have hcont : (Value.ref C :: bm).contains (.type B) = true := by rw [List.contains_cons, hB, Bool.or_true]
  have hstar := F.noStar
  simp only [checkBuiltinCall, F.newKind, F.newSplit, F.newRow]
  repeat (first | refine wpAny_loadPart_at hC ?_ | (refine wpAny_isSubtype_exc hC ?_; rw [hcont]) | refine wpAny_staticBase_exc hC ?_ | refine wpAny_madeBy_exc hC ?_ | simp only [bne_self_eq_false, Bool.false_eq_true, if_false] | wp_step)
  exact hq
end
section
variable {prog : Program} {w : World} {A : Around} {R : Result → Shared → Prop} {E : Value → Shared → Prop} {h : Heap} {g : Array GenState} {d : Drawn} {t : Nat} {os : OsState}
variable {nm q : Str} {C N : Addr} {bs bm bmB : List Value} {hdct : Bool} {sn : List Str} {sub : List Value} {ab : Bool} {col : Option Bool} {dd : Option Addr} {k0 k1 k2 k3 k5 : Option Value} {B newId initId : String}
theorem xc_new (F : ExcBaseFacts B newId initId bmB) (hB : bm.contains (.type B) = true) (hA : bm.contains (.type "AttributeError") = false) (hN : bm.contains (.type "NameError") = false) {rest : List Value}
    (hC : h.get? C = some (excClassObj nm q C N bs bm hdct sn sub ab col dd k0 k1 k2 k3 k5 newId))
    (hq : R (.ok (.ret (.ref (h.objs.size + 1)))) ⟨(h.push { cls := .type "tuple", data := .seq rest.toArray }).push
      { cls := .ref C, data := .fields #[.ref h.objs.size, .none, .none, .none, .bool false, .none] }, g, d, t, os⟩) (hrest : rest.length ≤ sizeLine) :
    codeAny (model prog w) A (.builtin newId ⟨.ref C :: rest, []⟩) R ⟨h, g, d, t, os⟩ := by
  have hends := F.ends
  have hcB : (Value.ref C :: bm).contains (.type B) = true := by rw [List.contains_cons, hB, Bool.or_true]
  have hcA : (Value.ref C :: bm).contains (.type "AttributeError") = false := by rw [List.contains_cons, hA]; rfl
  have hcN : (Value.ref C :: bm).contains (.type "NameError") = false := by rw [List.contains_cons, hN]; rfl
  refine codeAny_builtinAt F.entry ?_
  unfold Builtin.«BaseException.__new__»
  refine PySem.wpAt_bind ?_
  show PySem.wpAt _ _ _ (stack >>= _) _ _ _
  refine PySem.wpAt_bind (PySem.wpAt_stack fun p below => PySem.wpAt_of_wpAny ?_)
  wp_walk
  refine PySem.wpAt_of_wpAny ?_
  rw [F.owner]
  repeat (first | with_reducible refine wpAny_madeHere_exc F.canon hC ?_ | with_reducible refine wpAny_loadPart_at hC ?_ | (with_reducible refine wpAny_isSubtype_exc hC ?_; first | rw [hcB] | rw [hcA] | rw [hcN]) | wp_step)
  show R _ _
  rw [Heap.size_push]
  exact hq
theorem xc_lookup {fI : Addr} {mN : Str → Option Value} {Q : Option Value → Shared → Prop} {M : Model} (hC : h.get? C = some (excClassObj nm q C N bs bm hdct sn sub ab col dd k0 k1 k2 k3 k5 newId)) (hn : h.Ns N mN) (hi : mN "__init__" = some (.ref fI))
    (hq : Q (some (.ref fI)) ⟨h, g, d, t, os⟩) : wpAny M A (typeLookup (.ref C) "__init__") Q E ⟨h, g, d, t, os⟩ := by
  rw [typeLookup_eq]
  refine wpAny_bind (wpAny_mroOf_exc hC ?_)
  rw [lookupAlong_cons]
  refine wpAny_bind (wpAny_classOwn_exc hC hn ?_)
  rw [hi]
  exact wpAny_pure hq
theorem xc_type_call (F : ExcBaseFacts B newId initId bmB) (hB : bm.contains (.type B) = true) (hA : bm.contains (.type "AttributeError") = false) (hN : bm.contains (.type "NameError") = false) {mN : Str → Option Value} {rest : List Value} {fI : Addr} {oI : Obj} {Q : Fin → Shared → Prop}
    (hC : h.get? C = some (excClassObj nm q C N bs bm hdct sn sub ab col dd k0 k1 k2 k3 k5 newId)) (hn : h.Ns N mN) (hi : mN "__init__" = some (.ref fI)) (hfI : h.get? fI = some oI) (hfc : oI.cls = .type "function")
    (hq : ∀ h' e, Heap.MadeExcOf h h' e (.ref C) rest → wpAny (model prog w) A (call (.ref fI) (.ref e :: rest)) (fun r s' => r = .none ∧ Q (.done (.ret (.ref e))) s') E ⟨h', g, d, t, os⟩) (hrest : rest.length ≤ sizeLine) :
    wpAny (model prog w) A (Builtin.«type.__call__» ⟨.ref C :: rest, []⟩) Q E ⟨h, g, d, t, os⟩ := by
  repeat (first | with_reducible refine wpAny_loadPart_at hC ?_ | with_reducible refine wpAny_madeBy_exc hC ?_ | wp_step)
  refine codeAny_call_builtin_code (Code.quiet_builtin _ F.quiet) (xc_check F hB hC ?_)
  refine xc_new F hB hA hN hC ?_ hrest
  show wpAny _ _ _ _ _ _
  generalize hE1 : (h.push { cls := .type "tuple", data := .seq rest.toArray }).push { cls := .ref C, data := .fields #[.ref h.objs.size, .none, .none, .none, .bool false, .none] } = h₁
  have up : ∀ b o, h.get? b = some o → h₁.get? b = some o := fun b o e => by rw [← hE1]; exact Heap.get?_push_of_some _ (Heap.get?_push_of_some _ e)
  have hC₁ := up _ _ hC
  have hfI₁ := up _ _ hfI
  have hn₁ : h₁.Ns N mN := let ⟨o, es, ep, e, r⟩ := hn; ⟨o, es, ep, up _ _ e, r⟩
  have hget : h₁.get? (h.objs.size + 1) = some { cls := .ref C, data := .fields #[.ref h.objs.size, .none, .none, .none, .bool false, .none] } := by rw [← hE1]; heap_get
  have hcC : (Value.ref C :: bm).contains (.ref C) = true := by simp
  have made : Heap.MadeExcOf h h₁ (h.objs.size + 1) (.ref C) rest := ⟨up, Heap.get?_none_of_le (Nat.le_succ _), h.objs.size, hget, Heap.get?_none_of_le (Nat.le_refl _), by rw [← hE1]; exact Heap.get?_push_of_some _ (Heap.get?_push_at rfl rfl)⟩
  clear hE1
  unfold isInstance
  repeat (first | with_reducible refine wpAny_loadPart_at hget ?_ | (with_reducible refine wpAny_isSubtype_exc hC₁ ?_; rw [hcC]) | wp_step)
  show wpAny _ _ (typeLookup (.ref C) _) _ _ _
  refine xc_lookup hC₁ hn₁ hi ?_
  refine wpAny_holding (wpAny_bind ?_)
  unfold bindSpecial
  refine wpAny_bind (wpAny_typeOf (T := "function") ⟨_, hfI₁, hfc⟩ ?_)
  rw [if_pos (by decide)]
  refine wpAny_pure (wpAny_bind (wpAny_mono (hq _ _ made) (fun r s' hr => ?_) fun z9 z9 x => x))
  obtain ⟨rfl, hQ⟩ := hr
  wp_walk
  exact hQ
theorem xc_call (F : ExcBaseFacts B newId initId bmB) (hB : bm.contains (.type B) = true) (hA : bm.contains (.type "AttributeError") = false) (hN : bm.contains (.type "NameError") = false) {mN : Str → Option Value} {rest : List Value} {fI : Addr} {oI : Obj} {Q : Value → Shared → Prop}
    (hC : h.get? C = some (excClassObj nm q C N bs bm hdct sn sub ab col dd k0 k1 k2 k3 k5 newId)) (hn : h.Ns N mN) (hi : mN "__init__" = some (.ref fI)) (hfI : h.get? fI = some oI) (hfc : oI.cls = .type "function")
    (hq : ∀ h' e, Heap.MadeExcOf h h' e (.ref C) rest →
      wpAny (model prog w) (A.under (.builtin "type.__call__" ⟨.ref C :: rest, []⟩)) (call (.ref fI) (.ref e :: rest)) (fun r s' => r = .none ∧ Q (.ref e) s') E ⟨h', g, d, t, os⟩) (hrest : rest.length ≤ sizeLine) :
    wpAny (model prog w) A (call (.ref C) rest) Q E ⟨h, g, d, t, os⟩ := by
  have f1 := tc_lookup
  have f2 := tc_bind (.ref C)
  have hT : (⟨h, g, d, t, os⟩ : Shared).TypeIs (.ref C) "type" := ⟨_, hC, rfl⟩
  refine wpAny_call (codeAny_of_tree ?_)
  show wpAny _ _ (callAny (.ref C) _) _ _ _
  repeat (any_goals (first | assumption | with_reducible refine wpAny_loadPart_at hC ?_ | wp_step))
  refine ⟨rfl, ?_⟩
  exact codeAny_call_builtin_at (Code.quiet_builtin _ (by decide +kernel)) entry_typeCall (wpAny_check_type_call_sub hC (xc_type_call F hB hA hN hC hn hi hfI hfc (fun h' e hm => hq h' e hm) hrest))
end
open Builtin Builtin.ObjectAttr
/-! fields of an exception whose class has one own class above it -/
abbrev excMro : List Value := [.type "Exception", .type "BaseException", .type "object"]
section
variable {A : Around} {E : Value → Shared → Prop} {h : Heap} {g : Array GenState} {d : Drawn} {t : Nat} {os : OsState}
variable {nm q nm2 q2 : Str} {C N D N2 x : Addr} {bs bs2 : List Value} {hdct : Bool} {sn sn2 : List Str} {sub sub2 : List Value} {ab ab2 : Bool} {col col2 : Option Bool} {dd dd2 : Option Addr} {k0 k1 k2 k3 k5 j0 j1 j2 j3 j5 : Option Value} {newId newId2 : String}
  {mN mD mA : Str → Option Value} {name : Str} {v : Value}
structure TwoCls (h : Heap) (C D : Addr) (mN mD : Str → Option Value) : Prop where
  c : ∃ nm q N bs sn sub ab col dd k0 k1 k2 k3 k5, h.get? C = some (excClassObj nm q C N bs (.ref D :: excMro) true sn sub ab col dd k0 k1 k2 k3 k5 "Exception.__new__") ∧ h.Ns N mN
  d : ∃ c0 dd cd sl, h.get? D = some { cls := c0, dict := dd, data := .cls cd, slots := sl } ∧ h.Ns cd.ns mD
theorem TwoCls.keeps {h h' : Heap} {C D : Addr} (X : TwoCls h C D mN mD) (k : ∀ b o, h.get? b = some o → h'.get? b = some o) : TwoCls h' C D mN mD := by
  refine cps fun k_ => ?_
  obtain ⟨⟨nm, q, N, bs, sn, sub, ab, col, dd, k0, k1, k2, k3, k5, e, n⟩, c0, dd2, cd, sl, e2, n2⟩ := X
  apply k_
  clear k_
  exact ⟨⟨nm, q, N, bs, sn, sub, ab, col, dd, k0, k1, k2, k3, k5, k _ _ e, n.keeps k⟩, c0, dd2, cd, sl, k _ _ e2, n2.keeps k⟩
theorem mro_exc : mroOf (.type "Exception") = pure excMro := PySem.F.store_Exception.mro
theorem xl_lookup {M : Model} {y : Option Value} {Q : Option Value → Shared → Prop} (X : TwoCls h C D mN mD) (h1 : mN name = none) (h2 : mD name = none) (hB : typeLookup (.type "Exception") name = pure y) (hq : Q y ⟨h, g, d, t, os⟩) :
    wpAny M A (typeLookup (.ref C) name) Q E ⟨h, g, d, t, os⟩ := by
  refine cps fun k_ => ?_
  obtain ⟨⟨nm, q, N, bs, sn, sub, ab, col, dd, k0, k1, k2, k3, k5, hC, hn⟩, c0, dd2, cd, sl, hD, hnD⟩ := X
  apply k_
  clear k_
  have hrest : lookupAlong excMro name = pure y := by rw [typeLookup_eq, mro_exc] at hB; exact hB
  rw [typeLookup_eq]
  refine wpAny_bind (wpAny_mroOf_exc hC ?_)
  rw [lookupAlong_cons]
  refine wpAny_bind (wpAny_classOwn_exc hC hn ?_)
  rw [h1]
  show wpAny _ _ (lookupAlong (.ref D :: excMro) name) _ _ _
  rw [lookupAlong_cons]
  refine wpAny_bind (wpAny_classOwn_cls hD hnD ?_)
  rw [h2]
  show wpAny _ _ (lookupAlong excMro name) _ _ _
  rw [hrest]
  exact wpAny_pure hq
theorem xs_check {M : Model} {o : Obj} {nameV : Value} {Q : Unit → Shared → Prop} (X : TwoCls h C D mN mD) (hx : h.get? x = some o) (hc : o.cls = .ref C) (hq : Q () ⟨h, g, d, t, os⟩) :
    wpAny M A (checkBuiltinCall "object.__setattr__" ⟨[.ref x, nameV, v], []⟩) Q E ⟨h, g, d, t, os⟩ := by
  refine cps fun k_ => ?_
  obtain ⟨⟨nm, q, N, bs, sn, sub, ab, col, dd, k0, k1, k2, k3, k5, hC, hn⟩, _⟩ := X
  apply k_
  clear k_
  have SF := PySem.F.store_object
  have hcB : (Value.ref C :: .ref D :: excMro).contains (.type "object") = true := rfl
  have ha := SF.args (.ref x) nameV v
  simp only [checkBuiltinCall, SF.kind, SF.split]
  refine wpAny_bind ?_
  · unfold isInstance
    repeat (first | (with_reducible refine wpAny_loadPart_at hx ?_; rw [hc]) | (with_reducible refine wpAny_isSubtype_exc hC ?_; rw [hcB]) | wp_step)
    exact hq
end
section
variable {prog : Program} {w : World} {A : Around} {E : Value → Shared → Prop} {h : Heap} {g : Array GenState} {d : Drawn} {t : Nat} {os : OsState}
variable {C D x : Addr} {mN mD mA : Str → Option Value} {name : Str} {v : Value}
theorem xs_entry {tk : Tok} {Q : Fin → Shared → Prop} {ns : List Str} (X : TwoCls h C D mN mD) (h1 : mN name = none) (h2 : mD name = none) (hB : typeLookup (.type "Exception") name = pure none) (I : h.Inst x C mA)
    (hq : ∀ h' tk', h'.Inst x C (fun y => if y = name then some v else mA y) →
      (∀ b o, b ≠ x → (∀ o₀ dx, h.get? x = some o₀ → o₀.dict = some dx → b ≠ dx) → h.get? b = some o → h'.get? b = some o) →
      (∀ o₀, h.get? x = some o₀ → ∃ o₁ dx, h'.get? x = some o₁ ∧ o₁.cls = o₀.cls ∧ o₁.data = o₀.data ∧ o₁.slots = o₀.slots ∧ o₁.dict = some dx ∧ (o₀.dict = some dx ∨ o₀.dict = none ∧ h.get? dx = none)) → Q (.done (.ret .none)) ⟨h', g, d, tk', os⟩) (hw : Within mA ns) (hsz : ns.length ≤ sizeLine) :
    wpAny (model prog w) A (Builtin.«object.__setattr__» ⟨[.ref x, .str name tk, v], []⟩) Q E ⟨h, g, d, t, os⟩ := by
  refine cps fun k_ => ?_
  obtain ⟨o, hx, hc, hnc, hd⟩ := I
  apply k_
  clear k_
  have hpass : refuseLoop (.ref x) "__setattr__" excMro = pure () := PySem.F.store_Exception.passes (.ref x)
  have X' := X
  refine cps fun k_ => ?_
  obtain ⟨⟨nm, q, N, bs, sn, sub, ab, col, dd, k0, k1, k2, k3, k5, hC, hn⟩, _⟩ := X'
  apply k_
  clear k_
  unfold Builtin.«object.__setattr__»
  repeat (first | rw [refuse_eq] | (rw [refuseLoop_ref, refuseLoop_ref, hpass]) | (with_reducible refine wpAny_loadPart_at hx ?_; rw [hc]) | with_reducible refine wpAny_mroOf_exc hC ?_ | (with_reducible refine xl_lookup X h1 h2 hB ?_) | wp_step)
  rcases hd with ⟨hdn, hmA⟩ | ⟨dx, hdx, hne, hns⟩
  ·
    rw [hdn, if_neg (by simp [typeHasDict])]
    split
    · rename_i hcd
      cases hcd
    split
    · rename_i c hcd
      exact absurd hcd (hnc c)
    · have hx₁ : (h.push { cls := .type "dict", data := .dict #[] }).get? x = some o := Heap.get?_push_of_some _ hx
      have hxs : x ≠ h.objs.size := Nat.ne_of_lt (Heap.lt_size hx)
      refine wpAny_bind (wpAny_alloc' ?_)
      refine wpAny_bind (wpAny_update' hx₁ ?_)
      refine wpAny_pure ?_
      have hgd : ((h.push { cls := .type "dict", data := .dict #[] }).update x fun o => { cls := o.cls, dict := some h.objs.size, data := o.data, slots := o.slots }).get? h.objs.size
          = some { cls := .type "dict", data := .dict #[] } :=
        (Heap.get?_update_ne _ _ _ _ hxs.symm).trans (Heap.get?_push_at rfl rfl)
      have hnd : ((h.push { cls := .type "dict", data := .dict #[] }).update x fun o => { cls := o.cls, dict := some h.objs.size, data := o.data, slots := o.slots }).Ns h.objs.size (fun z9 => none) :=
        ⟨_, #[], _, hgd, rfl, fun e he => absurd he (by simp), fun z9 => rfl⟩
      show wpAny _ _ (storeInDict h.objs.size (.str name tk) name v) _ _ _
      unfold storeInDict newKeyGuard
      refine wpAny_bind (wpAny_pure (wpAny_bind (wpAny_nsSet1 (Heap.Ns1.of_empty hnd) fun h' hn' hs => ?_)))
      refine cps fun k_ => ?_
      obtain ⟨oD, esD, epD, hoD, hdD, hcD⟩ := hn'.count (Within.cons name v Within.nil)
      apply k_
      clear k_
      refine wpAny_bind (wpAny_lookBehind hoD (by rw [hdD]; exact pastItsLine_dict (Nat.le_trans hcD (by rw [List.length_cons, List.length_nil, sizeLine_eq]; lia))) ?_)
      wp_walk
      have hx' : h'.get? x = some { cls := o.cls, dict := some h.objs.size, data := o.data, slots := o.slots } := ?_
      refine hq h' _ ⟨{ cls := o.cls, dict := some h.objs.size, data := o.data, slots := o.slots }, hx', hc, hnc, .inr ⟨h.objs.size, rfl, hxs.symm, ?_⟩⟩ (fun b ob hbx z9 hb => ?_)
        (fun o₀ h₀ => by obtain rfl : o = o₀ := Option.some.inj (hx.symm.trans h₀); exact ⟨_, h.objs.size, hx', rfl, rfl, rfl, rfl, .inr ⟨hdn, Heap.get?_none_of_le (Nat.le_refl _)⟩⟩)
      · refine cps fun k_ => ?_
        obtain ⟨o', es, ep, e1, e2, e3, eu, e4⟩ := hn'
        apply k_
        clear k_
        exact ⟨o', es, ep, e1, e2, e3, eu, fun y => by rw [e4 y]; by_cases hy : y = name <;> simp [hy, hmA]⟩
      · exact (hs.2 b (Nat.ne_of_lt (Heap.lt_size hb))).trans ((Heap.get?_update_ne _ _ _ _ hbx).trans (Heap.get?_push_of_some _ hb))
      · refine (hs.2 x hxs).trans (Heap.get?_update_self _ hx₁ ?_)
        have hfr := (Heap.get?_some_iff.mp hx).2
        refine cps fun k_ => ?_
        obtain ⟨oc, od, odt, osl⟩ := o
        apply k_
        clear k_
        cases odt <;> first | rfl | exact hfr
  ·
    rw [hdx]
    refine wpAny_pure ?_
    show wpAny _ _ (storeInDict dx (.str name tk) name v) _ _ _
    unfold storeInDict newKeyGuard
    refine wpAny_bind (wpAny_pure (wpAny_bind (wpAny_nsSet1 hns fun h' hn' hs => ?_)))
    refine cps fun k_ => ?_
    obtain ⟨oD, esD, epD, hoD, hdD, hcD⟩ := hn'.count (Within.cons name v hw)
    apply k_
    clear k_
    refine wpAny_bind (wpAny_lookBehind hoD (by rw [hdD]; exact pastItsLine_dict (Nat.le_trans hcD (by rw [List.length_cons]; lia))) ?_)
    wp_walk
    refine hq h' _ ⟨o, (hs.2 x hne.symm).trans hx, hc, hnc, .inr ⟨dx, hdx, hne, hn'⟩⟩ (fun b ob z9 hbd hb => ?_)
      (fun o₀ h₀ => by obtain rfl : o = o₀ := Option.some.inj (hx.symm.trans h₀); exact ⟨o, dx, (hs.2 x hne.symm).trans hx, rfl, rfl, rfl, hdx, .inl hdx⟩)
    exact (hs.2 b (hbd o dx hx hdx)).trans hb
theorem xs_attr {Q : Unit → Shared → Prop} {ns : List Str} (X : TwoCls h C D mN mD) (hs1 : mN "__setattr__" = none) (hs2 : mD "__setattr__" = none) (h1 : mN name = none) (h2 : mD name = none) (hB : typeLookup (.type "Exception") name = pure none) (I : h.Inst x C mA)
    (hq : ∀ h' tk', h'.Inst x C (fun y => if y = name then some v else mA y) →
      (∀ b o, b ≠ x → (∀ o₀ dx, h.get? x = some o₀ → o₀.dict = some dx → b ≠ dx) → h.get? b = some o → h'.get? b = some o) →
      (∀ o₀, h.get? x = some o₀ → ∃ o₁ dx, h'.get? x = some o₁ ∧ o₁.cls = o₀.cls ∧ o₁.data = o₀.data ∧ o₁.slots = o₀.slots ∧ o₁.dict = some dx ∧ (o₀.dict = some dx ∨ o₀.dict = none ∧ h.get? dx = none)) → Q () ⟨h', g, d, tk', os⟩) (hw : Within mA ns) (hsz : ns.length ≤ sizeLine) :
    wpAny (model prog w) A (setAttr (.ref x) name v) Q E ⟨h, g, d, t, os⟩ := by
  refine cps fun k_ => ?_
  obtain ⟨o, hx, hc, _⟩ := id I
  apply k_
  clear k_
  have SF := PySem.F.store_Exception
  have f3 := SF.slot.bind (.ref x)
  unfold setAttr callSpecial? specialOf
  repeat (any_goals (first | assumption | (with_reducible refine wpAny_loadPart_at hx ?_; rw [hc]) | (with_reducible refine xl_lookup X hs1 hs2 SF.slot.lookup ?_) | wp_step))
  refine codeAny_call_builtin SF.slot.plain SF.entry (xs_check X hx hc (xs_entry X h1 h2 hB I (fun h' tk' I' hk hsame => ?_) hw hsz))
  repeat (any_goals (first | assumption | wp_step))
  exact hq h' tk' I' hk hsame
end
section
local macro_rules | `(tactic| walk_at "setAttr ref") => `(tactic| (refine Halt.out ?_))
local macro_rules | `(tactic| walk_at "call builtin:Exception.__init__") => `(tactic| (refine Halt.out ?_))
theorem NsO.notFields {od : Obj} {mA : Str → Option Value} (h : NsO od mA) : ∀ vs, od.data ≠ .fields vs := fun vs e => by
  obtain ⟨es, ep, hd, _⟩ := h; rw [hd] at e; cases e
abbrev exO (C : Addr) (dict : Option Addr) (t : Addr) : Obj := ⟨.ref C, dict, .fields #[.ref t, .none, .none, .none, .bool false, .none], #[]⟩
section
variable {w : World} {A : Around} {E : Value → Shared → Prop} {s : Shared} {G : Heap} {L e C D t : Addr} {m : Str → Option Value} {led : Led} {mN mD mA : Str → Option Value} {name : Str} {v : Value}
theorem xs_set_new {Q : Unit → Shared → Prop} (X : TwoCls G C D mN mD) (hs1 : mN "__setattr__" = none) (hs2 : mD "__setattr__" = none) (h1 : mN name = none) (h2 : mD name = none) (hB : typeLookup (.type "Exception") name = pure none)
    (F : Fr G L s.heap m) (N : News G L s.heap ((e, exO C none t) :: led)) (hne : ∀ p ∈ led, p.1 ≠ e)
    (h : ∀ h' dx od tk', Fr G L h' m → News G L h' ((e, exO C (some dx) t) :: (dx, od) :: led) → NsO od (fun y => if y = name then some v else none) → @Ne Nat e dx → (∀ p ∈ led, p.1 ≠ dx) → Q () { s with heap := h', toks := tk' }) :
    wpAny (model PG w) A (setAttr (.ref e) name v) Q E s := by
  obtain ⟨hp, g, d, tk, os⟩ := s
  have he := (N (e, exO C none t) List.mem_cons_self)
  have I : hp.Inst e C (fun z9 => none) := ⟨_, he.1, rfl, fun c hc => (by cases hc), .inl ⟨rfl, fun z9 => rfl⟩⟩
  refine xs_attr (X.keeps F.keep) hs1 hs2 h1 h2 hB I (fun h' tk' I' hk hsame => ?_) (ns := []) Within.nil (by rw [sizeLine_eq]; decide)
  obtain ⟨o₁, dx, ho₁, e1, e2, e3, e4, e5⟩ := hsame _ he.1
  have hdx : hp.get? dx = none := by
    rcases e5 with e5 | e5
    · cases e5
    · exact e5.2
  have hk' : ∀ b o, b ≠ e → hp.get? b = some o → h'.get? b = some o := fun b o hb hbo => hk b o hb (fun o₀ dx' h₀ hd => by rw [he.1] at h₀; cases h₀; cases hd) hbo
  have ho₁' : o₁ = exO C (some dx) t := by
    obtain ⟨a, b, c, dd⟩ := o₁
    simp only at e1 e2 e3 e4
    subst e1 e2 e3 e4; rfl
  subst ho₁'
  obtain ⟨o₂, ho₂, hc₂, hnc, hd₂⟩ := I'
  rw [ho₁] at ho₂; cases ho₂
  rcases hd₂ with ⟨hd, _⟩ | ⟨d', hd, hne', hns⟩
  · cases hd
  cases hd
  obtain ⟨od, es, ep, hod, r⟩ := hns
  obtain ⟨oL, esL, epL, hL, hLr⟩ := F.ns
  have hLe : L ≠ e := fun q => he.2.1 q.symm
  have hGn : ∀ b o, G.get? b = some o → b ≠ e := fun b o hb q => by rw [q] at hb; rw [he.2.2] at hb; cases hb
  refine h h' dx od tk' ⟨⟨oL, esL, epL, hk' _ _ hLe hL, hLr⟩, fun b o hb => hk' b o (hGn b o hb) (F.keep b o hb), F.above⟩ (fun p hp' => ?_) ⟨es, ep, r.1, r.2.1, r.2.2.1, r.2.2.2⟩ hne'.symm (fun p hp' q => by have := (N p (List.mem_cons_of_mem _ hp')).1; rw [q, hdx] at this; cases this)
  rcases List.mem_cons.mp hp' with rfl | hp'
  · exact ⟨ho₁, he.2.1, he.2.2⟩
  rcases List.mem_cons.mp hp' with rfl | hp'
  · refine ⟨hod, fun q => ?_, ?_⟩
    · have q' : dx = L := q
      rw [q', hL] at hdx; cases hdx
    · cases q : G.get? dx with
      | none => rfl
      | some o => have := F.keep _ _ q; rw [hdx] at this; cases this
  · have Np := N p (List.mem_cons_of_mem _ hp')
    exact ⟨hk' _ _ (hne p hp') Np.1, Np.2⟩
theorem xs_set_old {dx : Addr} {od : Obj} {ns : List Str} {Q : Unit → Shared → Prop} (X : TwoCls G C D mN mD) (hs1 : mN "__setattr__" = none) (hs2 : mD "__setattr__" = none) (h1 : mN name = none) (h2 : mD name = none) (hB : typeLookup (.type "Exception") name = pure none)
    (F : Fr G L s.heap m) (N : News G L s.heap ((e, exO C (some dx) t) :: (dx, od) :: led)) (hod : NsO od mA) (hw : Within mA ns) (hsz : ns.length ≤ 100) (hne : ∀ p ∈ led, p.1 ≠ e) (hned : @Ne Nat e dx) (hne2 : ∀ p ∈ led, p.1 ≠ dx)
    (h : ∀ h' od' tk', Fr G L h' m → News G L h' ((e, exO C (some dx) t) :: (dx, od') :: led) → NsO od' (fun y => if y = name then some v else mA y) → Q () { s with heap := h', toks := tk' }) :
    wpAny (model PG w) A (setAttr (.ref e) name v) Q E s := by
  obtain ⟨hp, g, d, tk, os⟩ := s
  have he := (N (e, exO C (some dx) t) List.mem_cons_self)
  have hd0 := (N (dx, od) (List.mem_cons_of_mem _ List.mem_cons_self))
  obtain ⟨es, ep, hn1, hn2, hn3, hn4⟩ := hod
  have I : hp.Inst e C mA := ⟨_, he.1, rfl, fun c hc => (by cases hc), .inr ⟨dx, rfl, hned.symm, od, es, ep, hd0.1, hn1, hn2, hn3, hn4⟩⟩
  refine xs_attr (X.keeps F.keep) hs1 hs2 h1 h2 hB I (fun h' tk' I' hk hsame => ?_) hw (by rw [sizeLine_eq]; lia)
  obtain ⟨o₁, dx', ho₁, e1, e2, e3, e4, e5⟩ := hsame _ he.1
  have hdd : dx' = dx := by
    rcases e5 with e5 | e5
    · cases e5; rfl
    · cases e5.1
  subst hdd
  have hk' : ∀ b o, b ≠ e → b ≠ dx' → hp.get? b = some o → h'.get? b = some o := fun b o hb hb2 hbo => hk b o hb (fun o₀ dx2 h₀ hd => by rw [he.1] at h₀; cases h₀; cases hd; exact hb2) hbo
  have ho₁' : o₁ = exO C (some dx') t := by
    obtain ⟨a, b, c, dd⟩ := o₁
    simp only at e1 e2 e3 e4
    subst e1 e2 e3 e4; rfl
  subst ho₁'
  obtain ⟨o₂, ho₂, hc₂, hnc, hd₂⟩ := I'
  rw [ho₁] at ho₂; cases ho₂
  rcases hd₂ with ⟨hd, _⟩ | ⟨d', hd, hne', hns⟩
  · cases hd
  cases hd
  obtain ⟨od', es', ep', hod', r⟩ := hns
  obtain ⟨oL, esL, epL, hL, hLr⟩ := F.ns
  have hLe : L ≠ e := fun q => he.2.1 q.symm
  have hLd : L ≠ dx' := fun q => hd0.2.1 q.symm
  have hGn : ∀ b o, G.get? b = some o → b ≠ e := fun b o hb q => by rw [q] at hb; rw [he.2.2] at hb; cases hb
  have hGd : ∀ b o, G.get? b = some o → b ≠ dx' := fun b o hb q => by
    have z := hd0.2.2
    rw [q] at hb; rw [z] at hb; cases hb
  refine h h' od' tk' ⟨⟨oL, esL, epL, hk' _ _ hLe hLd hL, hLr⟩, fun b o hb => hk' b o (hGn b o hb) (hGd b o hb) (F.keep b o hb), F.above⟩ (fun p hp' => ?_) ⟨es', ep', r.1, r.2.1, r.2.2.1, r.2.2.2⟩
  rcases List.mem_cons.mp hp' with rfl | hp'
  · exact ⟨ho₁, he.2.1, he.2.2⟩
  rcases List.mem_cons.mp hp' with rfl | hp'
  · exact ⟨hod', hd0.2⟩
  · have Np := N p (List.mem_cons_of_mem _ (List.mem_cons_of_mem _ hp'))
    exact ⟨hk' _ _ (hne p hp') (hne2 p hp') Np.1, Np.2⟩
end
theorem meta_exc : typeOf (.type "Exception") = pure (.type "type") := by kernel_rfl
theorem find_exc : findCls [] (.type "Exception") (.type "type") "__init__" = some (.val (.builtin "Exception.__init__")) := by kernel_rfl
theorem method_exc {w : World} {A : Around} {E : Value → Shared → Prop} {s : Shared} {G : Heap} {L : Addr} {m : Str → Option Value} {pl : Sem Bool} {Q : Value × List Value → Shared → Prop} (F : Fr G L s.heap m) (h : Q (.builtin "Exception.__init__", []) { s with toks := s.toks + 1 }) :
    wpAny (model PG w) A (getMethod (.type "Exception") "__init__" pl) Q E s :=
  method_type (K := []) F (fun z9 z9 h => by cases h) meta_exc (by decide +kernel) find_exc rfl h
section
variable {prog : Program} {w : World} {A : Around} {E : Value → Shared → Prop} {h : Heap} {g : Array GenState} {d : Drawn} {tk : Nat} {os : OsState} {C D e t : Addr} {mN mD : Str → Option Value}
theorem xi_check {M : Model} {oe : Obj} {rest : List Value} {Q : Unit → Shared → Prop} (X : TwoCls h C D mN mD) (he : h.get? e = some oe) (hcls : oe.cls = .ref C) (hq : Q () ⟨h, g, d, tk, os⟩) :
    wpAny M A (checkBuiltinCall "Exception.__init__" ⟨.ref e :: rest, []⟩) Q E ⟨h, g, d, tk, os⟩ := by
  obtain ⟨⟨nm, q, N, bs, sn, sub, ab, col, dd, k0, k1, k2, k3, k5, hC, hn⟩, _⟩ := X
  have F := PySem.F.excBase_Exception
  have hcB : (Value.ref C :: .ref D :: excMro).contains (.type "Exception") = true := rfl
  have hshort := F.noStar
  simp only [checkBuiltinCall, F.initKind, F.initSplit, F.initRow]
  repeat (first | (with_reducible refine wpAny_loadPart_at he ?_; rw [hcls]) | with_reducible refine wpAny_loadPart_at hC ?_ | (with_reducible refine wpAny_isSubtype_exc hC ?_; rw [hcB]) | wp_step)
  refine wpAny_onRaise ?_
  rw [show ∀ (a b : String) (n : Nat), Bind.check ⟨.positional, "*", "Exception", .self, [⟨"args", .varPos, false⟩]⟩ a b n (List.map (fun x => x.fst) ({ pos := Value.ref e :: rest } : Args).kw) = pure () from
    fun a b n => check_star_args _ _ _ _ _ _]
  exact wpAny_pure hq
theorem xi_call {rest : List Value} {Q : Value → Shared → Prop} (X : TwoCls h C D mN mD) (he : h.get? e = some (exO C none t)) (hrest : rest.length ≤ 100)
    (hq : ∀ h' t2, h'.get? e = some (exO C none t2) → (∀ b o, b ≠ e → h.get? b = some o → h'.get? b = some o) → Q .none ⟨h', g, d, tk, os⟩) :
    wpAny (model prog w) A (call (.builtin "Exception.__init__") (.ref e :: rest)) Q E ⟨h, g, d, tk, os⟩ := by
  have F := PySem.F.excBase_Exception
  have hz : rest.length ≤ sizeLine := by rw [sizeLine_eq]; lia
  refine wpAny_call (codeAny_call_builtin F.init.plain F.initEntry (xi_check X he rfl ?_))
  wp_walk
  refine hq _ h.objs.size (Heap.get?_update_self _ (Heap.get?_push_of_some _ he) rfl) fun b o hb hbo => ?_
  rw [Heap.get?_update_other _ _ (Ne.symm hb)]
  exact Heap.get?_push_of_some _ hbo
end
section
variable {w : World} {mean : ExcName → Option Value} {mg mb : Str → Option Value}
theorem ns_at {K : Frag} {h : Heap} {N : Addr} {mg : Str → Option Value} {n : Str} {r : Option Value} (X : K.In h) (G : h.Ns N mg) (e : nsIn K N n = some r) : mg n = r := by
  obtain ⟨o, es, ep, ho, hd, _, hf⟩ := G
  unfold nsIn at e
  split at e
  · rename_i c d es' n' sl q
    have := X _ _ q
    rw [ho] at this
    cases this
    cases hd
    rw [← hf]
    unfold nsFind findBy
    rw [← Array.find?_toList]
    split at e
    · rename_i he; cases e; rw [he]; rfl
    · rename_i he
      split at e
      · cases e
      · cases e; rw [he]; rfl
  · cases e
theorem ns_ok {K : Frag} {N : Addr} (h : ∃ c d es n sl, K.lookup N = some ⟨c, d, .dict es n, sl⟩ ∧ (es.toList.all fun e => match e.key with | .str _ _ => true | _ => false) = true) : nsOkIn K N = true := by
  obtain ⟨c, d, es, n, sl, h1, h2⟩ := h
  unfold nsOkIn
  rw [h1]
  dsimp only
  rw [← Array.all_toList]
  exact h2
inductive TwoCl (G : Heap) : Prop
  | mk (mN mD : Str → Option Value) (h0 : TwoCls G 51 31 mN mD) (h1 : mN "__init__" = some (.ref 48)) (h2 : mN "__setattr__" = none) (h3 : mD "__setattr__" = none) (h4 : mN "text" = none) (h5 : mD "text" = none) (h6 : mN "line" = none) (h7 : mD "line" = none) (h8 : mN "__getattribute__" = none) (h9 : mD "__getattribute__" = none) : TwoCl G
theorem two_cls {G : Heap} (X : (hd.heap_39 w.params).In G) : TwoCl G := by
  have h51 : (hd.heap_39 w.params).lookup 51 = some (excClassObj "SyntaxDie" "SyntaxDie" 51 50 [.ref 31] (.ref 31 :: excMro) true [] [] false none none (some (.ref 35)) none (some (.str "SyntaxDie" 218)) (some (.str "SyntaxDie" 226)) (some (.bool true)) "Exception.__new__") := by k_is
  have o50 : nsOkIn (hd.heap_39 w.params) 50 = true := ns_ok ⟨_, _, _, _, _, by k_is, rfl⟩
  have o30 : nsOkIn (hd.heap_39 w.params) 30 = true := ns_ok ⟨_, _, _, _, _, by k_is, rfl⟩
  have n50 := Heap.Ns.of_isNs (isNs_of_in X o50)
  have n30 := Heap.Ns.of_isNs (isNs_of_in X o30)
  refine ⟨_, _, ⟨⟨_, _, _, _, _, _, _, _, _, _, _, _, _, _, X _ _ h51, n50⟩, ?_⟩, ns_at X n50 (by k_is), ns_at X n50 (by k_is), ns_at X n30 (by k_is), ns_at X n50 (by k_is), ns_at X n30 (by k_is), ns_at X n50 (by k_is), ns_at X n30 (by k_is), ns_at X n50 (by k_is), ns_at X n30 (by k_is)⟩
  have h31 : ∃ c0 dd cd sl, (hd.heap_39 w.params).lookup 31 = some { cls := c0, dict := dd, data := .cls cd, slots := sl } ∧ cd.ns = 30 := ⟨_, _, _, _, by k_is, rfl⟩
  obtain ⟨c0, dd, cd, sl, h31, hns⟩ := h31
  exact ⟨c0, dd, cd, sl, X _ _ h31, by rw [hns]; exact n30⟩
theorem txt_none : typeLookup (.type "Exception") "text" = pure none := by rw [typeLookup_type, builtinLookup_eq_fast]; kernel_rfl
theorem line_none : typeLookup (.type "Exception") "line" = pure none := by rw [typeLookup_type, builtinLookup_eq_fast]; kernel_rfl
theorem Fr_but {G h h' : Heap} {L e : Addr} {m : Str → Option Value} (F : Fr G L h m) (hk : ∀ b o, b ≠ e → h.get? b = some o → h'.get? b = some o) (hG : G.get? e = none) (hL : e ≠ L) : Fr G L h' m := by
  obtain ⟨oL, es, ep, hLo, r⟩ := F.ns
  exact ⟨⟨oL, es, ep, hk _ _ (Ne.symm hL) hLo, r⟩, fun b o hb => hk b o (fun q => by rw [q, hG] at hb; cases hb) (F.keep b o hb), F.above⟩
theorem init_perl {G : Heap} {e t : Addr} {txt : Str} {tk : Tok} {tup : Obj} (hne : @Ne Nat e t) :
    Triple w mean mg mb G 28 [.ref e, .str txt tk] 1 [(e, exO 51 none t), (t, tup)] (fun r ch' => r = .none ∧ ∃ dx od t2, ch' = [(e, exO 51 (some dx) t2), (dx, od)] ∧ NsO od (fun y => if y = "text" then some (.str txt tk) else none) ∧ @Ne Nat e dx) No := by
  show Triple _ _ _ _ _ _ _ _ _ _ _
  refine' enter (binds := [("self", .ref e), ("text", .str txt tk)]) ?k6 ?k7 ?k9 ?kB ?_ ?kn ?c5 ?c2 ?c3 ?c4
  case k6 => k_is
  case k7 => k_is
  case k9 => exact rfl
  case kB => exact locs rfl
  case kn => first | lia | (simp only [htP, htT, htS, htB]; lia)
  case c5 => decide
  case c2 => exact rfl
  case c3 => exact rfl
  case c4 => exact rfl
  k_whole
  intro dp un gd frs base A₀ s L h₁ tk₁ Qb Eb B X T hdp hun F N hlt hret hexc hown
  (try dsimp only at F)
  k_steps
  refine method_exc (by assumption) ?_
  k_steps
  refine Halt.mk ?_
  obtain ⟨mN, mD, X2, i1, i2, i3, i4, i5, i6, i7, i8, i9⟩ := two_cls X
  rename Fr _ _ _ _ => F9
  rename News _ _ _ _ => N9
  have he9 := N9 (e, exO 51 none t) List.mem_cons_self
  refine xi_call (X2.keeps F9.keep) he9.1 (by simp) fun h2 t2 he2 hk2 => ?_
  have F2 := Fr_but F9 hk2 he9.2.2 he9.2.1
  have N2 : News G L h2 [(e, exO 51 none t2)] := fun p hp => by rw [List.mem_singleton.mp hp]; exact ⟨he2, he9.2⟩
  clear N9
  k_steps
  refine Halt.mk ?_
  refine xs_set_new X2 i2 i3 i4 i5 txt_none (by assumption) N2 (fun z9 h => nomatch h) ?_
  intro h3 dx od tk3 F3 N3 hod hned hne2
  clear N2 F2
  k_steps
  exact hret .next _ _ _ _ F3 N3 ⟨rfl, dx, od, t2, rfl, hod, hned⟩
theorem init_die {G : Heap} {e t : Addr} {txt : Str} {tk tl : Tok} {ln : Int} {tup : Obj} (hne : @Ne Nat e t) :
    Triple w mean mg mb G 48 [.ref e, .str txt tk, .int ln tl] 2 [(e, exO 51 none t), (t, tup)] (fun r ch' => r = .none ∧ ∃ dx od t2, ch' = [(e, exO 51 (some dx) t2), (dx, od)] ∧ NsO od (fun y => if y = "line" then some (.int ln tl) else if y = "text" then some (.str txt tk) else none) ∧ @Ne Nat e dx) No := by
  show Triple _ _ _ _ _ _ _ _ _ _ _
  refine' enter (binds := [("self", .ref e), ("text", .str txt tk), ("line", .int ln tl)]) ?k6 ?k7 ?k9 ?kB ?_ ?kn ?c5 ?c2 ?c3 ?c4
  case k6 => k_is
  case k7 => k_is
  case k9 => exact rfl
  case kB => exact locs rfl
  case kn => first | lia | (simp only [htP, htT, htS, htB]; lia)
  case c5 => decide
  case c2 => exact rfl
  case c3 => exact rfl
  case c4 => exact rfl
  k_whole
  intro dp un gd frs base A₀ s L h₁ tk₁ Qb Eb B X T hdp hun F N hlt hret hexc hown
  (try dsimp only at F)
  k_steps
  refine Halt.mk ?_
  refine useN (ch := [(e, exO 51 none t), (t, tup)]) (rest := []) (by assumption) (by assumption) (news_nilr (by assumption)) (by assumption) (by assumption) apart_nilr (by exact rfl) (by exact rfl) hdp hun (by first | exact Nat.lt_succ_self _ | lia | (simp only [List.length_cons]; lia)) (fun G₂ st₂ rst₂ => init_perl hne) ?_
  intro r' ch' h' tk' F' N' A' P'
  obtain ⟨rfl, dx, od, t2, rfl, hod, hned⟩ := P'
  replace N' := news_unnil N'
  obtain ⟨mN, mD, X2, i1, i2, i3, i4, i5, i6, i7, i8, i9⟩ := two_cls X
  k_steps
  refine Halt.mk ?_
  refine xs_set_old (ns := ["text"]) X2 i2 i3 i6 i7 line_none (by assumption) N' hod (Within.cons _ _ Within.nil) (by simp) (fun z9 h => nomatch h) hned (fun z9 h => nomatch h) ?_
  intro h3 od' tk3 F3 N3 hod'
  clear N'
  k_steps
  exact hret .next _ _ _ _ F3 N3 ⟨rfl, dx, od', t2, rfl, hod', hned⟩
end
end
section
local macro_rules | `(tactic| k_mem) => `(tactic| with_reducible assumption)
section
local macro_rules | `(tactic| walk_at "exec Raise some none") => `(tactic| (refine Halt.out ?_))
section
variable {M : Model} {A : Around} {E : Value → Shared → Prop} {s : Shared} {env : Env} {C D : Addr} {mN mD : Str → Option Value}
theorem xr_stmt {x : Sem Value} {Q : Flow → Shared → Prop} (hh : A.handled = none)
    (h : wpAny M A x (fun v s₁ => ∃ e dx t, v = .ref e ∧ TwoCls s₁.heap C D mN mD ∧ s₁.heap.get? e = some (exO C (some dx) t) ∧ E (.ref e) s₁) E s) : wpAny M A (raiseStmt env (some x) none) Q E s := by
  have hcB : (Value.ref C :: .ref D :: excMro).contains (.type "BaseException") = true := rfl
  unfold raiseStmt
  refine wpAny_bind (wpAny_mono h (fun v s₁ h₁ => ?_) fun z9 z9 x => x)
  refine cps fun k_ => ?_
  obtain ⟨e, dx, t, rfl, ⟨⟨nm, q, N, bs, sn, sub, ab, col, dd, k0, k1, k2, k3, k5, hC, hn⟩, _⟩, he, hE⟩ := h₁
  apply k_
  clear k_
  refine cps fun k_ => ?_
  obtain ⟨hp, g, d, tk, os⟩ := s₁
  apply k_
  clear k_
  repeat (first | with_reducible refine wpAny_loadPart_at he ?_ | with_reducible refine wpAny_loadPart_at hC ?_ | (with_reducible refine wpAny_isSubtype_exc hC ?_; rw [hcB]) | wp_step)
  exact wpAny_raiseNew_none hh hE
theorem xr_Raise {x : PySem.Expr} {pos : Pos} {Q : Flow → Shared → Prop} (hh : A.handled = none)
    (h : wpAny M A (eval x env) (fun v s₁ => ∃ e dx t, v = .ref e ∧ TwoCls s₁.heap C D mN mD ∧ s₁.heap.get? e = some (exO C (some dx) t) ∧ E (.ref e) s₁) E s) : wpAny M A (exec (.Raise (some x) none pos) env) Q E s := by
  rw [arm_exec_Raise]
  first
    | exact wpAny_bind (wpAny_standAt (xr_stmt hh (wpAny_bind (wpAny_mono h (fun v s₁ h₁ => wpAny_bind (wpAny_standAt (wpAny_pure h₁))) fun z9 z9 x => x))))
    | (simp only [evalOpt, Option.map]; exact wpAny_bind (wpAny_standAt (xr_stmt hh (wpAny_bind (wpAny_mono h (fun v s₁ h₁ => wpAny_bind (wpAny_standAt (wpAny_pure h₁))) fun z9 z9 x => x)))))
    | exact wpAny_bind (wpAny_standAt (xr_stmt hh (wpAny_mono h (fun v s₁ h₁ => h₁) fun z9 z9 x => x)))
end
section
variable {w : World} {mean : ExcName → Option Value} {mg mb : Str → Option Value}
theorem die_made {G base : Heap} {ch : Led} {dp un : Nat} {gd : Option (List Code)} {outer : List Env} {env : Env} {A₀ : Around} {s : Shared} {Q E : Value → Shared → Prop} {L : Addr} {m : Str → Option Value} {txt : Str} {tk tl : Tok} {ln : Int}
    (B : Below A₀ base outer G) (F : Fr G L s.heap m) (N : News G L s.heap ch) (X : (hd.heap_39 w.params).In G) (T : Top hd.view_39 LO mean mg mb G)
    (hf : env.frame = some L) (hke : env.scope.kind = .function) (hdp : dp + 3 < recursionLimit) (hun : un + 20 < cLine)
    (h : ∀ e dx od t2 h' tk', Fr G L h' m → News G L h' [(e, exO 51 (some dx) t2), (dx, od)] → LineOf od ln → @Ne Nat e dx → Q (.ref e) { s with heap := h', toks := tk' }) :
    wpAny (model PG w) (arn dp un gd (env :: outer)) (call (.ref 51) [.str txt tk, .int ln tl]) Q E s := by
  refine cps fun k_ => ?_
  obtain ⟨mN, mD, X2, i0, i2, i3, i4, i5, i6, i7, i8, i9⟩ := two_cls X
  apply k_
  clear k_
  have X3 := X2.keeps F.keep
  have X3' := X3
  refine cps fun k_ => ?_
  obtain ⟨⟨nm, q, N9, bs, sn, sub, ab, col, dd, k0, k1, k2, k3, k5, hC, hn⟩, _⟩ := X3'
  apply k_
  clear k_
  have h48 : ∃ oc od fd osl, (hd.heap_39 w.params).lookup 48 = some ⟨oc, od, .func fd, osl⟩ ∧ oc = .type "function" := ⟨_, _, _, _, by k_is, rfl⟩
  refine cps fun k_ => ?_
  obtain ⟨oc, od48, fd, osl, h48, rfl⟩ := h48
  apply k_
  clear k_
  refine cps fun k_ => ?_
  obtain ⟨hp, g, d, tk0, os⟩ := s
  apply k_
  clear k_
  refine xc_call PySem.F.excBase_Exception (by rfl) (by rfl) (by rfl) hC hn i0 (F.keep _ _ (X _ _ h48)) rfl (fun h' e hm => ?_) (by rw [sizeLine_eq]; exact (by decide : 2 ≤ 16777216))
  refine cps fun k_ => ?_
  obtain ⟨t, he, ht0, ht⟩ := hm.there
  apply k_
  clear k_
  have hnew : ∀ b o, hp.get? b = some o → @Ne Nat b t := fun b o hb q => by have q' : b = t := q; rw [q', ht0] at hb; cases hb
  have hnew2 : ∀ b o, hp.get? b = some o → @Ne Nat b e := fun b o hb q => by have q' : b = e := q; rw [q', hm.new] at hb; cases hb
  have het : @Ne Nat e t := fun q => by have q' : e = t := q; rw [q', ht] at he; cases he
  have F1 := Fr_up F hm.keeps
  have N1 := News_new F N hm.keeps ht hnew
  have N2 : News G L h' ((e, exO 51 none t) :: (t, { cls := .type "tuple", data := .seq [Value.str txt tk, Value.int ln tl].toArray }) :: ch) := fun p hp' => by
    rcases List.mem_cons.mp hp' with rfl | hp'
    · exact News_new F N hm.keeps he hnew2 _ List.mem_cons_self
    · exact N1 p hp'
  have Ap : Apart [(e, exO 51 none t), (t, { cls := .type "tuple", data := .seq [Value.str txt tk, Value.int ln tl].toArray })] ch := fun p hp1 p2 hp2 => by
    have z := (N p2 hp2).1
    rcases List.mem_cons.mp hp1 with rfl | hp1
    · exact (hnew2 _ _ z).symm
    · rw [List.mem_singleton.mp hp1]; exact (hnew _ _ z).symm
  have hA : (arn dp un gd (env :: outer)).under (.builtin "type.__call__" ⟨.ref 51 :: [.str txt tk, .int ln tl], []⟩) = arn (dp + 1) (un + 1) gd (env :: outer) := by kernel_rfl
  have fin : wpAny (model PG w) (arn (dp + 1) (un + 1) gd (env :: outer)) (call (.ref 48) (.ref e :: [.str txt tk, .int ln tl])) (fun r s' => r = .none ∧ Q (.ref e) s') E ⟨h', g, d, tk0, os⟩ := by
    refine use0 (ch := [(e, exO 51 none t), (t, { cls := .type "tuple", data := .seq [Value.str txt tk, Value.int ln tl].toArray })]) (rest := ch) (n := 2) B F1 N2 X T Ap hf hke (by lia) (by lia) (fun G₂ st₂ rst₂ => init_die het) ?_ (fun z9 z9 z9 z9 z9 h => h.elim)
    intro r' ch' h2 tk' F' N' A' P'
    refine cps fun k_ => ?_
    obtain ⟨rfl, dx, od, t2, rfl, hod, hned⟩ := P'
    apply k_
    clear k_
    exact ⟨rfl, h e dx od t2 h2 tk' F' (news_sub N' fun p hp' => List.mem_append_left _ hp') ⟨_, tl, hod, rfl⟩ hned⟩
  rw [hA]; exact fin
theorem not_bad : ∀ x ∈ allNames, (Builtin.Str.occurrences x (Str.ofString "::") 0 x.length 1).isEmpty = true → badName false x = false := by decide +kernel
theorem my_bad1 : ∀ x ∈ allNames, ([Str.ofString "", Str.ofString "_"].any fun y => y == x) = true → badName true x = true := by decide +kernel
theorem my_bad2 : ∀ x ∈ allNames, (Builtin.Str.occurrences (Str.ofString "abcdefghijklmnopqrstuvwxyzABCDEFGHIJKLMNOPQRSTUVWXYZ_") (Txt.item x 0) 0 (Str.ofString "abcdefghijklmnopqrstuvwxyzABCDEFGHIJKLMNOPQRSTUVWXYZ_").length 1).isEmpty = true → badName true x = true := by decide +kernel
theorem my_fine : ∀ x ∈ allNames, (Builtin.Str.occurrences x (Str.ofString "::") 0 x.length 1).isEmpty = true → ([Str.ofString "", Str.ofString "_"].any fun y => y == x) = false → (Builtin.Str.occurrences (Str.ofString "abcdefghijklmnopqrstuvwxyzABCDEFGHIJKLMNOPQRSTUVWXYZ_") (Txt.item x 0) 0 (Str.ofString "abcdefghijklmnopqrstuvwxyzABCDEFGHIJKLMNOPQRSTUVWXYZ_").length 1).isEmpty = false → badName true x = false := by decide +kernel
theorem thrown_of {G base : Heap} {outer : List Env} {A₀ : Around} {L e dx t2 a : Addr} {h : Heap} {m : Str → Option Value} {od : Obj} {ln : Int} {name : Str} {scope : Scope} {cd : Value} (B : Below A₀ base outer G) (F : Fr G L h m) (N : News G L h [(e, exO 51 (some dx) t2), (dx, od)]) (hod : LineOf od ln) (hk : scope.kind = .function) :
    Thrown base (envOf name scope L a cd :: outer) G L e ln h := by
  have K := B.push (name := name) (a := a) (cd := cd) F hk
  have he := N (e, exO 51 (some dx) t2) List.mem_cons_self
  have hd := N (dx, od) (List.mem_cons_of_mem _ List.mem_cons_self)
  refine ⟨dx, od, ⟨K.stays, K.frames, none_of B.stays he.2.2, none_of B.stays hd.2.2, fun hm => ?_, hd.1, ?_⟩, .inl ⟨_, he.1, rfl⟩, hod, hd.2.2⟩
  · refine cps fun k_ => ?_
    obtain ⟨en, hen, hf⟩ := List.mem_filterMap.mp hm
    apply k_
    clear k_
    rcases List.mem_cons.mp hen with rfl | hen
    · exact hd.2.1 (Option.some.inj hf).symm
    · refine cps fun k_ => ?_
      obtain ⟨_, o, ho, _⟩ := B.frames.mem (List.mem_filterMap.mpr ⟨en, hen, hf⟩)
      apply k_
      clear k_
      rw [hd.2.2] at ho; cases ho
  · obtain ⟨mA, tk, ⟨es, ep, hdd, _⟩, _⟩ := hod
    intro vs q; rw [hdd] at q; cases q
theorem check_our {G : Heap} {f : Fm} {σ : List Fm} {v : Value} {ch : Led} {x9 : Str} {t9 u9 : Tok} (hc : Chain w (f :: σ) v ch) (hx : x9 ∈ allNames) :
    Triple w mean mg mb G 173 [v, .str "our" t9, .str x9 u9] 4 ch (fun r ch' => ch' = ch ∧ badName false x9 = false) (fun l => badName false x9 = true ∧ l = f.ln.1) := by
  have hxl := name_len x9 hx
  obtain ⟨x, dx, bl, wt, cp, t, vo, bs, ws, caps, n1, n2, n3, rfl, hm1, hm2, hm3, hm4, hm5⟩ := chain_see hc
  show Triple _ _ _ _ _ _ _ _ _ _ _
  refine' enter (binds := [("scope", .ref x), ("word", .str "our" t9), ("name", .str x9 u9)]) ?k6 ?k7 ?k9 ?kB ?_ ?kn ?c5 ?c2 ?c3 ?c4
  case k6 => k_is
  case k7 => k_is
  case k9 => exact rfl
  case kB => exact locs rfl
  case kn => first | lia | (simp only [htP, htT, htS, htB]; lia)
  case c5 => decide
  case c2 => exact rfl
  case c3 => exact rfl
  case c4 => exact rfl
  k_whole
  intro dp un gd frs base A₀ s L h₁ tk₁ Qb Eb B X T hdp hun F N hlt hret hexc hown
  (try dsimp only at F)
  k_steps
  · rename _ = true => e9
    exact hret .next _ _ _ _ (by assumption) (by assumption) ⟨rfl, not_bad x9 hx e9⟩
  · rename _ = false => e9
    have hbad : badName false x9 = true := by
      rcases colon_or x9 hx with h | rfl | rfl
      · rw [h] at e9; cases e9
      · decide
      · decide
    refine Halt.mk ?_
    refine cps fun k_ => ?_
    obtain ⟨mN, mD, X2, i0, i2, i3, i4, i5, i6, i7, i8, i9⟩ := two_cls X
    apply k_
    clear k_
    refine xr_Raise (C := 51) (D := 31) (mN := mN) (mD := mD) rfl ?_
    k_steps
    refine Halt.mk ?_
    refine die_made (by assumption) (by assumption) (by assumption) (by assumption) (by assumption) (by exact rfl) (by exact rfl) (by lia) (by lia) ?_
    intro e dx9 od t2 h9 tk9 F9 N9 hod hned
    (try clear N)
    k_steps
    exact Halt.mk ⟨e, dx9, t2, rfl, X2.keeps (Fr.keep (by assumption)), (N9 (e, exO 51 (some dx9) t2) List.mem_cons_self).1, hexc _ _ _ _ (thrown_of B (by assumption) N9 hod rfl) (Heap.UpToSlots.of_keeps (Fr.keep (by assumption))) ⟨hbad, rfl⟩⟩
theorem check_my {G : Heap} {f : Fm} {σ : List Fm} {v : Value} {ch : Led} {x9 : Str} {t9 u9 : Tok} (hc : Chain w (f :: σ) v ch) (hx : x9 ∈ allNames) :
    Triple w mean mg mb G 173 [v, .str "my" t9, .str x9 u9] 4 ch (fun r ch' => ch' = ch ∧ badName true x9 = false) (fun l => badName true x9 = true ∧ l = f.ln.1) := by
  have hxl := name_len x9 hx
  obtain ⟨x, dx, bl, wt, cp, t, vo, bs, ws, caps, n1, n2, n3, rfl, hm1, hm2, hm3, hm4, hm5⟩ := chain_see hc
  show Triple _ _ _ _ _ _ _ _ _ _ _
  refine' enter (binds := [("scope", .ref x), ("word", .str "my" t9), ("name", .str x9 u9)]) ?k6 ?k7 ?k9 ?kB ?_ ?kn ?c5 ?c2 ?c3 ?c4
  case k6 => k_is
  case k7 => k_is
  case k9 => exact rfl
  case kB => exact locs rfl
  case kn => first | lia | (simp only [htP, htT, htS, htB]; lia)
  case c5 => decide
  case c2 => exact rfl
  case c3 => exact rfl
  case c4 => exact rfl
  k_whole
  intro dp un gd frs base A₀ s L h₁ tk₁ Qb Eb B X T hdp hun F N hlt hret hexc hown
  (try dsimp only at F)
  k_steps
  · have hbad : badName true x9 = true := my_bad1 x9 hx (by assumption)
    refine Halt.mk ?_
    refine cps fun k_ => ?_
    obtain ⟨mN, mD, X2, i0, i2, i3, i4, i5, i6, i7, i8, i9⟩ := two_cls X
    apply k_
    clear k_
    refine xr_Raise (C := 51) (D := 31) (mN := mN) (mD := mD) rfl ?_
    k_steps
    refine Halt.mk ?_
    refine die_made (by assumption) (by assumption) (by assumption) (by assumption) (by assumption) (by exact rfl) (by exact rfl) (by lia) (by lia) ?_
    intro e dx9 od t2 h9 tk9 F9 N9 hod hned
    (try clear N)
    k_steps
    exact Halt.mk ⟨e, dx9, t2, rfl, X2.keeps (Fr.keep (by assumption)), (N9 (e, exO 51 (some dx9) t2) List.mem_cons_self).1, hexc _ _ _ _ (thrown_of B (by assumption) N9 hod rfl) (Heap.UpToSlots.of_keeps (Fr.keep (by assumption))) ⟨hbad, rfl⟩⟩
  · have hbad : badName true x9 = true := my_bad2 x9 hx (by assumption)
    refine Halt.mk ?_
    refine cps fun k_ => ?_
    obtain ⟨mN, mD, X2, i0, i2, i3, i4, i5, i6, i7, i8, i9⟩ := two_cls X
    apply k_
    clear k_
    refine xr_Raise (C := 51) (D := 31) (mN := mN) (mD := mD) rfl ?_
    k_steps
    refine Halt.mk ?_
    refine die_made (by assumption) (by assumption) (by assumption) (by assumption) (by assumption) (by exact rfl) (by exact rfl) (by lia) (by lia) ?_
    intro e dx9 od t2 h9 tk9 F9 N9 hod hned
    (try clear N)
    k_steps
    exact Halt.mk ⟨e, dx9, t2, rfl, X2.keeps (Fr.keep (by assumption)), (N9 (e, exO 51 (some dx9) t2) List.mem_cons_self).1, hexc _ _ _ _ (thrown_of B (by assumption) N9 hod rfl) (Heap.UpToSlots.of_keeps (Fr.keep (by assumption))) ⟨hbad, rfl⟩⟩
  · rename News _ _ _ _ => N9
    exact hret .next _ _ _ _ (by assumption) (news_sub N9 fun p hp => List.mem_cons_of_mem _ hp) ⟨rfl, my_fine x9 hx (by assumption) (by assumption) (by assumption)⟩
  · rename _ = false => e9
    have hbad : badName true x9 = true := by
      rcases colon_or x9 hx with h | rfl | rfl
      · rw [h] at e9; cases e9
      · decide
      · decide
    refine Halt.mk ?_
    refine cps fun k_ => ?_
    obtain ⟨mN, mD, X2, i0, i2, i3, i4, i5, i6, i7, i8, i9⟩ := two_cls X
    apply k_
    clear k_
    refine xr_Raise (C := 51) (D := 31) (mN := mN) (mD := mD) rfl ?_
    k_steps
    refine Halt.mk ?_
    refine die_made (by assumption) (by assumption) (by assumption) (by assumption) (by assumption) (by exact rfl) (by exact rfl) (by lia) (by lia) ?_
    intro e dx9 od t2 h9 tk9 F9 N9 hod hned
    (try clear N)
    k_steps
    exact Halt.mk ⟨e, dx9, t2, rfl, X2.keeps (Fr.keep (by assumption)), (N9 (e, exO 51 (some dx9) t2) List.mem_cons_self).1, hexc _ _ _ _ (thrown_of B (by assumption) N9 hod rfl) (Heap.UpToSlots.of_keeps (Fr.keep (by assumption))) ⟨hbad, rfl⟩⟩
end
end
section
local macro_rules | `(tactic| walk_at "binaryOp Add str str") => `(tactic| (k_here; (fail_if_success (with_reducible show wpAny _ _ (binaryOp _ (Value.str _ _) (Value.str (PySem.Str.ofString _) _)) _ _ _)); k_dflt (refine add_key (by k_memK) (by k_memK) ?_; intro _ _)))
local macro_rules | `(tactic| walk_at "subscriptTail") => `(tactic| refine halt_s1 ?_)
local macro_rules | `(tactic| walk_at "call builtin:list.append") => `(tactic| (refine Halt.out ?_))
theorem nd_told {F B W R T : Led} {a a' T1 : Addr × Obj} (h : ND (F ++ (B ++ ((a :: (T ++ W)) ++ R)))) (ha : a'.1 = a.1) (hT : ∀ q ∈ F ++ (B ++ ((a :: (T ++ W)) ++ R)), q.1 ≠ T1.1) : ND (F ++ (B ++ ((a' :: ((T1 :: T) ++ W)) ++ R))) := by
  have h2 : ND (F ++ (B ++ ((a' :: (T ++ W)) ++ R))) := ND.keys (l := F ++ (B ++ ((a :: (T ++ W)) ++ R))) (by simp [ha]) h
  have e : F ++ (B ++ ((a' :: (T ++ W)) ++ R)) = (F ++ (B ++ [a'])) ++ ((T ++ W) ++ R) := by simp only [List.append_assoc, List.cons_append, List.nil_append]
  rw [e] at h2
  have b := ND.insert (p := T1) h2 fun q hq => by
    have : ∃ o, (q.1, o) ∈ F ++ (B ++ ((a :: (T ++ W)) ++ R)) := by
      simp only [List.mem_append, List.mem_cons, List.not_mem_nil, or_false] at hq
      rcases hq with (hq | hq | hq) | (hq | hq) | hq
      · exact ⟨q.2, by simp [hq]⟩
      · exact ⟨q.2, by simp [hq]⟩
      · exact ⟨a.2, by rw [hq, ha]; simp⟩
      · exact ⟨q.2, by simp [hq]⟩
      · exact ⟨q.2, by simp [hq]⟩
      · exact ⟨q.2, by simp [hq]⟩
    obtain ⟨o, ho⟩ := this
    exact hT (q.1, o) ho
  have e2 : (F ++ (B ++ [a'])) ++ T1 :: ((T ++ W) ++ R) = F ++ (B ++ ((a' :: ((T1 :: T) ++ W)) ++ R)) := by simp only [List.append_assoc, List.cons_append, List.nil_append]
  rw [e2] at b
  exact b
theorem mem_told {F B W R T : Led} {a : Addr × Obj} : ∀ p ∈ a :: (F ++ (B ++ ((T ++ W) ++ R))), p ∈ F ++ (B ++ ((a :: (T ++ W)) ++ R)) := fun p hp => by
  simp only [List.mem_append, List.mem_cons] at hp ⊢
  rcases hp with hp | hp | hp | (hp | hp) | hp <;> simp only [hp, true_or, or_true]
theorem mem_toldD {F B W R T : Led} {a D : Addr × Obj} : ∀ p ∈ a :: D :: (F ++ (B ++ ((T ++ W) ++ R))), p ∈ D :: (F ++ (B ++ ((a :: (T ++ W)) ++ R))) := fun p hp => by
  simp only [List.mem_append, List.mem_cons] at hp ⊢
  rcases hp with hp | hp | hp | hp | (hp | hp) | hp <;> simp only [hp, true_or, or_true]
theorem mem_told' {F B W R T : Led} {a T1 : Addr × Obj} : ∀ p ∈ F ++ (B ++ ((a :: ((T1 :: T) ++ W)) ++ R)), p ∈ a :: T1 :: (F ++ (B ++ ((T ++ W) ++ R))) := fun p hp => by
  simp only [List.mem_append, List.mem_cons] at hp ⊢
  rcases hp with hp | hp | ((hp | (hp | hp) | hp) | hp) <;> simp only [hp, true_or, or_true]
theorem nd_mida {F B Z : Led} {a : Addr × Obj} (h : ND (F ++ (B ++ (a :: Z)))) : ∀ p ∈ F ++ (B ++ Z), p.1 ≠ a.1 := by
  have e : F ++ (B ++ (a :: Z)) = (F ++ B) ++ a :: Z := by simp only [List.append_assoc]
  rw [e] at h
  have := h.mid
  rw [List.append_assoc] at this
  exact this
theorem rai_pass {s : Shared} {base G : Heap} {L : Addr} {frs : List Env} {m : Str → Option Value} {Ex : Int → Prop} {Eb : Value → Shared → Prop} (hexc : Rai s base G L frs Ex Eb) : ∀ e ln h' tk', (∃ G₂, Fr G L G₂ m ∧ Exn base frs G₂ e ln h' ∧ G₂.UpToSlots h') → Ex ln → Eb (.ref e) { s with heap := h', toks := tk' } :=
  fun e ln h' tk' ⟨_, F₂, hx, hu⟩ hex => hexc e ln h' tk' (hx.thrown F₂.keep L) ((Heap.UpToSlots.of_keeps F₂.keep).trans hu) hex
def ToldPost (w : World) (my : Bool) (a0 w0 : Vis) (lv : List (Vis × Vis)) (ln : Lin) (σ : List Fm) (v : Value) (key : Str) (x9 : Str) (r : Value) (ch' : Led) : Prop :=
  badName my x9 = false ∧ ∃ a1 wd tk pl ch'', r = .ref a1 ∧ ch' = (a1, tupO [.str wd tk, pl]) :: ch'' ∧ Chain w (⟨(a0, (key, my) :: w0) :: lv, ln⟩ :: σ) v ch'' ∧ (∀ p ∈ ch'', p.1 ≠ a1) ∧ WordIs wd my
section
variable {w : World} {mean : ExcName → Option Value} {mg mb : Str → Option Value}
end
local macro_rules | `(tactic| walk_at "subscriptTail Name Name ref str") => `(tactic| (refine Halt.out ?_))
section
variable {w : World} {mean : ExcName → Option Value} {mg mb : Str → Option Value}
theorem rour {G : Heap} {a0 w0 : Vis} {lv : List (Vis × Vis)} {ln : Lin} {σ : List Fm} {v : Value} {ch : Led} {ad : Addr} {sg x9 : Str} {t1 t2 t3 : Tok} (hc : Chain w (⟨(a0, w0) :: lv, ln⟩ :: σ) v ch) (hl : lv.length ≤ 900) (hw : w0.length ≤ 1000) (hsg : sg ∈ sigs) (hx : x9 ∈ allNames) (ha : G.get? ad = some (tupO [.str "our" t1, .str sg t2, .str x9 t3])) :
    Triple w mean mg mb G 187 [v, .ref ad] 6 ch (ToldPost w false a0 w0 lv ln σ v (keyOf sg x9) x9) (fun l => badName false x9 = true ∧ l = ln.1) := by
  have hT : IsTup G ad (List.toArray [.str "our" t1, .str sg t2, .str x9 t3]) := tup_of ha
  have hxl := name_len x9 hx
  obtain ⟨x, dx, bl, wt, cp, t, vo, bs, ws, caps, n1, n2, n3, rfl, hm1, hm2, hm3, hm4, hm5⟩ := chain_see hc
  show Triple _ _ _ _ _ _ _ _ _ _ _
  refine' enter (binds := [("scope", .ref x), ("node", .ref ad)]) ?k6 ?k7 ?k9 ?kB ?_ ?kn ?c5 ?c2 ?c3 ?c4
  case k6 => k_is
  case k7 => k_is
  case k9 => exact rfl
  case kB => exact locs rfl
  case kn => first | lia | (simp only [htP, htT, htS, htB]; lia)
  case c5 => decide
  case c2 => exact rfl
  case c3 => exact rfl
  case c4 => exact rfl
  k_whole
  intro dp un gd frs base A₀ s L h₁ tk₁ Qb Eb B X T hdp hun F N hlt hret hexc hown
  (try dsimp only at F)
  k_steps
  refine Halt.mk ?_
  refine use (ch := ch) (rest := []) (by assumption) (by assumption) (news_nilr (by assumption)) (by assumption) (by assumption) apart_nilr (by exact rfl) (by exact rfl) hdp hun (by first | exact Nat.lt_succ_self _ | lia | (simp only [List.length_cons]; lia)) (fun G₂ st₂ rst₂ => check_our hc hx) ?_ ?_
  · intro r' ch' h' tk' F' N' A' P'
    obtain ⟨rfl, hbad⟩ := P'
    replace N' := news_unnil N'
    clear A'
    k_steps
    refine Halt.mk ?_
    refine useN (ch := []) (rest := ch') (by assumption) (by assumption) (by assumption) (by assumption) (by assumption) (Apart.symm apart_nilr) (by exact rfl) (by exact rfl) hdp hun (by first | exact Nat.lt_succ_self _ | lia | (simp only [List.length_cons]; lia)) (fun G₂ st₂ rst₂ => whole_ok hx) ?_
    intro r' c8 h' tk' F' N' A' P'
    refine cps fun k_ => ?_
    obtain ⟨rfl, y9, t9, rfl⟩ := P'
    apply k_
    clear k_
    replace N' : News G L h' ch' := N'
    have hc8 := hc
    clear A' hc hm1 hm2 hm3 hm4 hm5
    refine cps fun k_ => ?_
    obtain ⟨⟨x8, dx, bl, wt, cp, t, vo, bs, ws, caps, n1, n2, n3, kv0, B9, W9, R9, hxe, rfl, hB, hW, hR⟩, nd⟩ := hc8
    apply k_
    clear k_
    cases hxe
    simp only [WaitsAre] at hW
    refine cps fun k_ => ?_
    obtain ⟨a, n, vs, T8, W8, ws', rfl, rfl, hT8, hW⟩ := hW
    apply k_
    clear k_
    have hlv := hT8.len
    k_steps
    refine Halt.mk ?_
    rename News _ _ _ _ => N9
    refine last_item (xs := ws') (v := .ref a) (isList_of (N9 (wt, lstO (ws' ++ [Value.ref a]) n2) (by k_mem)).1) (by rw [hW.len]; lia) ?_
    k_steps
    rename_i tx tkq D hq F9 N9 l9
    refine Halt.mk ?_
    have hmem : ∀ q ∈ scLed w x dx bl wt cp t vo ln bs (ws' ++ [Value.ref a]) caps n1 n2 n3 (B9 ++ (((a, lstO vs n) :: (T8 ++ W8)) ++ R9)), @LT.lt Nat _ q.1 D := fun q hq => allLt_mem (l := scLed w x dx bl wt cp t vo ln bs (ws' ++ [Value.ref a]) caps n1 n2 n3 (B9 ++ (((a, lstO vs n) :: (T8 ++ W8)) ++ R9))) l9 q hq
    have hDa : @Ne Nat D a := (Nat.ne_of_lt (hmem (a, lstO vs n) (List.mem_append_right (scLed w x dx bl wt cp t vo ln bs (ws' ++ [Value.ref a]) caps n1 n2 n3 []) (List.mem_append_right _ (List.mem_append_left _ List.mem_cons_self))))).symm
    have hna := nd_mida (F := scLed w x dx bl wt cp t vo ln bs (ws' ++ [Value.ref a]) caps n1 n2 n3 []) nd
    have N7 : News G L hq ((a, W.listOf vs.toArray n) :: (D, tupO [.str (keyOf sg x9) tx, .str y9 t9]) :: scLed w x dx bl wt cp t vo ln bs (ws' ++ [Value.ref a]) caps n1 n2 n3 (B9 ++ ((T8 ++ W8) ++ R9))) := news_sub N9 (mem_toldD (F := scLed w x dx bl wt cp t vo ln bs (ws' ++ [Value.ref a]) caps n1 n2 n3 []))
    refine kappend (its := vs.toArray) (n := n) (x := .ref D) F9 N7 (Upd.head (fun p hp => ?_)) ?_ (by rw [sizeLine_eq, List.size_toArray]; lia)
    · rcases List.mem_cons.mp hp with rfl | hp
      · exact hDa
      · exact hna p hp
    intro h5 F5 N5
    clear N9 N7 F9
    simp only [List.push_toArray] at N5
    k_steps
    refine Halt.mk ?_
    refine word_end F5 (by assumption) hsg fun z tz nz hz hz1 => ?_
    k_steps
    rename_i D1 h6 F6 N6 l6
    have N8 : News G L h6 ((D1, tupO [.str (Str.ofString "glob" ++ z) _, .str y9 t9]) :: scLed w x dx bl wt cp t vo ln bs (ws' ++ [Value.ref a]) caps n1 n2 n3 (B9 ++ (((a, lstO (vs ++ [Value.ref D]) (n + 1)) :: (((D, tupO [.str (keyOf sg x9) tx, .str y9 t9]) :: T8) ++ W8)) ++ R9))) := fun p hp => N6 p (by
      rcases List.mem_cons.mp hp with rfl | hp
      · exact List.mem_cons_self
      · exact List.mem_cons_of_mem _ (mem_told' (F := scLed w x dx bl wt cp t vo ln bs (ws' ++ [Value.ref a]) caps n1 n2 n3 []) p hp))
    have nd8 : ND (scLed w x dx bl wt cp t vo ln bs (ws' ++ [Value.ref a]) caps n1 n2 n3 (B9 ++ (((a, lstO (vs ++ [Value.ref D]) (n + 1)) :: (((D, tupO [.str (keyOf sg x9) tx, .str y9 t9]) :: T8) ++ W8)) ++ R9))) := nd_told (F := scLed w x dx bl wt cp t vo ln bs (ws' ++ [Value.ref a]) caps n1 n2 n3 []) (a := (a, lstO vs n)) nd rfl fun q hq => Nat.ne_of_lt (hmem q hq)
    have hfr : ∀ p ∈ scLed w x dx bl wt cp t vo ln bs (ws' ++ [Value.ref a]) caps n1 n2 n3 (B9 ++ (((a, lstO (vs ++ [Value.ref D]) (n + 1)) :: (((D, tupO [.str (keyOf sg x9) tx, .str y9 t9]) :: T8) ++ W8)) ++ R9)), p.1 ≠ D1 := fun p hp =>
      Nat.ne_of_lt (allLt_mem (l := (a, lstO (vs ++ [Value.ref D]) (n + 1)) :: (D, tupO [.str (keyOf sg x9) tx, .str y9 t9]) :: scLed w x dx bl wt cp t vo ln bs (ws' ++ [Value.ref a]) caps n1 n2 n3 (B9 ++ ((T8 ++ W8) ++ R9))) l6 p (mem_told' (F := scLed w x dx bl wt cp t vo ln bs (ws' ++ [Value.ref a]) caps n1 n2 n3 []) p hp))
    exact hret (.ret (.ref D1)) _ _ _ _ F6 N8 ⟨hbad, D1, _, _, _, _, rfl, rfl, ⟨⟨x, dx, bl, wt, cp, t, vo, bs, _, caps, n1, n2, n3, kv0, B9, _, R9, rfl, rfl, hB, ⟨a, n + 1, _, _, W8, ws', rfl, rfl, ⟨D, tx, _, T8, vs, rfl, rfl, ⟨_, _, rfl⟩, key_mem hsg hx, hT8⟩, hW⟩, hR⟩, nd8⟩, hfr, glob_end z hz⟩
  · exact fun e l h' tk' hx9 hex => rai_pass hexc e l h' tk' hx9 hex
theorem rmy {G : Heap} {a0 w0 : Vis} {lv : List (Vis × Vis)} {ln : Lin} {σ : List Fm} {v : Value} {ch : Led} {ad : Addr} {sg x9 : Str} {t1 t2 t3 : Tok} (hc : Chain w (⟨(a0, w0) :: lv, ln⟩ :: σ) v ch) (hl : lv.length ≤ 900) (hw : w0.length ≤ 1000) (hsg : sg ∈ sigs) (hx : x9 ∈ allNames) (ha : G.get? ad = some (tupO [.str "my" t1, .str sg t2, .str x9 t3])) :
    Triple w mean mg mb G 180 [v, .ref ad] 6 ch (ToldPost w true a0 w0 lv ln σ v (keyOf sg x9) x9) (fun l => badName true x9 = true ∧ l = ln.1) := by
  have hT : IsTup G ad (List.toArray [.str "my" t1, .str sg t2, .str x9 t3]) := tup_of ha
  have hxl := name_len x9 hx
  obtain ⟨x, dx, bl, wt, cp, t, vo, bs, ws, caps, n1, n2, n3, rfl, hm1, hm2, hm3, hm4, hm5⟩ := chain_see hc
  show Triple _ _ _ _ _ _ _ _ _ _ _
  refine' enter (binds := [("scope", .ref x), ("node", .ref ad)]) ?k6 ?k7 ?k9 ?kB ?_ ?kn ?c5 ?c2 ?c3 ?c4
  case k6 => k_is
  case k7 => k_is
  case k9 => exact rfl
  case kB => exact locs rfl
  case kn => first | lia | (simp only [htP, htT, htS, htB]; lia)
  case c5 => decide
  case c2 => exact rfl
  case c3 => exact rfl
  case c4 => exact rfl
  k_whole
  intro dp un gd frs base A₀ s L h₁ tk₁ Qb Eb B X T hdp hun F N hlt hret hexc hown
  (try dsimp only at F)
  k_steps
  refine Halt.mk ?_
  refine use (ch := ch) (rest := []) (by assumption) (by assumption) (news_nilr (by assumption)) (by assumption) (by assumption) apart_nilr (by exact rfl) (by exact rfl) hdp hun (by first | exact Nat.lt_succ_self _ | lia | (simp only [List.length_cons]; lia)) (fun G₂ st₂ rst₂ => check_my hc hx) ?_ ?_
  · intro r' ch' h' tk' F' N' A' P'
    obtain ⟨rfl, hbad⟩ := P'
    replace N' := news_unnil N'
    clear A'
    k_steps
    refine Halt.mk ?_
    refine useN (ch := ch') (rest := []) (by assumption) (by assumption) (news_nilr (by assumption)) (by assumption) (by assumption) apart_nilr (by exact rfl) (by exact rfl) hdp hun (by first | exact Nat.lt_succ_self _ | lia | (simp only [List.length_cons]; lia)) (fun G₂ st₂ rst₂ => new_slot hc) ?_
    intro r' ch8 h' tk' F' N' A' P'
    refine cps fun k_ => ?_
    obtain ⟨hc8, n9, tk9, rfl⟩ := P'
    apply k_
    clear k_
    replace N' := news_unnil N'
    clear A' hc hm1 hm2 hm3 hm4 hm5
    refine cps fun k_ => ?_
    obtain ⟨⟨x8, dx, bl, wt, cp, t, vo, bs, ws, caps, n1, n2, n3, kv0, B9, W9, R9, hxe, rfl, hB, hW, hR⟩, nd⟩ := hc8
    apply k_
    clear k_
    cases hxe
    simp only [WaitsAre] at hW
    refine cps fun k_ => ?_
    obtain ⟨a, n, vs, T8, W8, ws', rfl, rfl, hT8, hW⟩ := hW
    apply k_
    clear k_
    have hlv := hT8.len
    k_steps
    refine Halt.mk ?_
    rename News _ _ _ _ => N9
    refine last_item (xs := ws') (v := .ref a) (isList_of (N9 (wt, lstO (ws' ++ [Value.ref a]) n2) (by k_mem)).1) (by rw [hW.len]; lia) ?_
    k_steps
    rename_i tx tkq D hq F9 N9 l9
    refine Halt.mk ?_
    have hmem : ∀ q ∈ scLed w x dx bl wt cp t vo ln bs (ws' ++ [Value.ref a]) caps n1 n2 n3 (B9 ++ (((a, lstO vs n) :: (T8 ++ W8)) ++ R9)), @LT.lt Nat _ q.1 D := fun q hq => allLt_mem (l := scLed w x dx bl wt cp t vo ln bs (ws' ++ [Value.ref a]) caps n1 n2 n3 (B9 ++ (((a, lstO vs n) :: (T8 ++ W8)) ++ R9))) l9 q hq
    have hDa : @Ne Nat D a := (Nat.ne_of_lt (hmem (a, lstO vs n) (List.mem_append_right (scLed w x dx bl wt cp t vo ln bs (ws' ++ [Value.ref a]) caps n1 n2 n3 []) (List.mem_append_right _ (List.mem_append_left _ List.mem_cons_self))))).symm
    have hna := nd_mida (F := scLed w x dx bl wt cp t vo ln bs (ws' ++ [Value.ref a]) caps n1 n2 n3 []) nd
    have N7 : News G L hq ((a, W.listOf vs.toArray n) :: (D, tupO [.str (keyOf sg x9) tx, .int n9 tk9]) :: scLed w x dx bl wt cp t vo ln bs (ws' ++ [Value.ref a]) caps n1 n2 n3 (B9 ++ ((T8 ++ W8) ++ R9))) := news_sub N9 (mem_toldD (F := scLed w x dx bl wt cp t vo ln bs (ws' ++ [Value.ref a]) caps n1 n2 n3 []))
    refine kappend (its := vs.toArray) (n := n) (x := .ref D) F9 N7 (Upd.head (fun p hp => ?_)) ?_ (by rw [sizeLine_eq, List.size_toArray]; lia)
    · rcases List.mem_cons.mp hp with rfl | hp
      · exact hDa
      · exact hna p hp
    intro h5 F5 N5
    clear N9 N7 F9
    simp only [List.push_toArray] at N5
    k_steps
    refine Halt.mk ?_
    refine word_end F5 (by assumption) hsg fun z tz nz hz hz1 => ?_
    k_steps
    rename_i D1 h6 F6 N6 l6
    have N8 : News G L h6 ((D1, tupO [.str (Str.ofString "my" ++ z) _, .int n9 tk9]) :: scLed w x dx bl wt cp t vo ln bs (ws' ++ [Value.ref a]) caps n1 n2 n3 (B9 ++ (((a, lstO (vs ++ [Value.ref D]) (n + 1)) :: (((D, tupO [.str (keyOf sg x9) tx, .int n9 tk9]) :: T8) ++ W8)) ++ R9))) := fun p hp => N6 p (by
      rcases List.mem_cons.mp hp with rfl | hp
      · exact List.mem_cons_self
      · exact List.mem_cons_of_mem _ (mem_told' (F := scLed w x dx bl wt cp t vo ln bs (ws' ++ [Value.ref a]) caps n1 n2 n3 []) p hp))
    have nd8 : ND (scLed w x dx bl wt cp t vo ln bs (ws' ++ [Value.ref a]) caps n1 n2 n3 (B9 ++ (((a, lstO (vs ++ [Value.ref D]) (n + 1)) :: (((D, tupO [.str (keyOf sg x9) tx, .int n9 tk9]) :: T8) ++ W8)) ++ R9))) := nd_told (F := scLed w x dx bl wt cp t vo ln bs (ws' ++ [Value.ref a]) caps n1 n2 n3 []) (a := (a, lstO vs n)) nd rfl fun q hq => Nat.ne_of_lt (hmem q hq)
    have hfr : ∀ p ∈ scLed w x dx bl wt cp t vo ln bs (ws' ++ [Value.ref a]) caps n1 n2 n3 (B9 ++ (((a, lstO (vs ++ [Value.ref D]) (n + 1)) :: (((D, tupO [.str (keyOf sg x9) tx, .int n9 tk9]) :: T8) ++ W8)) ++ R9)), p.1 ≠ D1 := fun p hp =>
      Nat.ne_of_lt (allLt_mem (l := (a, lstO (vs ++ [Value.ref D]) (n + 1)) :: (D, tupO [.str (keyOf sg x9) tx, .int n9 tk9]) :: scLed w x dx bl wt cp t vo ln bs (ws' ++ [Value.ref a]) caps n1 n2 n3 (B9 ++ ((T8 ++ W8) ++ R9))) l6 p (mem_told' (F := scLed w x dx bl wt cp t vo ln bs (ws' ++ [Value.ref a]) caps n1 n2 n3 []) p hp))
    exact hret (.ret (.ref D1)) _ _ _ _ F6 N8 ⟨hbad, D1, _, _, _, _, rfl, rfl, ⟨⟨x, dx, bl, wt, cp, t, vo, bs, _, caps, n1, n2, n3, kv0, B9, _, R9, rfl, rfl, hB, ⟨a, n + 1, _, _, W8, ws', rfl, rfl, ⟨D, tx, _, T8, vs, rfl, rfl, ⟨_, _, rfl⟩, key_mem hsg hx, hT8⟩, hW⟩, hR⟩, nd8⟩, hfr, my_end z hz⟩
  · exact fun e l h' tk' hx9 hex => rai_pass hexc e l h' tk' hx9 hex
end
end
local macro_rules | `(tactic| walk_at "subscriptTail Name Constant ref int") => `(tactic| (k_here; (with_reducible show wpAny _ _ (subscriptTail _ _ (Value.ref _) (Value.int 0 _)) _ _ _); k_dflt (refine item0_G (by k_memK) (by k_memK) ?_ (by with_unfolding_all rfl))))
section
local macro_rules | `(tactic| walk_at "subscriptTail Name Subscript ref str") => `(tactic| refine halt_s4 ?_)
def resKv : List (Str × Value) := [("name", .ref 166), ("my", .ref 180), ("our", .ref 187), ("local", .ref 201), ("sort", .ref 208), ("evalstr", .ref 215), ("subdef", .ref 222), ("block", .ref 229), ("expr", .ref 236), ("if", .ref 250), ("while", .ref 257), ("cfor", .ref 264), ("foreach", .ref 271), ("package", .ref 278)]
theorem item_dict {w : World} {A : Around} {E : Value → Shared → Prop} {s : Shared} {d : Addr} {o : Obj} {kvs : List (Str × Value)} {k : Str} {t : Tok} {value slice : PySem.Expr} {v : Value} {Q : Value → Shared → Prop} (ho : s.heap.get? d = some o) (hd : o.IsDictOf (strKind PG w) kvs) (hv : valueAt kvs k = some v) (h : Q v { s with toks := s.toks + 1 })
    (hs : subscripted slice false (.ref d) (.str k t) = operate [.ref d, .str k t] (getItem (.ref d) (.str k t)) := by with_unfolding_all rfl) :
    wpAny (model PG w) A (subscriptTail value slice (.ref d) (.str k t)) Q E s := by
  have hm : s.heap.DictOf (strKind PG w) d kvs := Heap.dictOf_iff.mpr ⟨o, ho, hd⟩
  exact tail_any hm.typeIs slot_dict_getitem.lookup (wpAny_getItem_of (strKind_is _ _ k t) hm.mapOf hv h) hs
theorem res_dict {w : World} {G : Heap} (X : (hd.heap_39 w.params).In G) : ∃ o, G.get? 279 = some o ∧ o.IsDictOf (strKind PG w) resKv := by
  have h : (hd.heap_39 w.params).lookup 279 = some (dictOf [⟨PyData.keyHash w.params "name", .str "name" 590, .ref 166⟩, ⟨PyData.keyHash w.params "my", .str "my" 591, .ref 180⟩, ⟨PyData.keyHash w.params "our", .str "our" 592, .ref 187⟩, ⟨PyData.keyHash w.params "local", .str "local" 593, .ref 201⟩, ⟨PyData.keyHash w.params "sort", .str "sort" 594, .ref 208⟩, ⟨PyData.keyHash w.params "evalstr", .str "evalstr" 595, .ref 215⟩, ⟨PyData.keyHash w.params "subdef", .str "subdef" 596, .ref 222⟩, ⟨PyData.keyHash w.params "block", .str "block" 597, .ref 229⟩, ⟨PyData.keyHash w.params "expr", .str "expr" 598, .ref 236⟩, ⟨PyData.keyHash w.params "if", .str "if" 599, .ref 250⟩, ⟨PyData.keyHash w.params "while", .str "while" 600, .ref 257⟩, ⟨PyData.keyHash w.params "cfor", .str "cfor" 601, .ref 264⟩, ⟨PyData.keyHash w.params "foreach", .str "foreach" 602, .ref 271⟩, ⟨PyData.keyHash w.params "package", .str "package" 603, .ref 278⟩] 14) := by k_is
  refine ⟨_, X _ _ h, _, _, ⟨rfl, rfl, rfl⟩, rfl, ?_, ?_, by decide +kernel⟩
  · intro e he
    simp only [List.mem_toArray, List.mem_cons, List.not_mem_nil, or_false] at he
    rcases he with rfl | rfl | rfl | rfl | rfl | rfl | rfl | rfl | rfl | rfl | rfl | rfl | rfl | rfl
    all_goals exact ⟨_, strKind_is _ _ _ _, rfl⟩
  · repeat (first | exact .nil | refine .cons (strKind_is _ _ _ _) rfl ?_)
section
variable {w : World} {mean : ExcName → Option Value} {mg mb : Str → Option Value}
theorem node_name {G : Heap} {a : Addr} {v : Value} {t : Tok} {rest : List Value} {n : Nat} {ch : Led} {Post : Value → Led → Prop} {Ex : Int → Prop} (ha : G.get? a = some (tupO (.str "name" t :: rest)))
    (hn : ∀ G₂, G.StaysIn G₂ → Triple w mean mg mb G₂ 166 [v, .ref a] n ch Post Ex) : Triple w mean mg mb G 284 [v, .ref a] (n + 1) ch Post Ex := by
  have hT : IsTup G a (List.toArray (.str "name" t :: rest)) := tup_of ha
  show Triple _ _ _ _ _ _ _ _ _ _ _
  refine' enterC (binds := [("scope", v), ("node", .ref a)]) ?k6 ?k7 ?k9 ?kB ?kD ?_ ?kn ?c2 ?c3 ?c4
  case k6 => k_is
  case k7 => k_is
  case k9 => exact rfl
  case kB => exact rfl
  case kD => decide +kernel
  case kn => first | lia | (simp only [htP, htT, htS, htB]; lia)
  case c2 => exact rfl
  case c3 => exact rfl
  case c4 => exact rfl
  k_whole
  intro dp un gd frs base A₀ s L h₁ tk₁ cells Qb Eb B X T hdp hun F N hlt Y Ap hret hexc hown
  have hY := CellsAre.one Y
  refine cps fun k_ => ?_
  obtain ⟨o1, hE, d1⟩ := hY
  apply k_
  clear k_
  subst hE
  clear Y
  (try dsimp only at F N Ap d1)
  refine cps fun k_ => ?_
  obtain ⟨oR, hR, hRd⟩ := res_dict X
  apply k_
  clear k_
  k_steps
  refine Halt.mk ?_
  refine in_kvs (Fr.keep (by assumption) _ _ hR) hRd (by decide +kernel) ?_
  rw [show (valueAt resKv (Str.ofString "name")).isSome = true by decide +kernel]
  k_steps
  refine Halt.mk ?_
  refine item_dict (Fr.keep (by assumption) _ _ hR) hRd (by decide +kernel : valueAt resKv (Str.ofString "name") = some (.ref 166)) ?_
  k_steps
  refine Halt.mk ?_
  refine use (ch := ch) (rest := [(L + 1, o1)]) (by assumption) (by assumption) (by assumption) (by assumption) (by assumption) Ap (by exact rfl) (by exact rfl) hdp hun (by first | exact Nat.lt_succ_self _ | lia) (fun G₂ st₂ rst₂ => hn G₂ st₂) ?_ ?_
  · intro r' ch' h' tk' F' N' A' P'
    k_steps
    exact hret (.ret r') _ _ _ _ F' (news_sub N' fun p hp => List.mem_append_left _ hp) P'
  · exact fun e l h' tk' hx9 hex => rai_pass hexc e l h' tk' hx9 hex
theorem node_my {G : Heap} {a : Addr} {v : Value} {t : Tok} {rest : List Value} {n : Nat} {ch : Led} {Post : Value → Led → Prop} {Ex : Int → Prop} (ha : G.get? a = some (tupO (.str "my" t :: rest)))
    (hn : ∀ G₂, G.StaysIn G₂ → Triple w mean mg mb G₂ 180 [v, .ref a] n ch Post Ex) : Triple w mean mg mb G 284 [v, .ref a] (n + 1) ch Post Ex := by
  have hT : IsTup G a (List.toArray (.str "my" t :: rest)) := tup_of ha
  show Triple _ _ _ _ _ _ _ _ _ _ _
  refine' enterC (binds := [("scope", v), ("node", .ref a)]) ?k6 ?k7 ?k9 ?kB ?kD ?_ ?kn ?c2 ?c3 ?c4
  case k6 => k_is
  case k7 => k_is
  case k9 => exact rfl
  case kB => exact rfl
  case kD => decide +kernel
  case kn => first | lia | (simp only [htP, htT, htS, htB]; lia)
  case c2 => exact rfl
  case c3 => exact rfl
  case c4 => exact rfl
  k_whole
  intro dp un gd frs base A₀ s L h₁ tk₁ cells Qb Eb B X T hdp hun F N hlt Y Ap hret hexc hown
  have hY := CellsAre.one Y
  refine cps fun k_ => ?_
  obtain ⟨o1, hE, d1⟩ := hY
  apply k_
  clear k_
  subst hE
  clear Y
  (try dsimp only at F N Ap d1)
  refine cps fun k_ => ?_
  obtain ⟨oR, hR, hRd⟩ := res_dict X
  apply k_
  clear k_
  k_steps
  refine Halt.mk ?_
  refine in_kvs (Fr.keep (by assumption) _ _ hR) hRd (by decide +kernel) ?_
  rw [show (valueAt resKv (Str.ofString "my")).isSome = true by decide +kernel]
  k_steps
  refine Halt.mk ?_
  refine item_dict (Fr.keep (by assumption) _ _ hR) hRd (by decide +kernel : valueAt resKv (Str.ofString "my") = some (.ref 180)) ?_
  k_steps
  refine Halt.mk ?_
  refine use (ch := ch) (rest := [(L + 1, o1)]) (by assumption) (by assumption) (by assumption) (by assumption) (by assumption) Ap (by exact rfl) (by exact rfl) hdp hun (by first | exact Nat.lt_succ_self _ | lia) (fun G₂ st₂ rst₂ => hn G₂ st₂) ?_ ?_
  · intro r' ch' h' tk' F' N' A' P'
    k_steps
    exact hret (.ret r') _ _ _ _ F' (news_sub N' fun p hp => List.mem_append_left _ hp) P'
  · exact fun e l h' tk' hx9 hex => rai_pass hexc e l h' tk' hx9 hex
theorem node_our {G : Heap} {a : Addr} {v : Value} {t : Tok} {rest : List Value} {n : Nat} {ch : Led} {Post : Value → Led → Prop} {Ex : Int → Prop} (ha : G.get? a = some (tupO (.str "our" t :: rest)))
    (hn : ∀ G₂, G.StaysIn G₂ → Triple w mean mg mb G₂ 187 [v, .ref a] n ch Post Ex) : Triple w mean mg mb G 284 [v, .ref a] (n + 1) ch Post Ex := by
  have hT : IsTup G a (List.toArray (.str "our" t :: rest)) := tup_of ha
  show Triple _ _ _ _ _ _ _ _ _ _ _
  refine' enterC (binds := [("scope", v), ("node", .ref a)]) ?k6 ?k7 ?k9 ?kB ?kD ?_ ?kn ?c2 ?c3 ?c4
  case k6 => k_is
  case k7 => k_is
  case k9 => exact rfl
  case kB => exact rfl
  case kD => decide +kernel
  case kn => first | lia | (simp only [htP, htT, htS, htB]; lia)
  case c2 => exact rfl
  case c3 => exact rfl
  case c4 => exact rfl
  k_whole
  intro dp un gd frs base A₀ s L h₁ tk₁ cells Qb Eb B X T hdp hun F N hlt Y Ap hret hexc hown
  have hY := CellsAre.one Y
  refine cps fun k_ => ?_
  obtain ⟨o1, hE, d1⟩ := hY
  apply k_
  clear k_
  subst hE
  clear Y
  (try dsimp only at F N Ap d1)
  refine cps fun k_ => ?_
  obtain ⟨oR, hR, hRd⟩ := res_dict X
  apply k_
  clear k_
  k_steps
  refine Halt.mk ?_
  refine in_kvs (Fr.keep (by assumption) _ _ hR) hRd (by decide +kernel) ?_
  rw [show (valueAt resKv (Str.ofString "our")).isSome = true by decide +kernel]
  k_steps
  refine Halt.mk ?_
  refine item_dict (Fr.keep (by assumption) _ _ hR) hRd (by decide +kernel : valueAt resKv (Str.ofString "our") = some (.ref 187)) ?_
  k_steps
  refine Halt.mk ?_
  refine use (ch := ch) (rest := [(L + 1, o1)]) (by assumption) (by assumption) (by assumption) (by assumption) (by assumption) Ap (by exact rfl) (by exact rfl) hdp hun (by first | exact Nat.lt_succ_self _ | lia) (fun G₂ st₂ rst₂ => hn G₂ st₂) ?_ ?_
  · intro r' ch' h' tk' F' N' A' P'
    k_steps
    exact hret (.ret r') _ _ _ _ F' (news_sub N' fun p hp => List.mem_append_left _ hp) P'
  · exact fun e l h' tk' hx9 hex => rai_pass hexc e l h' tk' hx9 hex
theorem node_local {G : Heap} {a : Addr} {v : Value} {t : Tok} {rest : List Value} {n : Nat} {ch : Led} {Post : Value → Led → Prop} {Ex : Int → Prop} (ha : G.get? a = some (tupO (.str "local" t :: rest)))
    (hn : ∀ G₂, G.StaysIn G₂ → Triple w mean mg mb G₂ 201 [v, .ref a] n ch Post Ex) : Triple w mean mg mb G 284 [v, .ref a] (n + 1) ch Post Ex := by
  have hT : IsTup G a (List.toArray (.str "local" t :: rest)) := tup_of ha
  show Triple _ _ _ _ _ _ _ _ _ _ _
  refine' enterC (binds := [("scope", v), ("node", .ref a)]) ?k6 ?k7 ?k9 ?kB ?kD ?_ ?kn ?c2 ?c3 ?c4
  case k6 => k_is
  case k7 => k_is
  case k9 => exact rfl
  case kB => exact rfl
  case kD => decide +kernel
  case kn => first | lia | (simp only [htP, htT, htS, htB]; lia)
  case c2 => exact rfl
  case c3 => exact rfl
  case c4 => exact rfl
  k_whole
  intro dp un gd frs base A₀ s L h₁ tk₁ cells Qb Eb B X T hdp hun F N hlt Y Ap hret hexc hown
  have hY := CellsAre.one Y
  refine cps fun k_ => ?_
  obtain ⟨o1, hE, d1⟩ := hY
  apply k_
  clear k_
  subst hE
  clear Y
  (try dsimp only at F N Ap d1)
  refine cps fun k_ => ?_
  obtain ⟨oR, hR, hRd⟩ := res_dict X
  apply k_
  clear k_
  k_steps
  refine Halt.mk ?_
  refine in_kvs (Fr.keep (by assumption) _ _ hR) hRd (by decide +kernel) ?_
  rw [show (valueAt resKv (Str.ofString "local")).isSome = true by decide +kernel]
  k_steps
  refine Halt.mk ?_
  refine item_dict (Fr.keep (by assumption) _ _ hR) hRd (by decide +kernel : valueAt resKv (Str.ofString "local") = some (.ref 201)) ?_
  k_steps
  refine Halt.mk ?_
  refine use (ch := ch) (rest := [(L + 1, o1)]) (by assumption) (by assumption) (by assumption) (by assumption) (by assumption) Ap (by exact rfl) (by exact rfl) hdp hun (by first | exact Nat.lt_succ_self _ | lia) (fun G₂ st₂ rst₂ => hn G₂ st₂) ?_ ?_
  · intro r' ch' h' tk' F' N' A' P'
    k_steps
    exact hret (.ret r') _ _ _ _ F' (news_sub N' fun p hp => List.mem_append_left _ hp) P'
  · exact fun e l h' tk' hx9 hex => rai_pass hexc e l h' tk' hx9 hex
theorem node_subdef {G : Heap} {a : Addr} {v : Value} {t : Tok} {rest : List Value} {n : Nat} {ch : Led} {Post : Value → Led → Prop} {Ex : Int → Prop} (ha : G.get? a = some (tupO (.str "subdef" t :: rest)))
    (hn : ∀ G₂, G.StaysIn G₂ → Triple w mean mg mb G₂ 222 [v, .ref a] n ch Post Ex) : Triple w mean mg mb G 284 [v, .ref a] (n + 1) ch Post Ex := by
  have hT : IsTup G a (List.toArray (.str "subdef" t :: rest)) := tup_of ha
  show Triple _ _ _ _ _ _ _ _ _ _ _
  refine' enterC (binds := [("scope", v), ("node", .ref a)]) ?k6 ?k7 ?k9 ?kB ?kD ?_ ?kn ?c2 ?c3 ?c4
  case k6 => k_is
  case k7 => k_is
  case k9 => exact rfl
  case kB => exact rfl
  case kD => decide +kernel
  case kn => first | lia | (simp only [htP, htT, htS, htB]; lia)
  case c2 => exact rfl
  case c3 => exact rfl
  case c4 => exact rfl
  k_whole
  intro dp un gd frs base A₀ s L h₁ tk₁ cells Qb Eb B X T hdp hun F N hlt Y Ap hret hexc hown
  have hY := CellsAre.one Y
  refine cps fun k_ => ?_
  obtain ⟨o1, hE, d1⟩ := hY
  apply k_
  clear k_
  subst hE
  clear Y
  (try dsimp only at F N Ap d1)
  refine cps fun k_ => ?_
  obtain ⟨oR, hR, hRd⟩ := res_dict X
  apply k_
  clear k_
  k_steps
  refine Halt.mk ?_
  refine in_kvs (Fr.keep (by assumption) _ _ hR) hRd (by decide +kernel) ?_
  rw [show (valueAt resKv (Str.ofString "subdef")).isSome = true by decide +kernel]
  k_steps
  refine Halt.mk ?_
  refine item_dict (Fr.keep (by assumption) _ _ hR) hRd (by decide +kernel : valueAt resKv (Str.ofString "subdef") = some (.ref 222)) ?_
  k_steps
  refine Halt.mk ?_
  refine use (ch := ch) (rest := [(L + 1, o1)]) (by assumption) (by assumption) (by assumption) (by assumption) (by assumption) Ap (by exact rfl) (by exact rfl) hdp hun (by first | exact Nat.lt_succ_self _ | lia) (fun G₂ st₂ rst₂ => hn G₂ st₂) ?_ ?_
  · intro r' ch' h' tk' F' N' A' P'
    k_steps
    exact hret (.ret r') _ _ _ _ F' (news_sub N' fun p hp => List.mem_append_left _ hp) P'
  · exact fun e l h' tk' hx9 hex => rai_pass hexc e l h' tk' hx9 hex
theorem node_block {G : Heap} {a : Addr} {v : Value} {t : Tok} {rest : List Value} {n : Nat} {ch : Led} {Post : Value → Led → Prop} {Ex : Int → Prop} (ha : G.get? a = some (tupO (.str "block" t :: rest)))
    (hn : ∀ G₂, G.StaysIn G₂ → Triple w mean mg mb G₂ 229 [v, .ref a] n ch Post Ex) : Triple w mean mg mb G 284 [v, .ref a] (n + 1) ch Post Ex := by
  have hT : IsTup G a (List.toArray (.str "block" t :: rest)) := tup_of ha
  show Triple _ _ _ _ _ _ _ _ _ _ _
  refine' enterC (binds := [("scope", v), ("node", .ref a)]) ?k6 ?k7 ?k9 ?kB ?kD ?_ ?kn ?c2 ?c3 ?c4
  case k6 => k_is
  case k7 => k_is
  case k9 => exact rfl
  case kB => exact rfl
  case kD => decide +kernel
  case kn => first | lia | (simp only [htP, htT, htS, htB]; lia)
  case c2 => exact rfl
  case c3 => exact rfl
  case c4 => exact rfl
  k_whole
  intro dp un gd frs base A₀ s L h₁ tk₁ cells Qb Eb B X T hdp hun F N hlt Y Ap hret hexc hown
  have hY := CellsAre.one Y
  refine cps fun k_ => ?_
  obtain ⟨o1, hE, d1⟩ := hY
  apply k_
  clear k_
  subst hE
  clear Y
  (try dsimp only at F N Ap d1)
  refine cps fun k_ => ?_
  obtain ⟨oR, hR, hRd⟩ := res_dict X
  apply k_
  clear k_
  k_steps
  refine Halt.mk ?_
  refine in_kvs (Fr.keep (by assumption) _ _ hR) hRd (by decide +kernel) ?_
  rw [show (valueAt resKv (Str.ofString "block")).isSome = true by decide +kernel]
  k_steps
  refine Halt.mk ?_
  refine item_dict (Fr.keep (by assumption) _ _ hR) hRd (by decide +kernel : valueAt resKv (Str.ofString "block") = some (.ref 229)) ?_
  k_steps
  refine Halt.mk ?_
  refine use (ch := ch) (rest := [(L + 1, o1)]) (by assumption) (by assumption) (by assumption) (by assumption) (by assumption) Ap (by exact rfl) (by exact rfl) hdp hun (by first | exact Nat.lt_succ_self _ | lia) (fun G₂ st₂ rst₂ => hn G₂ st₂) ?_ ?_
  · intro r' ch' h' tk' F' N' A' P'
    k_steps
    exact hret (.ret r') _ _ _ _ F' (news_sub N' fun p hp => List.mem_append_left _ hp) P'
  · exact fun e l h' tk' hx9 hex => rai_pass hexc e l h' tk' hx9 hex
theorem node_expr {G : Heap} {a : Addr} {v : Value} {t : Tok} {rest : List Value} {n : Nat} {ch : Led} {Post : Value → Led → Prop} {Ex : Int → Prop} (ha : G.get? a = some (tupO (.str "expr" t :: rest)))
    (hn : ∀ G₂, G.StaysIn G₂ → Triple w mean mg mb G₂ 236 [v, .ref a] n ch Post Ex) : Triple w mean mg mb G 284 [v, .ref a] (n + 1) ch Post Ex := by
  have hT : IsTup G a (List.toArray (.str "expr" t :: rest)) := tup_of ha
  show Triple _ _ _ _ _ _ _ _ _ _ _
  refine' enterC (binds := [("scope", v), ("node", .ref a)]) ?k6 ?k7 ?k9 ?kB ?kD ?_ ?kn ?c2 ?c3 ?c4
  case k6 => k_is
  case k7 => k_is
  case k9 => exact rfl
  case kB => exact rfl
  case kD => decide +kernel
  case kn => first | lia | (simp only [htP, htT, htS, htB]; lia)
  case c2 => exact rfl
  case c3 => exact rfl
  case c4 => exact rfl
  k_whole
  intro dp un gd frs base A₀ s L h₁ tk₁ cells Qb Eb B X T hdp hun F N hlt Y Ap hret hexc hown
  have hY := CellsAre.one Y
  refine cps fun k_ => ?_
  obtain ⟨o1, hE, d1⟩ := hY
  apply k_
  clear k_
  subst hE
  clear Y
  (try dsimp only at F N Ap d1)
  refine cps fun k_ => ?_
  obtain ⟨oR, hR, hRd⟩ := res_dict X
  apply k_
  clear k_
  k_steps
  refine Halt.mk ?_
  refine in_kvs (Fr.keep (by assumption) _ _ hR) hRd (by decide +kernel) ?_
  rw [show (valueAt resKv (Str.ofString "expr")).isSome = true by decide +kernel]
  k_steps
  refine Halt.mk ?_
  refine item_dict (Fr.keep (by assumption) _ _ hR) hRd (by decide +kernel : valueAt resKv (Str.ofString "expr") = some (.ref 236)) ?_
  k_steps
  refine Halt.mk ?_
  refine use (ch := ch) (rest := [(L + 1, o1)]) (by assumption) (by assumption) (by assumption) (by assumption) (by assumption) Ap (by exact rfl) (by exact rfl) hdp hun (by first | exact Nat.lt_succ_self _ | lia) (fun G₂ st₂ rst₂ => hn G₂ st₂) ?_ ?_
  · intro r' ch' h' tk' F' N' A' P'
    k_steps
    exact hret (.ret r') _ _ _ _ F' (news_sub N' fun p hp => List.mem_append_left _ hp) P'
  · exact fun e l h' tk' hx9 hex => rai_pass hexc e l h' tk' hx9 hex
theorem node_if {G : Heap} {a : Addr} {v : Value} {t : Tok} {rest : List Value} {n : Nat} {ch : Led} {Post : Value → Led → Prop} {Ex : Int → Prop} (ha : G.get? a = some (tupO (.str "if" t :: rest)))
    (hn : ∀ G₂, G.StaysIn G₂ → Triple w mean mg mb G₂ 250 [v, .ref a] n ch Post Ex) : Triple w mean mg mb G 284 [v, .ref a] (n + 1) ch Post Ex := by
  have hT : IsTup G a (List.toArray (.str "if" t :: rest)) := tup_of ha
  show Triple _ _ _ _ _ _ _ _ _ _ _
  refine' enterC (binds := [("scope", v), ("node", .ref a)]) ?k6 ?k7 ?k9 ?kB ?kD ?_ ?kn ?c2 ?c3 ?c4
  case k6 => k_is
  case k7 => k_is
  case k9 => exact rfl
  case kB => exact rfl
  case kD => decide +kernel
  case kn => first | lia | (simp only [htP, htT, htS, htB]; lia)
  case c2 => exact rfl
  case c3 => exact rfl
  case c4 => exact rfl
  k_whole
  intro dp un gd frs base A₀ s L h₁ tk₁ cells Qb Eb B X T hdp hun F N hlt Y Ap hret hexc hown
  have hY := CellsAre.one Y
  refine cps fun k_ => ?_
  obtain ⟨o1, hE, d1⟩ := hY
  apply k_
  clear k_
  subst hE
  clear Y
  (try dsimp only at F N Ap d1)
  refine cps fun k_ => ?_
  obtain ⟨oR, hR, hRd⟩ := res_dict X
  apply k_
  clear k_
  k_steps
  refine Halt.mk ?_
  refine in_kvs (Fr.keep (by assumption) _ _ hR) hRd (by decide +kernel) ?_
  rw [show (valueAt resKv (Str.ofString "if")).isSome = true by decide +kernel]
  k_steps
  refine Halt.mk ?_
  refine item_dict (Fr.keep (by assumption) _ _ hR) hRd (by decide +kernel : valueAt resKv (Str.ofString "if") = some (.ref 250)) ?_
  k_steps
  refine Halt.mk ?_
  refine use (ch := ch) (rest := [(L + 1, o1)]) (by assumption) (by assumption) (by assumption) (by assumption) (by assumption) Ap (by exact rfl) (by exact rfl) hdp hun (by first | exact Nat.lt_succ_self _ | lia) (fun G₂ st₂ rst₂ => hn G₂ st₂) ?_ ?_
  · intro r' ch' h' tk' F' N' A' P'
    k_steps
    exact hret (.ret r') _ _ _ _ F' (news_sub N' fun p hp => List.mem_append_left _ hp) P'
  · exact fun e l h' tk' hx9 hex => rai_pass hexc e l h' tk' hx9 hex
theorem node_foreach {G : Heap} {a : Addr} {v : Value} {t : Tok} {rest : List Value} {n : Nat} {ch : Led} {Post : Value → Led → Prop} {Ex : Int → Prop} (ha : G.get? a = some (tupO (.str "foreach" t :: rest)))
    (hn : ∀ G₂, G.StaysIn G₂ → Triple w mean mg mb G₂ 271 [v, .ref a] n ch Post Ex) : Triple w mean mg mb G 284 [v, .ref a] (n + 1) ch Post Ex := by
  have hT : IsTup G a (List.toArray (.str "foreach" t :: rest)) := tup_of ha
  show Triple _ _ _ _ _ _ _ _ _ _ _
  refine' enterC (binds := [("scope", v), ("node", .ref a)]) ?k6 ?k7 ?k9 ?kB ?kD ?_ ?kn ?c2 ?c3 ?c4
  case k6 => k_is
  case k7 => k_is
  case k9 => exact rfl
  case kB => exact rfl
  case kD => decide +kernel
  case kn => first | lia | (simp only [htP, htT, htS, htB]; lia)
  case c2 => exact rfl
  case c3 => exact rfl
  case c4 => exact rfl
  k_whole
  intro dp un gd frs base A₀ s L h₁ tk₁ cells Qb Eb B X T hdp hun F N hlt Y Ap hret hexc hown
  have hY := CellsAre.one Y
  refine cps fun k_ => ?_
  obtain ⟨o1, hE, d1⟩ := hY
  apply k_
  clear k_
  subst hE
  clear Y
  (try dsimp only at F N Ap d1)
  refine cps fun k_ => ?_
  obtain ⟨oR, hR, hRd⟩ := res_dict X
  apply k_
  clear k_
  k_steps
  refine Halt.mk ?_
  refine in_kvs (Fr.keep (by assumption) _ _ hR) hRd (by decide +kernel) ?_
  rw [show (valueAt resKv (Str.ofString "foreach")).isSome = true by decide +kernel]
  k_steps
  refine Halt.mk ?_
  refine item_dict (Fr.keep (by assumption) _ _ hR) hRd (by decide +kernel : valueAt resKv (Str.ofString "foreach") = some (.ref 271)) ?_
  k_steps
  refine Halt.mk ?_
  refine use (ch := ch) (rest := [(L + 1, o1)]) (by assumption) (by assumption) (by assumption) (by assumption) (by assumption) Ap (by exact rfl) (by exact rfl) hdp hun (by first | exact Nat.lt_succ_self _ | lia) (fun G₂ st₂ rst₂ => hn G₂ st₂) ?_ ?_
  · intro r' ch' h' tk' F' N' A' P'
    k_steps
    exact hret (.ret r') _ _ _ _ F' (news_sub N' fun p hp => List.mem_append_left _ hp) P'
  · exact fun e l h' tk' hx9 hex => rai_pass hexc e l h' tk' hx9 hex
end
end
section
local macro_rules | `(tactic| k_room) => `(tactic| ((try simp only [depth_under_make, depth_under_kw, depth_in1, depth_deeper, depth_caller]); (try dsimp only); omega))
theorem isi_tup {w : World} {A : Around} {E : Value → Shared → Prop} {s : Shared} {G : Heap} {L a : Addr} {m : Str → Option Value} {l : List Value} {Q : Value → Shared → Prop} (F : Fr G L s.heap m) (ha : IsTup G a (List.toArray l)) (h : ∀ tk, Q (.bool true) { s with toks := tk }) :
    wpAny (model PG w) A (call (.builtin "isinstance") [.ref a, .type "tuple"]) Q E s :=
  call_isinstance_yes (Tx := "tuple") (IsTup.keeps ha F.keep).typeIs PySem.F.isi_meta_tuple (by rw [isSubtype_type]; kernel_rfl) (h _)
theorem isi_tup_list {w : World} {A : Around} {E : Value → Shared → Prop} {s : Shared} {G : Heap} {L a : Addr} {m : Str → Option Value} {l : List Value} {Q : Value → Shared → Prop} (F : Fr G L s.heap m) (ha : IsTup G a (List.toArray l)) (h : ∀ tk, Q (.bool false) { s with toks := tk }) :
    wpAny (model PG w) A (call (.builtin "isinstance") [.ref a, .type "list"]) Q E s := by
  have hT := IsTup.keeps ha F.keep
  obtain ⟨o, ho, hc, _⟩ := id hT
  refine call_isinstance (S := fun z9 R s => s.TypeIs (.ref a) "tuple" ∧ ∀ tk, R (.ok (.ret (.bool false))) { s with toks := tk }) (fun z9 z9 z9 z9 s hs => ?_) ⟨⟨o, ho, hc⟩, fun tk => h tk⟩
  obtain ⟨h, g, d, t, os⟩ := s
  obtain ⟨⟨o2, hx, hc2⟩, hR⟩ := hs
  exact isinstance_outer (isinstance_nested_false_tuple hx hc2 (by decide +kernel) PySem.F.isi_meta_list (by rw [isSubtype_type]; kernel_rfl) (hR _)) (Shared.TypeIs.not_mainsLoader ⟨o2, hx, hc2⟩)
theorem isi_lst_list {w : World} {A : Around} {E : Value → Shared → Prop} {s : Shared} {G : Heap} {L a : Addr} {m : Str → Option Value} {l : List Value} {n : Nat} {Q : Value → Shared → Prop} (F : Fr G L s.heap m) (ha : G.get? a = some (lstO l n)) (h : ∀ tk, Q (.bool true) { s with toks := tk }) :
    wpAny (model PG w) A (call (.builtin "isinstance") [.ref a, .type "list"]) Q E s :=
  call_isinstance_yes (Tx := "list") ⟨_, F.keep _ _ ha, rfl⟩ PySem.F.isi_meta_list (by rw [isSubtype_type]; kernel_rfl) (h _)
theorem isi_str_list {w : World} {A : Around} {E : Value → Shared → Prop} {s : Shared} {x : Str} {t : Tok} {Q : Value → Shared → Prop} (h : ∀ tk, Q (.bool false) { s with toks := tk }) : wpAny (model PG w) A (call (.builtin "isinstance") [.str x t, .type "list"]) Q E s :=
  call_isinstance (isinstance_false_str (by decide +kernel) PySem.F.isi_meta_list (by rw [isSubtype_type]; kernel_rfl)) (h _)
theorem isi_int_list {w : World} {A : Around} {E : Value → Shared → Prop} {s : Shared} {x : Int} {t : Tok} {Q : Value → Shared → Prop} (h : ∀ tk, Q (.bool false) { s with toks := tk }) : wpAny (model PG w) A (call (.builtin "isinstance") [.int x t, .type "list"]) Q E s :=
  call_isinstance (isinstance_false_int (by decide +kernel) PySem.F.isi_meta_list (by rw [isSubtype_type]; kernel_rfl)) (h _)
theorem isi_str_tup {w : World} {A : Around} {E : Value → Shared → Prop} {s : Shared} {x : Str} {t : Tok} {Q : Value → Shared → Prop} (h : ∀ tk, Q (.bool false) { s with toks := tk }) : wpAny (model PG w) A (call (.builtin "isinstance") [.str x t, .type "tuple"]) Q E s :=
  call_isinstance (isinstance_false_str (by decide +kernel) PySem.F.isi_meta_tuple PySem.F.sub_str_tuple) (h _)
theorem isi_int_tup {w : World} {A : Around} {E : Value → Shared → Prop} {s : Shared} {x : Int} {t : Tok} {Q : Value → Shared → Prop} (h : ∀ tk, Q (.bool false) { s with toks := tk }) : wpAny (model PG w) A (call (.builtin "isinstance") [.int x t, .type "tuple"]) Q E s :=
  call_isinstance (isinstance_false_int (by decide +kernel) PySem.F.isi_meta_tuple PySem.F.sub_int_tuple) (h _)
theorem isi_str_str {w : World} {A : Around} {E : Value → Shared → Prop} {s : Shared} {x : Str} {t : Tok} {Q : Value → Shared → Prop} (h : ∀ tk, Q (.bool true) { s with toks := tk }) : wpAny (model PG w) A (call (.builtin "isinstance") [.str x t, .type "str"]) Q E s :=
  call_isinstance_yes (Tx := "str") rfl PySem.F.isi_meta_str (by rw [isSubtype_type]; kernel_rfl) (h _)
theorem len_tup {w : World} {A : Around} {E : Value → Shared → Prop} {s : Shared} {G : Heap} {L a : Addr} {m : Str → Option Value} {l : List Value} {Q : Value → Shared → Prop} (F : Fr G L s.heap m) (ha : IsTup G a (List.toArray l)) (hl : l.length ≤ 1000) (h : ∀ t tk, Q (.int l.length t) { s with toks := tk }) :
    wpAny (model PG w) A (call (.builtin "len") [.ref a]) Q E s := by
  have := h
  refine PyProof.Rows.len_tuple (IsTup.keeps ha F.keep) (by simp only [List.size_toArray]; omega) ?_
  simp only [List.size_toArray]
  exact h _ _
local macro_rules | `(tactic| walk_at "call builtin:isinstance") => `(tactic| (k_dflt (first | refine isi_str_str ?_ | refine isi_int_tup ?_ | refine isi_str_tup ?_ | refine isi_int_list ?_ | refine isi_str_list ?_ | refine isi_tup (by k_memK) (by k_memK) ?_ | refine isi_tup_list (by k_memK) (by k_memK) ?_ | refine isi_lst_list (by k_memK) (by k_memK) ?_); intros))
local macro_rules | `(tactic| walk_at "call builtin:len") => `(tactic| (k_here; k_dflt (refine len_tup (by k_memK) (by k_memK) (by first | lia | (simp only [List.length_cons]; lia)) ?_; intros)))
section
variable {w : World} {mean : ExcName → Option Value} {mg mb : Str → Option Value}
theorem part_tup {G : Heap} {a : Addr} {v : Value} {wd : Str} {t : Tok} {rest : List Value} {n : Nat} {ch : Led} {Post : Value → Led → Prop} {Ex : Int → Prop} (hr : rest.length ≤ 10) (ha : G.get? a = some (tupO (.str wd t :: rest)))
    (hn : ∀ G₂, G.StaysIn G₂ → Triple w mean mg mb G₂ 284 [v, .ref a] n ch Post Ex) : Triple w mean mg mb G 289 [v, .ref a] (n + 1) ch Post Ex := by
  have hT : IsTup G a (List.toArray (.str wd t :: rest)) := tup_of ha
  show Triple _ _ _ _ _ _ _ _ _ _ _
  refine' enterC (binds := [("scope", v), ("part", .ref a)]) ?k6 ?k7 ?k9 ?kB ?kD ?_ ?kn ?c2 ?c3 ?c4
  case k6 => k_is
  case k7 => k_is
  case k9 => exact rfl
  case kB => exact rfl
  case kD => decide +kernel
  case kn => first | omega | (simp only [htP, htT, htS, htB]; omega)
  case c2 => exact rfl
  case c3 => exact rfl
  case c4 => exact rfl
  k_whole
  intro dp un gd frs base A₀ s L h₁ tk₁ cells Qb Eb B X T hdp hun F N hlt Y Ap hret hexc hown
  have hY := CellsAre.one Y
  obtain ⟨o1, hE, d1⟩ := hY
  subst hE
  clear Y
  (try dsimp only at F N Ap d1)
  k_steps
  · refine Halt.mk ?_
    refine use (ch := ch) (rest := [(L + 1, o1)]) (by assumption) (by assumption) (by assumption) (by assumption) (by assumption) Ap (by exact rfl) (by exact rfl) hdp hun (by first | exact Nat.lt_succ_self _ | lia) (fun G₂ st₂ rst₂ => hn G₂ st₂) ?_ ?_
    · intro r' ch' h' tk' F' N' A' P'
      k_steps
      exact hret (.ret r') _ _ _ _ F' (news_sub N' fun p hp => List.mem_append_left _ hp) P'
    · exact fun e l h' tk' hx9 hex => rai_pass hexc e l h' tk' hx9 hex
  · exfalso
    rename ¬ _ => e
    simp only [List.length_cons] at e
    omega
theorem part_str {G : Heap} {v : Value} {x : Str} {t : Tok} {ch : Led} : Triple w mean mg mb G 289 [v, .str x t] 1 ch (fun r ch' => ch' = ch ∧ r = .str x t) No := by
  show Triple _ _ _ _ _ _ _ _ _ _ _
  refine' enterC (binds := [("scope", v), ("part", .str x t)]) ?k6 ?k7 ?k9 ?kB ?kD ?_ ?kn ?c2 ?c3 ?c4
  case k6 => k_is
  case k7 => k_is
  case k9 => exact rfl
  case kB => exact rfl
  case kD => decide +kernel
  case kn => first | omega | (simp only [htP, htT, htS, htB]; omega)
  case c2 => exact rfl
  case c3 => exact rfl
  case c4 => exact rfl
  k_whole
  intro dp un gd frs base A₀ s L h₁ tk₁ cells Qb Eb B X T hdp hun F N hlt Y Ap hret hexc hown
  have hY := CellsAre.one Y
  obtain ⟨o1, hE, d1⟩ := hY
  subst hE
  clear Y
  (try dsimp only at F N Ap d1)
  k_steps
  exact hret (.ret (.str x t)) ch _ _ _ (by assumption) (news_sub (by assumption) fun p hp => List.mem_append_left _ hp) ⟨rfl, rfl⟩
theorem part_int {G : Heap} {v : Value} {x : Int} {t : Tok} {ch : Led} : Triple w mean mg mb G 289 [v, .int x t] 1 ch (fun r ch' => ch' = ch ∧ r = .int x t) No := by
  show Triple _ _ _ _ _ _ _ _ _ _ _
  refine' enterC (binds := [("scope", v), ("part", .int x t)]) ?k6 ?k7 ?k9 ?kB ?kD ?_ ?kn ?c2 ?c3 ?c4
  case k6 => k_is
  case k7 => k_is
  case k9 => exact rfl
  case kB => exact rfl
  case kD => decide +kernel
  case kn => first | omega | (simp only [htP, htT, htS, htB]; omega)
  case c2 => exact rfl
  case c3 => exact rfl
  case c4 => exact rfl
  k_whole
  intro dp un gd frs base A₀ s L h₁ tk₁ cells Qb Eb B X T hdp hun F N hlt Y Ap hret hexc hown
  have hY := CellsAre.one Y
  obtain ⟨o1, hE, d1⟩ := hY
  subst hE
  clear Y
  (try dsimp only at F N Ap d1)
  k_steps
  exact hret (.ret (.int x t)) ch _ _ _ (by assumption) (news_sub (by assumption) fun p hp => List.mem_append_left _ hp) ⟨rfl, rfl⟩
end
end
end
section
local macro_rules | `(tactic| walk_at "call builtin:isinstance") => `(tactic| (k_dflt (first | refine isi_str_str ?_ | refine isi_int_tup ?_ | refine isi_str_tup ?_ | refine isi_int_list ?_ | refine isi_str_list ?_ | refine isi_tup (by k_memK) (by k_memK) ?_ | refine isi_tup_list (by k_memK) (by k_memK) ?_ | refine isi_lst_list (by k_memK) (by k_memK) ?_); intros))
/-! the parts of a node, and what resolving them gives -/
structure KidT where
  run : Run
  Rp : Vis → See → Value → Prop
  wd : Nat
  mono : ∀ {vis : Vis} {P P' : See} {v : Value}, (∀ a o, P a o → P' a o) → Rp vis P v → Rp vis P' v
def vs9 (a0 : Vis) (lv : List (Vis × Vis)) (σ : List Fm) : Vis := a0 ++ lv.flatMap (·.1) ++ visF σ
theorem visF_vs9 (a0 w0 : Vis) (lv : List (Vis × Vis)) (ln : Lin) (σ : List Fm) : visF (⟨(a0, w0) :: lv, ln⟩ :: σ) = vs9 a0 lv σ := rfl
def Fit (lv : List (Vis × Vis)) (σ : List Fm) (n : Nat) : Prop := lv.length + n ≤ 889 ∧ ∀ f ∈ σ, f.lv.length + n ≤ 890
theorem Fit.le {lv : List (Vis × Vis)} {σ : List Fm} {n n' : Nat} (h : n' ≤ n) (f : Fit lv σ n) : Fit lv σ n' := ⟨Nat.le_trans (Nat.add_le_add_left h _) f.1, fun g hg => Nat.le_trans (Nat.add_le_add_left h _) (f.2 g hg)⟩
theorem Fit.all {lv : List (Vis × Vis)} {σ : List Fm} {n : Nat} (f : Fit lv σ n) (p : Vis × Vis) (ln : Lin) : ∀ g ∈ (⟨p :: lv, ln⟩ : Fm) :: σ, g.lv.length ≤ 900 := fun g hg => by
  rcases List.mem_cons.mp hg with rfl | hg
  · have := f.1; show lv.length + 1 ≤ 900; lia
  · have := f.2 g hg; lia
inductive KPost (w : World) (σ : List Fm) (v : Value) (me : Addr) (a0 : Vis) (lv : List (Vis × Vis)) (Rp : Vis → See → Value → Prop) (b : Nat) (res : Except Int (Int × Vis)) (r : Value) (ch' : Led) : Prop
  | mk (l' : _) (w1 : _) (c' : _) (fz : _) (h1_ : res = .ok (l', w1)) (h2_ : w1.length ≤ b) (h3_ : ch' = c' ++ fz) (h4_ : Chain w (⟨(a0, w1) :: lv, (l', me)⟩ :: σ) v c') (h5_ : Apart c' fz) (h6_ : Rp (vs9 a0 lv σ) (seeL fz) r) : KPost w σ v me a0 lv Rp b res r ch'
def PartAt (w : World) (mean : ExcName → Option Value) (mg mb : Str → Option Value) (G : Heap) (fn : Addr) (part : Value) (k : KidT) (n : Nat) : Prop :=
  ∀ (v : Value) (ch : Led) (a0 w0 : Vis) (lv : List (Vis × Vis)) (ln : Int) (me : Addr) (σ : List Fm), Chain w (⟨(a0, w0) :: lv, (ln, me)⟩ :: σ) v ch → Fit lv σ n → w0.length + k.wd ≤ 1000 →
    Triple w mean mg mb G fn [v, part] (n + σ.length) ch (KPost w σ v me a0 lv k.Rp (w0.length + k.wd) (k.run ln (vs9 a0 lv σ) w0)) (fun e => k.run ln (vs9 a0 lv σ) w0 = .error e)
def foldQ : List Run → Run
  | [], ln, _, new => .ok (ln, new)
  | r :: rs, ln, vis, new => match r ln vis new with
    | .error e => .error e
    | .ok (l, n) => foldQ rs l vis n
theorem foldQ_drop {ks : List KidT} {i : Nat} {k : KidT} (h : ks[i]? = some k) (ln : Int) (vis new : Vis) : foldQ ((ks.drop i).map (·.run)) ln vis new = match k.run ln vis new with
    | .error e => .error e
    | .ok (l, n) => foldQ ((ks.drop (i + 1)).map (·.run)) l vis n := by
  rw [List.drop_eq_getElem_cons (List.getElem?_eq_some_iff.mp h).1, (List.getElem?_eq_some_iff.mp h).2]
  rfl
def sumW : List KidT → Nat
  | [] => 0
  | k :: ks => k.wd + sumW ks
theorem sumW_drop {ks : List KidT} {i : Nat} {k : KidT} (h : ks[i]? = some k) : sumW (ks.drop i) = k.wd + sumW (ks.drop (i + 1)) := by
  rw [List.drop_eq_getElem_cons (List.getElem?_eq_some_iff.mp h).1, (List.getElem?_eq_some_iff.mp h).2]
  rfl
theorem kids_mono {vis : Vis} {P P' : See} (h : ∀ a o, P a o → P' a o) : ∀ {ys : List Value} {ks : List KidT}, Paired (fun y (k : KidT) => k.Rp vis P y) ys ks → Paired (fun y (k : KidT) => k.Rp vis P' y) ys ks
  | _, _, .nil => .nil
  | _, _, .cons a t => .cons (KidT.mono _ h a) (kids_mono h t)
def listK (ks : List KidT) : KidT where
  run := foldQ (ks.map (·.run))
  Rp := fun vis P r => ∃ l n ys, r = .ref l ∧ P l (lstO ys n) ∧ Paired (fun y (k : KidT) => k.Rp vis P y) ys ks
  wd := sumW ks
  mono := fun h ⟨l, n, ys, e, hl, hp⟩ => ⟨l, n, ys, e, h _ _ hl, kids_mono h hp⟩
def genK (wd : Str) (ks : List KidT) : KidT where
  run := foldQ (ks.map (·.run))
  Rp := fun vis P r => ∃ a t ys, r = .ref a ∧ P a (tupO (.str wd t :: ys)) ∧ Paired (fun y (k : KidT) => k.Rp vis P y) ys ks
  wd := sumW ks
  mono := fun h ⟨a, t, ys, e, hl, hp⟩ => ⟨a, t, ys, e, h _ _ hl, kids_mono h hp⟩
inductive KidsJ (w : World) (σ : List Fm) (v : Value) (me : Addr) (a0 w0 : Vis) (lv : List (Vis × Vis)) (ln : Int) (ks : List KidT) (i : Nat) (ch₁ rs : Led) (ys : List Value) : Prop
  | mk (l' : _) (w1 : _) (h1_ : Chain w (⟨(a0, w1) :: lv, (l', me)⟩ :: σ) v ch₁) (h2_ : w1.length + sumW (ks.drop i) ≤ w0.length + sumW ks) (h3_ : foldQ (ks.map (·.run)) ln (vs9 a0 lv σ) w0 = foldQ ((ks.drop i).map (·.run)) l' (vs9 a0 lv σ) w1) (h4_ : Paired (fun y (k : KidT) => k.Rp (vs9 a0 lv σ) (seeL rs) y) ys (ks.take i)) : KidsJ w σ v me a0 w0 lv ln ks i ch₁ rs ys
theorem KidsJ.start {w : World} {σ : List Fm} {v : Value} {me : Addr} {a0 w0 : Vis} {lv : List (Vis × Vis)} {ln : Int} {ks : List KidT} {ch : Led} (hc : Chain w (⟨(a0, w0) :: lv, (ln, me)⟩ :: σ) v ch) : KidsJ w σ v me a0 w0 lv ln ks 0 ch [] [] :=
  ⟨ln, w0, hc, Nat.le_refl _, rfl, .nil⟩
theorem KidsJ.step {w : World} {σ : List Fm} {v : Value} {me : Addr} {a0 w0 w1 : Vis} {lv : List (Vis × Vis)} {ln l' : Int} {ks : List KidT} {i : Nat} {k : KidT} {rs : Led} {ys : List Value} {r : Value} {ch' : Led} (hk : ks[i]? = some k)
    (hw : w1.length + sumW (ks.drop i) ≤ w0.length + sumW ks) (he : foldQ (ks.map (·.run)) ln (vs9 a0 lv σ) w0 = foldQ ((ks.drop i).map (·.run)) l' (vs9 a0 lv σ) w1) (hp : Paired (fun y (k : KidT) => k.Rp (vs9 a0 lv σ) (seeL rs) y) ys (ks.take i))
    (h : KPost w σ v me a0 lv k.Rp (w1.length + k.wd) (k.run l' (vs9 a0 lv σ) w1) r ch') : ∃ c' fz, ch' = c' ++ fz ∧ Apart c' fz ∧ KidsJ w σ v me a0 w0 lv ln ks (i + 1) c' (fz ++ rs) (ys ++ [r]) := by
  refine cps fun k_ => ?_
  obtain ⟨l2, w2, c', fz, hres, hlen, rfl, hc, ap, hr⟩ := h
  apply k_
  clear k_
  refine ⟨c', fz, rfl, ap, l2, w2, hc, ?_, ?_, ?_⟩
  · rw [sumW_drop hk] at hw; lia
  · rw [he, foldQ_drop hk, hres]
  · rw [List.take_add_one, hk]
    exact (kids_mono (fun a o q => List.mem_append_right _ q) hp).snoc (KidT.mono _ (fun a o q => List.mem_append_left _ q) hr)
theorem KidsJ.fail {σ : List Fm} {a0 w0 w1 : Vis} {lv : List (Vis × Vis)} {ln l' e : Int} {ks : List KidT} {i : Nat} {k : KidT} (hk : ks[i]? = some k)
    (he : foldQ (ks.map (·.run)) ln (vs9 a0 lv σ) w0 = foldQ ((ks.drop i).map (·.run)) l' (vs9 a0 lv σ) w1) (h : k.run l' (vs9 a0 lv σ) w1 = .error e) : foldQ (ks.map (·.run)) ln (vs9 a0 lv σ) w0 = .error e := by
  rw [he, foldQ_drop hk, h]
theorem KidsJ.fin {w : World} {σ : List Fm} {v : Value} {me : Addr} {a0 w0 : Vis} {lv : List (Vis × Vis)} {ln : Int} {ks : List KidT} {ch rs : Led} {ys : List Value} (h : KidsJ w σ v me a0 w0 lv ln ks ks.length ch rs ys) :
    ∃ l' w1, foldQ (ks.map (·.run)) ln (vs9 a0 lv σ) w0 = .ok (l', w1) ∧ w1.length ≤ w0.length + sumW ks ∧ Chain w (⟨(a0, w1) :: lv, (l', me)⟩ :: σ) v ch ∧ Paired (fun y (k : KidT) => k.Rp (vs9 a0 lv σ) (seeL rs) y) ys ks := by
  refine cps fun k_ => ?_
  obtain ⟨l', w1, hc, hw, he, hp⟩ := h
  apply k_
  clear k_
  rw [List.drop_length] at hw he
  rw [List.take_length] at hp
  exact ⟨l', w1, he, by simpa [sumW] using hw, hc, hp⟩
section
variable {w : World} {mean : ExcName → Option Value} {mg mb : Str → Option Value}
theorem part_list {G : Heap} {l : Addr} {vals : List Value} {nl : Nat} {ks : List KidT} {n : Nat} (hlen : vals.length ≤ 10) (hl : G.get? l = some (lstO vals nl)) (hk : Paired (fun v (k : KidT) => ∀ G₂, G.StaysIn G₂ → PartAt w mean mg mb G₂ 289 v k n) vals ks) :
    PartAt w mean mg mb G 289 (.ref l) (listK ks) (n + 1) := by
  intro v ch a0 w0 lv ln me σ hc hfit hwd
  simp only [listK] at hwd ⊢
  have hlen2 := hk.length
  show Triple _ _ _ _ _ _ _ _ _ _ _
  refine' enterC (binds := [("scope", v), ("part", .ref l)]) ?k6 ?k7 ?k9 ?kB ?kD ?_ ?kn ?c2 ?c3 ?c4
  case k6 => k_is
  case k7 => k_is
  case k9 => exact rfl
  case kB => exact rfl
  case kD => decide +kernel
  case kn => first | lia | (simp only [htP, htT, htS, htB]; lia)
  case c2 => exact rfl
  case c3 => exact rfl
  case c4 => exact rfl
  k_whole
  intro dp un gd frs base A₀ s L h₁ tk₁ cells Qb Eb B X T hdp hun F N hlt Y Ap hret hexc hown
  have hY := CellsAre.one Y
  refine cps fun k_ => ?_
  obtain ⟨o1, hE, d1⟩ := hY
  apply k_
  clear k_
  subst hE
  clear Y
  (try dsimp only at F N Ap d1)
  k_steps
  refine Halt.mk ?_
  refine compK (by assumption) (by assumption) (by assumption) rfl rfl rfl (by exact rfl) (by decide) rfl (by decide) (by exact rfl) (Ex := fun e => foldQ (ks.map (·.run)) ln (vs9 a0 lv σ) w0 = .error e) hexc ?_
  k_steps
  (try dsimp only [kRe, kS])
  replace F : Fr G L _ _ := F
  refine comp_at_list (items := vals.toArray) (ch := ch) (rest := [(L + 1, o1)]) (J := KidsJ w σ v me a0 w0 lv ln ks) F N Ap (stays_list F.keep ⟨_, hl, rfl, _, rfl⟩) (fun p hp e => ?_) (by simp only [List.size_toArray]; lia) (KidsJ.start hc) ?_ ?_
  · have := (N p (List.mem_append_left _ hp)).2.2; rw [e, hl] at this; cases this
  · intro h₂ tk₂ i x9 G₂ C h tk ch₁ rs ys own m₂ E' hi hP hJ gst grest B₂ X₂ T₂ F₂ hx₂ N₂ A₂ hE' R9 hR9
    refine cps fun k_ => ?_
    obtain ⟨l', w1, hc1, hw1, he1, hp1⟩ := hJ
    apply k_
    clear k_
    have c1 := grest (L + 1, o1) (by k_mem)
    dsimp only at c1
    refine cps fun k_ => ?_
    obtain ⟨k, hk9, hR⟩ := paired_get hk i (show vals[i]? = some x9 by simpa using hP)
    apply k_
    clear k_
    have hW : w1.length + k.wd ≤ 1000 := by rw [sumW_drop hk9] at hw1; lia
    clear B X T F N hret hexc hown
    k_steps
    refine Halt.mk ?_
    refine useC (ch := ch₁) B₂ F₂ N₂ X₂ T₂ A₂ hdp hun (by first | exact Nat.lt_succ_self _ | lia) (fun G₃ st₃ z9 => hR G₃ (fun b o e => st₃ b o (gst b o e)) v ch₁ a0 w1 lv l' me σ hc1 (hfit.le (by lia)) hW) ?_ ?_
    · intro r' ch' h' tk' F' N' A' P'
      refine cps fun k_ => ?_
      obtain ⟨c', fz, rfl, ap, hJ'⟩ := KidsJ.step hk9 hw1 he1 hp1 P'
      apply k_
      clear k_
      (try k_unfold)
      exact hR9 _ _ ⟨c', fz, h', tk', rfl, F', news_assoc N', apart_split A' ap, apart_right A', hJ'⟩
    · exact fun e l h' tk' hx9 hex => hE' e l h' tk' hx9 (KidsJ.fail hk9 he1 hex)
  · intro D ch' rs ys k h' tk' hlen' hJ F' N' A'
    rw [show vals.toArray.size = ks.length by simp only [List.size_toArray]; lia] at hJ
    refine cps fun k_ => ?_
    obtain ⟨l', w1, hres, hw1, hc1, hp1⟩ := hJ.fin
    apply k_
    clear k_
    k_steps
    exact hret (.ret (.ref D)) (ch' ++ ((D, lstX ys k) :: rs)) _ _ _ F' (news_sub N' fun p hp => by
      simp only [List.mem_append, List.mem_cons] at hp ⊢
      rcases hp with hp | hp | hp <;> simp only [hp, true_or, or_true]) ⟨l', w1, ch', _, hres, hw1, rfl, hc1, A'.sub (fun z9 h => h) (fun p hp => by
      simp only [List.mem_append, List.mem_cons] at hp ⊢
      rcases hp with hp | hp <;> simp only [hp, true_or, or_true]), D, k, ys, rfl, List.mem_cons_self, kids_mono (fun a o q => List.mem_cons_of_mem _ q) hp1⟩
end
end
local macro_rules | `(tactic| walk_at "subscriptTail Name Constant ref int") => `(tactic| (k_here; (with_reducible show wpAny _ _ (subscriptTail _ _ (Value.ref _) (Value.int 0 _)) _ _ _); k_dflt (refine item0_G (by k_memK) (by k_memK) ?_ (by with_unfolding_all rfl))))
local macro_rules | `(tactic| walk_at "subscriptTail Name Slice ref ref") => `(tactic| (k_here; (with_reducible show wpAny _ _ (subscriptTail _ _ (Value.ref _) (Value.ref _)) _ _ _); (with_reducible rename Fr _ _ _ _ => kF); (with_reducible rename News _ _ _ _ => kN); (with_unfolding_all refine slice1_G kF kN (by k_memK) (by exact Nat.le_add_left _ _) (by first | lia | simp) ?_); clear kF kN; intro D' h' F' N' l1'; (try k_sweep)))
section
local macro_rules | `(tactic| walk_at "binaryOp Add ref ref") => `(tactic| (refine Halt.out ?_))
local macro_rules | `(tactic| walk_at "call type:tuple") => `(tactic| (refine Halt.out ?_))
section
variable {w : World} {mean : ExcName → Option Value} {mg mb : Str → Option Value}
theorem tuple_K {A : Around} {E : Value → Shared → Prop} {s : Shared} {G : Heap} {L : Addr} {m : Str → Option Value} {l : Addr} {vs : List Value} {led : Led} {Q : Value → Shared → Prop} (F : Fr G L s.heap m) (N : News G L s.heap led) (hl : s.heap.IsList l vs.toArray) (hsz : vs.length ≤ 1000)
    (hQ : ∀ (D : Addr) h', Fr G L h' m → News G L h' ((D, tupO vs) :: led) → (∀ p ∈ led, @LT.lt Nat _ p.1 D) → Q (.ref D) { s with heap := h' }) :
    wpAny (model PG w) A (call (.type "tuple") [.ref l]) Q E s := by
  refine call_tuple_list hl (fun h' hk => ?_) (by rw [List.size_toArray, sizeLine_eq]; lia)
  have F' : Fr G L h' m := F.keeps hk
  have N' : News G L h' led := fun p hp => ⟨hk _ _ (N p hp).1, (N p hp).2⟩
  exact hQ _ _ (F'.push _) (N'.push F' _) fun p hp => Heap.lt_size (N' p hp).1
theorem node_gen {G : Heap} {a : Addr} {wd : Str} {t : Tok} {vals : List Value} {ks : List KidT} {n : Nat} (hwd : valueAt resKv wd = none) (hlen : vals.length ≤ 10) (ha : G.get? a = some (tupO (.str wd t :: vals))) (hk : Paired (fun v (k : KidT) => ∀ G₂, G.StaysIn G₂ → PartAt w mean mg mb G₂ 289 v k n) vals ks) :
    PartAt w mean mg mb G 284 (.ref a) (genK wd ks) (n + 1) := by
  intro v ch a0 w0 lv ln me σ hc hfit hwd9
  simp only [genK] at hwd9 ⊢
  have hlen2 := hk.length
  have hT : IsTup G a (List.toArray (.str wd t :: vals)) := tup_of ha
  show Triple _ _ _ _ _ _ _ _ _ _ _
  refine' enterC (binds := [("scope", v), ("node", .ref a)]) ?k6 ?k7 ?k9 ?kB ?kD ?_ ?kn ?c2 ?c3 ?c4
  case k6 => k_is
  case k7 => k_is
  case k9 => exact rfl
  case kB => exact rfl
  case kD => decide +kernel
  case kn => first | lia | (simp only [htP, htT, htS, htB]; lia)
  case c2 => exact rfl
  case c3 => exact rfl
  case c4 => exact rfl
  k_whole
  intro dp un gd frs base A₀ s L h₁ tk₁ cells Qb Eb B X T hdp hun F N hlt Y Ap hret hexc hown
  have hY := CellsAre.one Y
  refine cps fun k_ => ?_
  obtain ⟨o1, hE, d1⟩ := hY
  apply k_
  clear k_
  subst hE
  clear Y
  (try dsimp only at F N Ap d1)
  refine cps fun k_ => ?_
  obtain ⟨oR, hR, hRd⟩ := res_dict X
  apply k_
  clear k_
  k_steps
  refine Halt.mk ?_
  refine in_kvs (Fr.keep (by assumption) _ _ hR) hRd (by decide +kernel) ?_
  rw [hwd]
  k_steps
  rename_i D1 h5 F5 N5 l5
  refine Halt.mk ?_
  refine compK (by assumption) (by assumption) (by assumption) rfl rfl rfl (by exact rfl) (by decide) rfl (by decide) (by exact rfl) (Ex := fun e => foldQ (ks.map (·.run)) ln (vs9 a0 lv σ) w0 = .error e) hexc ?_
  k_steps
  (try dsimp only [kRe, kS])
  rename_i D2 h6 F6 N6 l6
  replace F6 : Fr G L _ _ := F6
  have N7 : News G L h6 (ch ++ [(D2, tupO vals), (D1, lstO [.str wd t] 0), (L + 1, o1)]) := news_sub N6 (fun p hp => by
      simp only [List.mem_append, List.mem_cons, List.not_mem_nil, or_false] at hp ⊢
      rcases hp with hp | hp | hp | hp <;> simp only [hp, true_or, or_true])
  have A7 : Apart ch [(D2, tupO vals), (D1, lstO [.str wd t] 0), (L + 1, o1)] := fun p hp q hq => by
    simp only [List.mem_cons, List.not_mem_nil, or_false] at hq
    rcases hq with rfl | rfl | rfl
    · exact Nat.ne_of_lt (l6 p (List.mem_cons_of_mem _ (List.mem_append_left _ hp)))
    · exact Nat.ne_of_lt (l5 p (List.mem_append_left _ hp))
    · exact Ap p hp _ List.mem_cons_self
  clear l5 l6 N6 Ap
  refine comp_at_tup (items := vals.toArray) (ch := ch) (rest := [(D2, tupO vals), (D1, lstO [.str wd t] 0), (L + 1, o1)]) (J := KidsJ w σ v me a0 w0 lv ln ks) F6 N7 A7 ⟨_, (N7 (D2, tupO vals) (List.mem_append_right _ List.mem_cons_self)).1, rfl, _, rfl⟩ (fun p hp => A7 p hp _ List.mem_cons_self) (by simp only [List.size_toArray]; lia) (KidsJ.start hc) ?_ ?_
  · intro h₂ tk₂ i x9 G₂ C h tk ch₁ rs ys own m₂ E' hi hP hJ gst grest B₂ X₂ T₂ F₂ hx₂ N₂ A₂ hE' R9 hR9
    refine cps fun k_ => ?_
    obtain ⟨l', w1, hc1, hw1, he1, hp1⟩ := hJ
    apply k_
    clear k_
    have c1 := grest (L + 1, o1) (by k_mem)
    dsimp only at c1
    refine cps fun k_ => ?_
    obtain ⟨k, hk9, hR⟩ := paired_get hk i (show vals[i]? = some x9 by simpa using hP)
    apply k_
    clear k_
    have hW : w1.length + k.wd ≤ 1000 := by rw [sumW_drop hk9] at hw1; lia
    clear B X T F6 N7 A7 hret hexc hown
    k_steps
    refine Halt.mk ?_
    refine useC (ch := ch₁) B₂ F₂ N₂ X₂ T₂ A₂ hdp hun (by first | exact Nat.lt_succ_self _ | lia) (fun G₃ st₃ z9 => hR G₃ (fun b o e => st₃ b o (gst b o e)) v ch₁ a0 w1 lv l' me σ hc1 (hfit.le (by lia)) hW) ?_ ?_
    · intro r' ch' h' tk' F' N' A' P'
      refine cps fun k_ => ?_
      obtain ⟨c', fz, rfl, ap, hJ'⟩ := KidsJ.step hk9 hw1 he1 hp1 P'
      apply k_
      clear k_
      (try k_unfold)
      exact hR9 _ _ ⟨c', fz, h', tk', rfl, F', news_assoc N', apart_split A' ap, apart_right A', hJ'⟩
    · exact fun e l h' tk' hx9 hex => hE' e l h' tk' hx9 (KidsJ.fail hk9 he1 hex)
  · intro D ch' rs ys k h' tk' hlen' hJ F' N' A'
    rw [show vals.toArray.size = ks.length by simp only [List.size_toArray]; lia] at hJ
    refine cps fun k_ => ?_
    obtain ⟨l', w1, hres, hw1, hc1, hp1⟩ := hJ.fin
    apply k_
    clear k_
    clear F6 N7 A7
    k_steps
    refine Halt.mk ?_
    refine add_lists (vs := [.str wd t]) (ws := ys) F' N' (isList_of (N' (D1, lstO [.str wd t] 0) (by simp)).1) (isList_of (N' (D, lstX ys k) (by simp)).1) ?_ (by rw [sizeLine_eq]; simp only [List.size_toArray] at hlen'; simp only [List.length_cons, List.length_nil]; lia)
    intro h8 F8 N8
    k_steps
    refine Halt.mk ?_
    refine tuple_K (vs := .str wd t :: ys) F8 N8 (isList_of (N8 _ List.mem_cons_self).1) (by simp only [List.size_toArray] at hlen'; simp only [List.length_cons]; lia) ?_
    intro D3 h9 F9 N9 l9
    k_steps
    exact hret (.ret (.ref D3)) (ch' ++ ((D3, tupO (.str wd t :: ys)) :: rs)) _ _ _ F9 (news_sub N9 fun p hp => by
      simp only [List.mem_append, List.mem_cons] at hp ⊢
      rcases hp with hp | hp | hp <;> simp only [hp, true_or, or_true]) ⟨l', w1, ch', _, hres, hw1, rfl, hc1, fun p hp q hq => by
      rcases List.mem_cons.mp hq with rfl | hq
      · exact Nat.ne_of_lt (l9 p (by simp [hp]))
      · exact A' p hp q (by simp [hq]), D3, t, ys, rfl, List.mem_cons_self, kids_mono (fun a o q => List.mem_cons_of_mem _ q) hp1⟩
end
end
/-! the leaves as parts; places -/
def runN : Run := fun ln z9 new => .ok (ln, new)
def nilK : KidT := ⟨runN, fun z9 z9 z9 => True, 0, fun z9 z9 => trivial⟩
inductive wordAt (P : See) (r : Value) (told : Bool) : Prop
  | mk (a : _) (wd : _) (tk : _) (pl : _) (h1_ : r = .ref a) (h2_ : P a (tupO [.str wd tk, pl])) (h3_ : WordIs wd told) : wordAt P r told
theorem wordAt.mono {P P' : See} {r : Value} {b : Bool} (h : ∀ a o, P a o → P' a o) (x : wordAt P r b) : wordAt P' r b := let ⟨a, wd, tk, pl, e, i, j⟩ := x; ⟨a, wd, tk, pl, e, h _ _ i, j⟩
def nameK (sg x : Str) : KidT := ⟨runN, fun vis P r => wordAt P r (vis.lookup (keyOf sg x) == some true), 0, fun h x => wordAt.mono h x⟩
def toldK (my : Bool) (sg x : Str) : KidT := ⟨fun ln z9 new => if badName my x then .error ln else .ok (ln, (keyOf sg x, my) :: new), fun z9 P r => wordAt P r my, 1, fun h x => wordAt.mono h x⟩
inductive DoneElem (P : See) (r : Value) : Prop
  | mk (a : Addr) (t : Tok) (ys : List Value) (e : r = .ref a) (h : P a (tupO (.str "elem" t :: ys))) : DoneElem P r
def DoneP (vis : Vis) (P : See) : Value → Place → Prop
  | r, .name sg x => wordAt P r (vis.lookup (keyOf sg x) == some true)
  | r, .elem _ => DoneElem P r
  | r, .told my _ => wordAt P r my
  | r, .one p => PlOne P (fun v => DoneP vis P v p) r
  | r, .two p q => PlTwo P (fun v => DoneP vis P v p) (fun v => DoneP vis P v q) r
theorem DoneP.mono {vis : Vis} {P P' : See} (h : ∀ a o, P a o → P' a o) : ∀ (p : Place) {v : Value}, DoneP vis P v p → DoneP vis P' v p
  | .name _ _, _, x => wordAt.mono h x
  | .elem _, _, x => let ⟨a, t, ys, e, i⟩ := x; ⟨a, t, ys, e, h _ _ i⟩
  | .told _ _, _, x => wordAt.mono h x
  | .one p, _, x => let ⟨a, t, l, n, v1, e, i, j, k⟩ := x; ⟨a, t, l, n, v1, e, h _ _ i, h _ _ j, DoneP.mono h p k⟩
  | .two p q, _, x => let ⟨a, t, l, n, v1, v2, e, i, j, k, k'⟩ := x; ⟨a, t, l, n, v1, v2, e, h _ _ i, h _ _ j, DoneP.mono h p k, DoneP.mono h q k'⟩
def placeK (p : Place) : KidT := ⟨runP' p, fun vis P r => DoneP vis P r p, widP p, fun h x => DoneP.mono h p x⟩
section
variable {w : World} {mean : ExcName → Option Value} {mg mb : Str → Option Value}
theorem Triple.conv {G : Heap} {f : Addr} {vs : List Value} {n n' : Nat} {ch : Led} {Post Post' : Value → Led → Prop} {Ex Ex' : Int → Prop} (hn : n ≤ n') (h : ∀ r c, Post r c → ∃ c', (∀ p ∈ c', p ∈ c) ∧ Post' r c') (hx : ∀ e, Ex e → Ex' e) (t : Triple w mean mg mb G f vs n ch Post Ex) : Triple w mean mg mb G f vs n' ch Post' Ex' := by
  intro dp un gd frs base A₀ s Q E B X T hdp hun hst hsz hown hret hexc
  refine t B X T (by lia) (by lia) hst hsz hown (fun r ch' h' tk' k1 k2 k3 => ?_) fun e ln h' tk' k1 k2 k3 => hexc e ln h' tk' k1 k2 (hx _ k3)
  refine cps fun k_ => ?_
  obtain ⟨c', hs, hp⟩ := h r ch' k3
  apply k_
  clear k_
  exact hret r c' h' tk' k1 (k2.mono hs) hp
theorem PartAt.conv {G : Heap} {fn : Addr} {part : Value} {k k' : KidT} {n n' : Nat} (hn : n ≤ n') (hr : ∀ ln vis new, k.run ln vis new = k'.run ln vis new) (hw : k.wd ≤ k'.wd) (hR : ∀ vis P r, k.Rp vis P r → k'.Rp vis P r) (t : PartAt w mean mg mb G fn part k n) : PartAt w mean mg mb G fn part k' n' := by
  intro v ch a0 w0 lv ln me σ hc hf hb
  refine Triple.conv (by lia) (fun r c hp => ?_) (fun e he => by rw [← hr]; exact he) (t v ch a0 w0 lv ln me σ hc (hf.le hn) (by lia))
  refine cps fun k_ => ?_
  obtain ⟨l', w1, c', fz, h1, h2, h3, h4, h5, h6⟩ := hp
  apply k_
  clear k_
  exact ⟨c, fun z9 h => h, l', w1, c', fz, by rw [← hr]; exact h1, by lia, h3, h4, h5, hR _ _ _ h6⟩
theorem PartAt.tup {G : Heap} {a : Addr} {wd : Str} {t : Tok} {rest : List Value} {k : KidT} {n : Nat} (hr : rest.length ≤ 10) (ha : G.get? a = some (tupO (.str wd t :: rest))) (h : ∀ G₂, G.StaysIn G₂ → PartAt w mean mg mb G₂ 284 (.ref a) k n) : PartAt w mean mg mb G 289 (.ref a) k (n + 1) := by
  intro v ch a0 w0 lv ln me σ hc hf hb
  exact Triple.le (by lia) (part_tup hr ha fun G₂ st => h G₂ st v ch a0 w0 lv ln me σ hc (hf.le (by lia)) hb)
theorem part_nil_str {G : Heap} {x : Str} {t : Tok} {n : Nat} (hn : 1 ≤ n) : PartAt w mean mg mb G 289 (.str x t) nilK n := by
  intro v ch a0 w0 lv ln me σ hc hf hb
  exact Triple.conv (by lia) (fun r c ⟨e, _⟩ => ⟨c, fun z9 h => h, ln, w0, c, [], rfl, Nat.le_add_right _ _, (List.append_nil _).symm, e ▸ hc, apart_nilr, trivial⟩) (fun z9 h => h.elim) part_str
theorem part_nil_int {G : Heap} {x : Int} {t : Tok} {n : Nat} (hn : 1 ≤ n) : PartAt w mean mg mb G 289 (.int x t) nilK n := by
  intro v ch a0 w0 lv ln me σ hc hf hb
  exact Triple.conv (by lia) (fun r c ⟨e, _⟩ => ⟨c, fun z9 h => h, ln, w0, c, [], rfl, Nat.le_add_right _ _, (List.append_nil _).symm, e ▸ hc, apart_nilr, trivial⟩) (fun z9 h => h.elim) part_int
theorem apart_snoc {c : Led} {a : Addr} {o : Obj} (h : ∀ p ∈ c, p.1 ≠ a) : Apart c [(a, o)] := fun p hp q hq => by rw [List.mem_singleton.mp hq]; exact h p hp
theorem mem_snoc {c : Led} {a : Addr × Obj} : ∀ p ∈ c ++ [a], p ∈ a :: c := fun p hp => by
  simp only [List.mem_append, List.mem_cons, List.not_mem_nil, or_false] at hp ⊢
  rcases hp with hp | hp <;> simp only [hp, true_or, or_true]
theorem name_of {sg x : Str} {σ : List Fm} {v : Value} {a0 w0 : Vis} {lv : List (Vis × Vis)} {ln : Int} {me : Addr} {r : Value} {c : Led} (h : NamePost w (⟨(a0, w0) :: lv, (ln, me)⟩ :: σ) v ((visF (⟨(a0, w0) :: lv, (ln, me)⟩ :: σ)).lookup (keyOf sg x) == some true) (!colonNames.contains x) r c) :
    ∃ c', (∀ p ∈ c', p ∈ c) ∧ ∃ c2 fz, c' = c2 ++ fz ∧ Chain w (⟨(a0, w0) :: lv, (ln, me)⟩ :: σ) v c2 ∧ Apart c2 fz ∧ ((!colonNames.contains x) = true → wordAt (seeL fz) r ((vs9 a0 lv σ).lookup (keyOf sg x) == some true)) := by
  refine cps fun k_ => ?_
  obtain ⟨a1, wd, tk, pl, c2, rfl, rfl, hc, hne, hw⟩ := h
  apply k_
  clear k_
  exact ⟨c2 ++ [(a1, tupO [.str wd tk, pl])], mem_snoc, c2, _, rfl, hc, apart_snoc hne, fun h => ⟨a1, wd, tk, pl, rfl, List.mem_cons_self, hw h⟩⟩
theorem part_name {G : Heap} {a : Addr} {sg x : Str} {t1 t2 t3 : Tok} (hsg : sg ∈ sigs) (hx : x ∈ allNames) (ha : G.get? a = some (tupO [.str "name" t1, .str sg t2, .str x t3])) : PartAt w mean mg mb G 289 (.ref a) nilK 8 ∧ ((!colonNames.contains x) = true → PartAt w mean mg mb G 289 (.ref a) (nameK sg x) 8) := by
  have key : ∀ {G₂ : Heap} {v : Value} {ch : Led} {a0 w0 : Vis} {lv : List (Vis × Vis)} {ln : Int} {me : Addr} {σ : List Fm}, G.StaysIn G₂ → Chain w (⟨(a0, w0) :: lv, (ln, me)⟩ :: σ) v ch → Fit lv σ 8 →
      Triple w mean mg mb G₂ 166 [v, .ref a] (σ.length + 4) ch (NamePost w (⟨(a0, w0) :: lv, (ln, me)⟩ :: σ) v ((visF (⟨(a0, w0) :: lv, (ln, me)⟩ :: σ)).lookup (keyOf sg x) == some true) (!colonNames.contains x)) No := by
    intro G₂ v ch a0 w0 lv ln me σ st hc hf
    exact rname hc (hf.all _ _) hsg hx (st _ _ ha)
  refine ⟨fun v ch a0 w0 lv ln me σ hc hf hb => ?_, fun hcol v ch a0 w0 lv ln me σ hc hf hb => ?_⟩
  · refine Triple.conv (n := σ.length + 4 + 1 + 1) (by lia) (fun r c hp => ?_) (fun z9 h => h.elim) (part_tup (Nat.le_of_ble_eq_true rfl) ha fun G₂ st => node_name (st _ _ ha) fun G₃ st₃ => key (fun b o e => st₃ b o (st b o e)) hc hf)
    refine cps fun k_ => ?_
    obtain ⟨c', hs, c2, fz, rfl, hc2, ap, hw⟩ := name_of hp
    apply k_
    clear k_
    exact ⟨_, hs, ln, w0, c2, fz, rfl, Nat.le_add_right _ _, rfl, hc2, ap, trivial⟩
  · refine Triple.conv (n := σ.length + 4 + 1 + 1) (by lia) (fun r c hp => ?_) (fun z9 h => h.elim) (part_tup (Nat.le_of_ble_eq_true rfl) ha fun G₂ st => node_name (st _ _ ha) fun G₃ st₃ => key (fun b o e => st₃ b o (st b o e)) hc hf)
    refine cps fun k_ => ?_
    obtain ⟨c', hs, c2, fz, rfl, hc2, ap, hw⟩ := name_of hp
    apply k_
    clear k_
    exact ⟨_, hs, ln, w0, c2, fz, rfl, Nat.le_add_right _ _, rfl, hc2, ap, hw hcol⟩
theorem part_told {G : Heap} {a : Addr} {my : Bool} {sg x : Str} {t1 t2 t3 : Tok} (hsg : sg ∈ sigs) (hx : x ∈ allNames) (ha : G.get? a = some (tupO [.str (myWord my) t1, .str sg t2, .str x t3])) : PartAt w mean mg mb G 289 (.ref a) (toldK my sg x) 8 := by
  intro v ch a0 w0 lv ln me σ hc hf hb
  have hf1 := hf.1
  have fin : ∀ r c, ToldPost w my a0 w0 lv (ln, me) σ v (keyOf sg x) x r c → ∃ c', (∀ p ∈ c', p ∈ c) ∧ KPost w σ v me a0 lv (toldK my sg x).Rp (w0.length + (toldK my sg x).wd) ((toldK my sg x).run ln (vs9 a0 lv σ) w0) r c' := by
    intro r c hp
    refine cps fun k_ => ?_
    obtain ⟨hbad, a1, wd, tk, pl, c2, rfl, rfl, hc2, hne, hw⟩ := hp
    apply k_
    clear k_
    exact ⟨c2 ++ [(a1, tupO [.str wd tk, pl])], mem_snoc, ln, _, c2, _, by simp only [toldK, hbad]; rfl, by simp [toldK], rfl, hc2, apart_snoc hne, a1, wd, tk, pl, rfl, List.mem_cons_self, hw⟩
  have fail : ∀ e, badName my x = true ∧ e = ln → (toldK my sg x).run ln (vs9 a0 lv σ) w0 = .error e := fun e h => by simp only [toldK, h.1, h.2]; rfl
  have hw : w0.length ≤ 1000 := by lia
  cases my
  · have t6 : ∀ G₃, G.StaysIn G₃ → Triple w mean mg mb G₃ 187 [v, .ref a] 6 ch (ToldPost w false a0 w0 lv (ln, me) σ v (keyOf sg x) x) (fun e => badName false x = true ∧ e = ln) := fun G₃ st => by
      exact @rour w mean mg mb G₃ a0 w0 lv (ln, me) σ v ch a sg x t1 t2 t3 hc (by lia) hw hsg hx (st _ _ ha)
    have t8 : Triple w mean mg mb G 289 [v, .ref a] 8 ch (ToldPost w false a0 w0 lv (ln, me) σ v (keyOf sg x) x) (fun e => badName false x = true ∧ e = ln) := part_tup (Nat.le_of_ble_eq_true rfl) ha fun G₂ st => node_our (st _ _ ha) fun G₃ st₃ => t6 G₃ fun b o e => st₃ b o (st b o e)
    exact @Triple.conv _ _ _ _ _ _ _ _ _ _ _ _ _ _ (Nat.le_add_right _ _) fin fail @t8
  · have t6 : ∀ G₃, G.StaysIn G₃ → Triple w mean mg mb G₃ 180 [v, .ref a] 6 ch (ToldPost w true a0 w0 lv (ln, me) σ v (keyOf sg x) x) (fun e => badName true x = true ∧ e = ln) := fun G₃ st => by
      exact @rmy w mean mg mb G₃ a0 w0 lv (ln, me) σ v ch a sg x t1 t2 t3 hc (by lia) hw hsg hx (st _ _ ha)
    have t8 : Triple w mean mg mb G 289 [v, .ref a] 8 ch (ToldPost w true a0 w0 lv (ln, me) σ v (keyOf sg x) x) (fun e => badName true x = true ∧ e = ln) := part_tup (Nat.le_of_ble_eq_true rfl) ha fun G₂ st => node_my (st _ _ ha) fun G₃ st₃ => t6 G₃ fun b o e => st₃ b o (st b o e)
    exact @Triple.conv _ _ _ _ _ _ _ _ _ _ _ _ _ _ (Nat.le_add_right _ _) fin fail @t8
theorem PartAt.mono1 {G G₂ : Heap} {isN : See → Value → Prop} {v : Value} {k : KidT} {n : Nat} (h : ∀ G, isN (seeH G) v → PartAt w mean mg mb G 289 v k n) (m : ∀ (P P' : See), (∀ a o, P a o → P' a o) → isN P v → isN P' v) (hv : isN (seeH G) v) (st : G.StaysIn G₂) : PartAt w mean mg mb G₂ 289 v k n := h G₂ (m _ _ (fun a o e => st a o e) hv)
theorem plain_no : ∀ x ∈ plainNames, (!colonNames.contains x) = true := by decide +kernel
theorem plain_bad : ∀ x ∈ plainNames, badName false x = false ∧ badName true x = false := by decide +kernel
theorem part_place : ∀ (p : Place) (G : Heap) (v : Value), PlaceIs (seeH G) v p → PartAt w mean mg mb G 289 v (placeK p) (htP p + 8)
  | .name sg x, G, v, hp => by
    refine cps fun k_ => ?_
    obtain ⟨a, t1, t2, t3, rfl, hsg, hx, ha⟩ := hp
    apply k_
    clear k_
    exact PartAt.conv (k := nameK sg x) (n := 8) (n' := htP (.name sg x) + 8) (by simp only [htP]; lia) (fun z9 z9 z9 => rfl) (Nat.le_refl _) (fun z9 z9 z9 h => h) ((part_name hsg (plain_all hx) ha).2 (plain_no x hx))
  | .elem x, G, v, hp => by
    refine cps fun k_ => ?_
    obtain ⟨a, t, a2, t1, t2, t3, a3, t4, t5, rfl, hx, ha, h2, h3⟩ := hp
    apply k_
    clear k_
    have hk : ∀ G₂, G.StaysIn G₂ → Paired (fun v (k : KidT) => ∀ G₃, G₂.StaysIn G₃ → PartAt w mean mg mb G₃ 289 v k 10) [.ref a2, .ref a3] [nilK, nilK] := fun G₂ st =>
      .cons (fun G₃ st₃ => ((part_name (by decide : Str.ofString "@" ∈ sigs) (plain_all hx) (st₃ _ _ (st _ _ h2))).1).conv (n := 8) (n' := 10) (by decide) (fun z9 z9 z9 => rfl) (Nat.le_refl _) fun z9 z9 z9 h => h)
        (.cons (fun G₃ st₃ => PartAt.conv (k := genK "num" [nilK]) (n := 3) (n' := 10) (by decide) (fun z9 z9 z9 => rfl) (Nat.le_refl _) (fun z9 z9 z9 z9 => trivial)
          (PartAt.tup (n := 2) (Nat.le_of_ble_eq_true rfl) (st₃ _ _ (st _ _ h3)) fun G₄ st₄ => node_gen (n := 1) (ks := [nilK]) (by decide +kernel) (Nat.le_of_ble_eq_true rfl) (st₄ _ _ (st₃ _ _ (st _ _ h3))) (.cons (fun z9 z9 => part_nil_int (Nat.le_refl _)) .nil))) .nil)
    refine PartAt.conv (k := genK "elem" [nilK, nilK]) (n := 12) (n' := htP (.elem x) + 8) (by simp only [htP]; lia) (fun z9 z9 z9 => rfl) (Nat.le_refl _) (fun vis P r h => ?_) (PartAt.tup (n := 11) (Nat.le_of_ble_eq_true rfl) ha fun G₂ st => node_gen (n := 10) (by decide +kernel) (Nat.le_of_ble_eq_true rfl) (st _ _ ha) (hk G₂ st))
    refine cps fun k_ => ?_
    obtain ⟨a, t, ys, e, hP, _⟩ := h
    apply k_
    clear k_
    exact ⟨a, t, ys, e, hP⟩
  | .told my x, G, v, hp => by
    refine cps fun k_ => ?_
    obtain ⟨a, t1, t2, t3, rfl, hx, ha⟩ := hp
    apply k_
    clear k_
    refine PartAt.conv (k := toldK my "$" x) (n := 8) (n' := htP (.told my x) + 8) (by simp only [htP]; lia) (fun ln vis new => ?_) (Nat.le_refl _) (fun z9 z9 z9 h => h) (part_told (by decide : Str.ofString "$" ∈ sigs) (plain_all hx) ha)
    have hb : badName my x = false := by
      cases my
      · exact (plain_bad x hx).1
      · exact (plain_bad x hx).2
    simp only [toldK, hb]; rfl
  | .one p, G, v, hp => by
    refine cps fun k_ => ?_
    obtain ⟨a, t, l, n, v1, rfl, ha, hl, h1⟩ := hp
    apply k_
    clear k_
    have hk : ∀ G₂, G.StaysIn G₂ → Paired (fun v (k : KidT) => ∀ G₃, G₂.StaysIn G₃ → PartAt w mean mg mb G₃ 289 v k (htP p + 8 + 1)) [.ref l] [listK [placeK p]] := fun G₂ st =>
      .cons (fun G₃ st₃ => part_list (n := htP p + 8) (Nat.le_of_ble_eq_true rfl) (st₃ _ _ (st _ _ hl)) (.cons (fun G₄ st₄ => part_place p G₄ v1 (PlaceIs.mono (fun b o e => st₄ _ _ (st₃ _ _ (st _ _ e))) p h1)) .nil)) .nil
    refine PartAt.conv (k := genK "list" [listK [placeK p]]) (n := htP p + 8 + 1 + 1 + 1) (n' := htP (.one p) + 8) (by simp only [htP]; lia) (fun ln vis new => ?_) (Nat.le_refl _) (fun vis P r h => ?_) (PartAt.tup (Nat.le_of_ble_eq_true rfl) ha fun G₂ st => node_gen (by decide +kernel) (Nat.le_of_ble_eq_true rfl) (st _ _ ha) (hk G₂ st))
    · rfl
    refine cps fun k_ => ?_
    obtain ⟨a, t, ys, e, hP, hk⟩ := h
    apply k_
    clear k_
    cases hk with
    | cons h0 hk =>
      cases hk
      refine cps fun k_ => ?_
      obtain ⟨l2, n2, ys2, rfl, hl2, hk2⟩ := h0
      apply k_
      clear k_
      cases hk2 with
      | cons h0 hk2 => cases hk2; exact ⟨a, t, l2, n2, _, e, hP, hl2, h0⟩
  | .two p q, G, v, hp => by
    refine cps fun k_ => ?_
    obtain ⟨a, t, l, n, v1, v2, rfl, ha, hl, h1, h2⟩ := hp
    apply k_
    clear k_
    have hk : ∀ G₂, G.StaysIn G₂ → Paired (fun v (k : KidT) => ∀ G₃, G₂.StaysIn G₃ → PartAt w mean mg mb G₃ 289 v k (max (htP p) (htP q) + 8 + 1)) [.ref l] [listK [placeK p, placeK q]] := fun G₂ st =>
      .cons (fun G₃ st₃ => part_list (n := max (htP p) (htP q) + 8) (Nat.le_of_ble_eq_true rfl) (st₃ _ _ (st _ _ hl))
        (.cons (fun G₄ st₄ => PartAt.conv (Nat.add_le_add_right (Nat.le_max_left _ _) _) (fun z9 z9 z9 => rfl) (Nat.le_refl _) (fun z9 z9 z9 h => h) (part_place p G₄ v1 (PlaceIs.mono (fun b o e => st₄ _ _ (st₃ _ _ (st _ _ e))) p h1)))
          (.cons (fun G₄ st₄ => PartAt.conv (Nat.add_le_add_right (Nat.le_max_right _ _) _) (fun z9 z9 z9 => rfl) (Nat.le_refl _) (fun z9 z9 z9 h => h) (part_place q G₄ v2 (PlaceIs.mono (fun b o e => st₄ _ _ (st₃ _ _ (st _ _ e))) q h2))) .nil))) .nil
    refine PartAt.conv (k := genK "list" [listK [placeK p, placeK q]]) (n := max (htP p) (htP q) + 8 + 1 + 1 + 1) (n' := htP (.two p q) + 8) (by simp only [htP]; lia) (fun ln vis new => ?_) (Nat.le_refl _) (fun vis P r h => ?_) (PartAt.tup (Nat.le_of_ble_eq_true rfl) ha fun G₂ st => node_gen (by decide +kernel) (Nat.le_of_ble_eq_true rfl) (st _ _ ha) (hk G₂ st))
    · rfl
    refine cps fun k_ => ?_
    obtain ⟨a, t, ys, e, hP, hk⟩ := h
    apply k_
    clear k_
    cases hk with
    | cons h0 hk =>
      cases hk
      refine cps fun k_ => ?_
      obtain ⟨l2, n2, ys2, rfl, hl2, hk2⟩ := h0
      apply k_
      clear k_
      cases hk2 with
      | cons h0 hk2 =>
        cases hk2 with
        | cons h1 hk2 => cases hk2; exact ⟨a, t, l2, n2, _, _, e, hP, hl2, h0, h1⟩
end
section
local macro_rules | `(tactic| walk_at "exec Raise some none") => `(tactic| (refine Halt.out ?_))
local macro_rules | `(tactic| k_mem) => `(tactic| with_reducible assumption)
def padL : List (Str × Tok) := [("pads", 313), ("pada", 314), ("padh", 315), ("mys", 316), ("mya", 317), ("myh", 318)]
theorem pad_yes : ∀ x ∈ padWords, (padL.any fun p => p.1 == x) = true := by decide +kernel
theorem pad_no : ∀ x ∈ globWords, (padL.any fun p => p.1 == x) = false ∧ (x == Str.ofString "list") = false := by decide +kernel
section
variable {w : World} {mean : ExcName → Option Value} {mg mb : Str → Option Value}
theorem check_pad {G : Heap} {f : Fm} {σ : List Fm} {v : Value} {ch : Led} {a : Addr} {wd : Str} {t : Tok} {pl : Value} (hw : wd ∈ padWords) (ha : G.get? a = some (tupO [.str wd t, pl])) (hc : Chain w (f :: σ) v ch) :
    Triple w mean mg mb G 194 [v, .ref a] 4 ch (fun z9 z9 => False) (fun l => l = f.ln.1) := by
  have hT : IsTup G a (List.toArray [.str wd t, pl]) := tup_of ha
  obtain ⟨x, dx, bl, wt, cp, t, vo, bs, ws, caps, n1, n2, n3, rfl, hm1, hm2, hm3, hm4, hm5⟩ := chain_see hc
  show Triple _ _ _ _ _ _ _ _ _ _ _
  refine' enter (binds := [("scope", .ref x), ("node", .ref a)]) ?k6 ?k7 ?k9 ?kB ?_ ?kn ?c5 ?c2 ?c3 ?c4
  case k6 => k_is
  case k7 => k_is
  case k9 => exact rfl
  case kB => exact locs rfl
  case kn => first | lia | (simp only [htP, htT, htS, htB]; lia)
  case c5 => decide
  case c2 => exact rfl
  case c3 => exact rfl
  case c4 => exact rfl
  k_whole
  intro dp un gd frs base A₀ s L h₁ tk₁ Qb Eb B X T hdp hun F N hlt hret hexc hown
  (try dsimp only at F)
  k_steps
  refine Halt.mk ?_
  have h91 : (hd.heap_39 w.params).lookup 91 = some (tupO [.str "pads" 313, .str "pada" 314, .str "padh" 315, .str "mys" 316, .str "mya" 317, .str "myh" 318]) := by k_is
  refine in_tup_strs (l := padL) ⟨_, F.keep _ _ (X _ _ h91), rfl, _, rfl⟩ ?_
  rw [pad_yes wd hw]
  k_steps
  refine Halt.mk ?_
  refine cps fun k_ => ?_
  obtain ⟨mN, mD, X2, i0, i2, i3, i4, i5, i6, i7, i8, i9⟩ := two_cls X
  apply k_
  clear k_
  refine xr_Raise (C := 51) (D := 31) (mN := mN) (mD := mD) rfl ?_
  k_steps
  refine Halt.mk ?_
  refine die_made (by assumption) (by assumption) (by assumption) (by assumption) (by assumption) (by exact rfl) (by exact rfl) (by lia) (by lia) ?_
  intro e dx9 od t2 h9 tk9 F9 N9 hod hned
  (try clear N)
  k_steps
  exact Halt.mk ⟨e, dx9, t2, rfl, X2.keeps (Fr.keep (by assumption)), (N9 (e, exO 51 (some dx9) t2) List.mem_cons_self).1, hexc _ _ _ _ (thrown_of B (by assumption) N9 hod rfl) (Heap.UpToSlots.of_keeps (Fr.keep (by assumption))) rfl⟩
theorem check_fine {G : Heap} {v : Value} {ch : Led} {a : Addr} {wd : Str} {t : Tok} {rest : List Value} (hw : (padL.any fun p => p.1 == wd) = false) (hw2 : (wd == Str.ofString "list") = false) (ha : G.get? a = some (tupO (.str wd t :: rest))) :
    Triple w mean mg mb G 194 [v, .ref a] 1 ch (fun z9 ch' => ch' = ch) No := by
  have hT : IsTup G a (List.toArray (.str wd t :: rest)) := tup_of ha
  show Triple _ _ _ _ _ _ _ _ _ _ _
  refine' enter (binds := [("scope", v), ("node", .ref a)]) ?k6 ?k7 ?k9 ?kB ?_ ?kn ?c5 ?c2 ?c3 ?c4
  case k6 => k_is
  case k7 => k_is
  case k9 => exact rfl
  case kB => exact locs rfl
  case kn => first | lia | (simp only [htP, htT, htS, htB]; lia)
  case c5 => decide
  case c2 => exact rfl
  case c3 => exact rfl
  case c4 => exact rfl
  k_whole
  intro dp un gd frs base A₀ s L h₁ tk₁ Qb Eb B X T hdp hun F N hlt hret hexc hown
  (try dsimp only at F)
  k_steps
  refine Halt.mk ?_
  have h91 : (hd.heap_39 w.params).lookup 91 = some (tupO [.str "pads" 313, .str "pada" 314, .str "padh" 315, .str "mys" 316, .str "mya" 317, .str "myh" 318]) := by k_is
  refine in_tup_strs (l := padL) ⟨_, F.keep _ _ (X _ _ h91), rfl, _, rfl⟩ ?_
  rw [hw]
  k_steps
  all_goals first
    | exact hret .next _ _ _ _ (by assumption) (by assumption) rfl
    | (exfalso; simp_all; done)
end
end
section
variable {w : World} {mean : ExcName → Option Value} {mg mb : Str → Option Value}
def CheckC (w : World) (mean : ExcName → Option Value) (mg mb : Str → Option Value) (p : Place) : Prop :=
  ∀ (G : Heap) (r v : Value) (vis : Vis) (ch : Led) (f : Fm) (σ : List Fm), DoneP vis (seeH G) r p → Chain w (f :: σ) v ch → Triple w mean mg mb G 194 [v, r] (htP p + 4) ch (fun z9 ch' => ch' = ch ∧ toldP vis p = false) (fun l => toldP vis p = true ∧ l = f.ln.1)
theorem news_front {G h : Heap} {L : Addr} {c : Led} {a : Addr × Obj} (N : News G L h (a :: c)) : News G L h (c ++ [a]) := news_sub N mem_snoc
theorem mem_front {c : Led} {a : Addr × Obj} : ∀ p ∈ a :: c, p ∈ c ++ [a] := fun p hp => by
  simp only [List.mem_append, List.mem_cons, List.not_mem_nil, or_false] at hp ⊢
  rcases hp with hp | hp <;> simp only [hp, true_or, or_true]
theorem check_list {G : Heap} {a l : Addr} {t : Tok} {n : Nat} {ys : List Value} {ps : List Place} {v : Value} {vis : Vis} {ch : Led} {f : Fm} {σ : List Fm} (c : Nat) (hc : Chain w (f :: σ) v ch)
    (hk : Paired (fun y p => DoneP vis (seeH G) y p ∧ CheckC w mean mg mb p ∧ htP p ≤ c) ys ps) (ha : G.get? a = some (tupO [.str "list" t, .ref l])) (hl : G.get? l = some (lstO ys n)) :
    Triple w mean mg mb G 194 [v, .ref a] (c + 5) ch (fun z9 ch' => ch' = ch ∧ ps.any (toldP vis) = false) (fun e => ps.any (toldP vis) = true ∧ e = f.ln.1) := by
  have hT : IsTup G a (List.toArray [.str "list" t, .ref l]) := tup_of ha
  have hlen := hk.length
  show Triple _ _ _ _ _ _ _ _ _ _ _
  refine' enter (binds := [("scope", v), ("node", .ref a)]) ?k6 ?k7 ?k9 ?kB ?_ ?kn ?c5 ?c2 ?c3 ?c4
  case k6 => k_is
  case k7 => k_is
  case k9 => exact rfl
  case kB => exact locs rfl
  case kn => first | lia | (simp only [htP, htT, htS, htB]; lia)
  case c5 => decide
  case c2 => exact rfl
  case c3 => exact rfl
  case c4 => exact rfl
  k_whole
  intro dp un gd frs base A₀ s L h₁ tk₁ Qb Eb B X T hdp hun F N hlt hret hexc hown
  (try dsimp only at F)
  k_steps
  refine Halt.mk ?_
  have h91 : (hd.heap_39 w.params).lookup 91 = some (tupO [.str "pads" 313, .str "pada" 314, .str "padh" 315, .str "mys" 316, .str "mya" 317, .str "myh" 318]) := by k_is
  refine in_tup_strs (l := padL) ⟨_, F.keep _ _ (X _ _ h91), rfl, _, rfl⟩ ?_
  rw [show (padL.any fun p => p.1 == Str.ofString "list") = false by decide +kernel]
  k_steps
  refine Halt.mk ?_
  refine forK (G := G) hown ?_
  k_steps
  (try dsimp only [kRe, kS])
  rename Fr _ _ _ _ => F9
  refine for_at_list (items := ys.toArray) (own := []) (led := ch) (J := fun i m₁ led₁ => led₁ = ch ∧ m₁ (Str.ofString "scope") = some v ∧ (ps.take i).any (toldP vis) = false)
    F9 N (stays_list F9.keep ⟨_, hl, rfl, _, rfl⟩) (.inl ⟨_, hl⟩) ⟨rfl, rfl, rfl⟩ ?_ ?_
  · intro I h₂ tk₂ i y h tk m₁ led₁ oI hi hP hJ F₁ N₁ hneI R hR
    obtain ⟨rfl, hm1, hany⟩ := hJ
    obtain ⟨p, hp, hD, hC, hle⟩ := paired_get hk i (show ys[i]? = some y by simpa using hP)
    refine wpAny_assign_Name (wpAny_storeName_local rfl F₁.ns (fun h₃ hn₃ hs₃ => ?_) rfl)
    have F₃ := F₁.set hn₃ hs₃
    replace N₁ := N₁.set hs₃
    (try dsimp only at F₃ N₁)
    replace F₃ := fr_name F₃ (x := Str.ofString "scope") (v := v) (by rw [if_neg (by decide)]; exact hm1)
    clear F₁ hn₃ hs₃ F9
    k_steps
    refine Halt.mk ?_
    refine use (ch := led₁) (rest := [(I, oI)]) (by assumption) F₃ (news_front N₁) (by assumption) (by assumption) (apart_snoc hneI) (by exact rfl) (by exact rfl) hdp hun (by first | exact Nat.lt_succ_self _ | lia) (fun G₂ st₂ z9 => hC G₂ y v vis led₁ f σ (DoneP.mono (fun b o e => st₂ _ _ e) p hD) hc) ?_ ?_
    · intro r' ch' h' tk' F' N' A' P'
      obtain ⟨rfl, hf⟩ := P'
      k_steps
      refine hR _ _ ⟨_, ch', _, _, rfl, F', news_sub N' mem_front, hneI, rfl, rfl, ?_⟩
      rw [List.take_add_one, hp, List.any_append, hany]
      simp [hf]
    · exact fun e l h' tk' hx9 hex => rai_pass hexc e l h' tk' hx9 ⟨List.any_eq_true.mpr ⟨p, List.mem_of_getElem? hp, hex.1⟩, hex.2⟩
  · intro m' led' h' tk' hJ F' N'
    obtain ⟨rfl, hm1, hany⟩ := hJ
    k_steps
    rw [show ys.toArray.size = ps.length by simp only [List.size_toArray]; lia, List.take_length] at hany
    exact hret .next _ _ _ _ F' N' ⟨rfl, hany⟩
theorem check_word {G : Heap} {r v : Value} {ch : Led} {f : Fm} {σ : List Fm} {told : Bool} {n : Nat} (hn : 4 ≤ n) (hD : wordAt (seeH G) r told) (hc : Chain w (f :: σ) v ch) : Triple w mean mg mb G 194 [v, r] n ch (fun z9 ch' => ch' = ch ∧ told = false) (fun l => told = true ∧ l = f.ln.1) := by
  obtain ⟨a, wd, tk, pl, rfl, ha, hw⟩ := hD
  cases told with
  | true =>
    have q : Triple w mean mg mb G 194 [v, .ref a] 4 ch (fun z9 z9 => False) (fun l => l = f.ln.1) := check_pad hw ha hc
    exact @Triple.conv _ _ _ _ _ _ _ _ _ _ _ _ _ _ hn (fun z9 z9 h => h.elim) (fun z9 h => ⟨rfl, h⟩) @q
  | false =>
    have q : Triple w mean mg mb G 194 [v, .ref a] 1 ch (fun z9 ch' => ch' = ch) No := check_fine (pad_no wd hw).1 (pad_no wd hw).2 ha
    exact @Triple.conv _ _ _ _ _ _ _ _ _ _ _ _ _ _ (by lia) (fun z9 c h => ⟨c, fun z9 h => h, h, rfl⟩) (fun z9 h => h.elim) @q
theorem check_ok : ∀ p : Place, CheckC w mean mg mb p
  | .name sg x => by
    intro G r v vis ch f σ hD hc
    exact @check_word _ _ _ _ _ _ _ _ _ _ _ _ (by simp only [htP]; lia) hD hc
  | .told my x => by
    intro G r v vis ch f σ hD hc
    exact @check_word _ _ _ _ _ _ _ _ _ _ _ _ (by simp only [htP]; lia) hD hc
  | .elem x => by
    intro G r v vis ch f σ hD hc
    obtain ⟨a, t, ys, rfl, ha⟩ := hD
    have q : Triple w mean mg mb G 194 [v, .ref a] 1 ch (fun z9 ch' => ch' = ch) No := check_fine (by decide +kernel) (by decide +kernel) ha
    exact @Triple.conv _ _ _ _ _ _ _ _ _ _ _ _ _ _ (by lia) (fun z9 c h => ⟨c, fun z9 h => h, h, rfl⟩) (fun z9 h => h.elim) @q
  | .one p => by
    intro G r v vis ch f σ hD hc
    obtain ⟨a, t, l, n, v1, rfl, ha, hl, h1⟩ := hD
    have q : Triple w mean mg mb G 194 [v, .ref a] (htP p + 5) ch (fun z9 ch' => ch' = ch ∧ [p].any (toldP vis) = false) (fun e => [p].any (toldP vis) = true ∧ e = f.ln.1) := check_list (htP p) hc (.cons ⟨h1, check_ok p, Nat.le_refl _⟩ .nil) ha hl
    exact @Triple.conv _ _ _ _ _ _ _ _ _ _ _ _ _ _ (by simp only [htP]; lia) (fun z9 c h => ⟨c, fun z9 h => h, h.1, by simpa [toldP] using h.2⟩) (fun z9 h => ⟨by simpa [toldP] using h.1, h.2⟩) @q
  | .two p q => by
    intro G r v vis ch f σ hD hc
    obtain ⟨a, t, l, n, v1, v2, rfl, ha, hl, h1, h2⟩ := hD
    have q : Triple w mean mg mb G 194 [v, .ref a] (max (htP p) (htP q) + 5) ch (fun z9 ch' => ch' = ch ∧ [p, q].any (toldP vis) = false) (fun e => [p, q].any (toldP vis) = true ∧ e = f.ln.1) := check_list (max (htP p) (htP q)) hc (.cons ⟨h1, check_ok p, Nat.le_max_left _ _⟩ (.cons ⟨h2, check_ok q, Nat.le_max_right _ _⟩ .nil)) ha hl
    exact @Triple.conv _ _ _ _ _ _ _ _ _ _ _ _ _ _ (by simp only [htP]; lia) (fun z9 c h => ⟨c, fun z9 h => h, h.1, by simpa [toldP] using h.2⟩) (fun z9 h => ⟨by simpa [toldP] using h.1, h.2⟩) @q
def locK (p : Place) : KidT := ⟨runT' (.loc p), fun z9 z9 z9 => True, widP p, fun z9 z9 => trivial⟩
theorem local_at {G : Heap} {a : Addr} {t : Tok} {v1 : Value} {p : Place} (ha : G.get? a = some (tupO [.str "local" t, v1])) (hp : PlaceIs (seeH G) v1 p) : PartAt w mean mg mb G 201 (.ref a) (locK p) (htP p + 9) := by
  intro v ch a0 w0 lv ln me σ hc hfit hwd
  have hT : IsTup G a (List.toArray [.str "local" t, v1]) := tup_of ha
  show Triple _ _ _ _ _ _ _ _ _ _ _
  refine' enter (binds := [("scope", v), ("node", .ref a)]) ?k6 ?k7 ?k9 ?kB ?_ ?kn ?c5 ?c2 ?c3 ?c4
  case k6 => k_is
  case k7 => k_is
  case k9 => exact rfl
  case kB => exact locs rfl
  case kn => first | lia | (simp only [htP, htT, htS, htB]; lia)
  case c5 => decide
  case c2 => exact rfl
  case c3 => exact rfl
  case c4 => exact rfl
  k_whole
  intro dp un gd frs base A₀ s L h₁ tk₁ Qb Eb B X T hdp hun F N hlt hret hexc hown
  (try dsimp only at F)
  k_steps
  refine Halt.mk ?_
  refine use (ch := ch) (rest := []) (by assumption) (by assumption) (news_nilr (by assumption)) (by assumption) (by assumption) apart_nilr (by exact rfl) (by exact rfl) hdp hun (by first | exact Nat.lt_succ_self _ | lia) (fun G₂ st₂ z9 => part_place p G₂ v1 (PlaceIs.mono (fun b o e => st₂ _ _ e) p hp) v ch a0 w0 lv ln me σ hc (hfit.le (by lia)) hwd) ?_ (fun z9 z9 z9 z9 z9 h => by cases h)
  intro r' ch' h' tk' F' N' A' P'
  obtain ⟨l', w1, c', fz, hres, hw1, rfl, hc1, ap, hD⟩ := P'
  cases hres
  clear A'
  k_steps
  refine Halt.mk ?_
  rename News _ _ _ _ => N8
  refine use (ch := c') (rest := fz ++ []) (by assumption) (by assumption) (news_assoc N8) (by assumption) (by assumption) (by rw [List.append_nil]; exact ap) (by exact rfl) (by exact rfl) hdp hun (by first | exact Nat.lt_succ_self _ | lia) (fun G₂ st₂ rst₂ => check_ok p G₂ r' v (vs9 a0 lv σ) c' _ σ (DoneP.mono (fun b o e => rst₂ _ (List.mem_append_left _ e)) p hD) hc1) ?_ ?_
  · intro r2 ch2 h2 tk2 F2 N2 A2 P2
    obtain ⟨rfl, hfalse⟩ := P2
    k_steps
    rename News _ _ _ _ => N9
    exact hret (.ret (.ref _)) _ _ _ _ (by assumption) (news_sub N9 fun p hp => List.mem_cons_of_mem _ (List.mem_append_left _ hp)) ⟨ln, runP w0 p, ch2, [], by simp only [locK, runT', runT, hfalse]; rfl, hw1, (List.append_nil _).symm, hc1, apart_nilr, trivial⟩
  · exact fun e l h' tk' hx9 hex => rai_pass hexc e l h' tk' hx9 (by simp only [locK, runT', runT, hex.1, hex.2]; rfl)
theorem part_local {G : Heap} {v : Value} {p : Place} (h : TermIs (seeH G) v (.loc p)) : PartAt w mean mg mb G 289 v (locK p) (htP p + 11) := by
  obtain ⟨a, t, v1, rfl, ha, hp⟩ := h
  refine PartAt.tup (n := htP p + 10) (Nat.le_of_ble_eq_true rfl) ha fun G₂ st => ?_
  intro v ch a0 w0 lv ln me σ hc hf hb
  have q : ∀ G₃, G₂.StaysIn G₃ → Triple w mean mg mb G₃ 201 [v, .ref a] (htP p + 9 + σ.length) ch (KPost w σ v me a0 lv (locK p).Rp (w0.length + (locK p).wd) ((locK p).run ln (vs9 a0 lv σ) w0)) (fun e => (locK p).run ln (vs9 a0 lv σ) w0 = .error e) :=
    fun G₃ st₃ => local_at (st₃ _ _ (st _ _ ha)) (PlaceIs.mono (fun b o e => st₃ _ _ (st _ _ e)) p hp) v ch a0 w0 lv ln me σ hc (hf.le (by lia)) hb
  have q2 : Triple w mean mg mb G₂ 284 [v, .ref a] (htP p + 9 + σ.length + 1) ch (KPost w σ v me a0 lv (locK p).Rp (w0.length + (locK p).wd) ((locK p).run ln (vs9 a0 lv σ) w0)) (fun e => (locK p).run ln (vs9 a0 lv σ) w0 = .error e) := node_local (st _ _ ha) q
  exact @Triple.le _ _ _ _ _ _ _ _ _ _ _ _ (by lia) @q2
end
section
local macro_rules | `(tactic| k_mem) => `(tactic| (first
  | with_reducible assumption
  | (with_reducible exact List.mem_cons_self)
  | ((with_reducible refine List.mem_cons_of_mem _ ?_); k_mem)))
section
local macro_rules | `(tactic| walk_at "call builtin:list.append") => `(tactic| (refine Halt.out ?_))
abbrev ScT.pkg (t : ScT) (tp : Tok) : ScT := ⟨t.t1, t.t2, t.t3, t.t4, t.t5, t.t6, t.t7, tp, t.ts, t.tl, t.sz⟩
def stmK (s : Stm) : KidT := ⟨okWithS s, fun z9 z9 z9 => True, 20, fun z9 z9 => trivial⟩
def blkLen : Blk → Nat
  | .nil => 0
  | .cons _ b => blkLen b + 1
theorem blk_len {P : See} : ∀ (b : Blk) {vs : List Value}, StmsAre P vs b → vs.length = blkLen b
  | .nil, _, h => by cases h; rfl
  | .cons s b, _, h => by obtain ⟨v, r, rfl, _, h⟩ := h; show r.length + 1 = blkLen b + 1; rw [blk_len b h]
inductive BlkR (b : Blk) (P : See) (r : Value) : Prop
  | mk (a : _) (t : _) (l : _) (n : _) (ys : _) (h1_ : r = .ref a) (h2_ : P a (tupO [.str "block" t, .ref l])) (h3_ : P l (lstO ys n)) (h4_ : ys.length = blkLen b) : BlkR b P r
def blkK (b : Blk) : KidT := ⟨fun ln vis new => okWith new (runB ln vis b), fun z9 P r => BlkR b P r, 0, fun h x => let ⟨a, t, l, n, ys, e, i, j, k⟩ := x; ⟨a, t, l, n, ys, e, h _ _ i, h _ _ j, k⟩⟩
abbrev visL (lv : List (Vis × Vis)) (σ : List Fm) : Vis := lv.flatMap (·.1) ++ visF σ
theorem vs9_in (a : Vis) (lv : List (Vis × Vis)) (σ : List Fm) : vs9 a lv σ = a ++ visL lv σ := by
  show a ++ lv.flatMap (·.1) ++ visF σ = a ++ (lv.flatMap (·.1) ++ visF σ)
  simp only [List.append_assoc]
theorem Fit.in {lv : List (Vis × Vis)} {σ : List Fm} {n : Nat} (f : Fit lv σ (n + 1)) (p : Vis × Vis) : Fit (p :: lv) σ n := ⟨by have := f.1; simp only [List.length_cons]; lia, fun g hg => by have := f.2 g hg; lia⟩
theorem blk_from0 : ∀ b : Blk, b.from 0 = b
  | .nil => rfl
  | .cons _ _ => rfl
inductive BlockP (w : World) (σ : List Fm) (v : Value) (me : Addr) (lv : List (Vis × Vis)) (b : Blk) (res : Except Int Int) (r : Value) (ch' : Led) : Prop
  | mk (l' : _) (c' : _) (fz : _) (h1_ : res = .ok l') (h2_ : ch' = c' ++ fz) (h3_ : Chain w (⟨lv, (l', me)⟩ :: σ) v c') (h4_ : Apart c' fz) (h5_ : BlkR b (seeL fz) r) : BlockP w σ v me lv b res r ch'
inductive BlkJ (w : World) (σ : List Fm) (v : Value) (me : Addr) (lv : List (Vis × Vis)) (ln : Int) (b : Blk) (D : Addr) (tp : Tok) (i : Nat) (m₁ : Str → Option Value) (led₁ : Led) : Prop
  | mk (a : _) (l : _) (ch : _) (ys : _) (k : _) (h1_ : led₁ = (D, lstX ys k) :: ch) (h2_ : Chain w (⟨(a, []) :: lv, (l, me)⟩ :: σ) v ch) (h3_ : ys.length = i) (h4_ : (∀ p ∈ ch, p.1 ≠ D)) (h5_ : m₁ (Str.ofString "scope") = some v) (h6_ : m₁ (Str.ofString "package") = some (.str "main" tp)) (h7_ : m₁ (Str.ofString "done") = some (.ref D)) (h8_ : runB ln (visL lv σ) b = runB l (a ++ visL lv σ) (b.from i)) : BlkJ w σ v me lv ln b D tp i m₁ led₁
section
variable {w : World} {mean : ExcName → Option Value} {mg mb : Str → Option Value}
theorem block_any {G : Heap} {v0 : Value} {b : Blk} {n : Nat} (hn : 1 ≤ n) (hS : AllS (fun s => ∀ (G : Heap) (v : Value), StmIs (seeH G) v s → PartAt w mean mg mb G 284 v (stmK s) n) b) (hb : BlkIs (seeH G) v0 b) (v : Value) (ch : Led) (lv : List (Vis × Vis)) (ln : Int) (me : Addr) (σ : List Fm) (hc : Chain w (⟨lv, (ln, me)⟩ :: σ) v ch) (hfit : Fit lv σ n) :
    Triple w mean mg mb G 229 [v, v0] (n + 1 + σ.length) ch (BlockP w σ v me lv b (runB ln (visL lv σ) b)) (fun e => runB ln (visL lv σ) b = .error e) := by
  obtain ⟨a, t0, l0, n0, vs0, rfl, ha, hl, hlen, hst⟩ := hb
  have hT : IsTup G a (List.toArray [.str "block" t0, .ref l0]) := tup_of ha
  have hbl := blk_len b hst
  have hc0 := hc
  have hfit1 := hfit.1
  obtain ⟨x, dx, bl, wt, cp, t, vo, bs, ws, caps, n1, n2, n3, rfl, hm1, hm2, hm3, hm4, hm5⟩ := chain_see hc
  show Triple _ _ _ _ _ _ _ _ _ _ _
  refine' enter (binds := [("scope", .ref x), ("node", .ref a)]) ?k6 ?k7 ?k9 ?kB ?_ ?kn ?c5 ?c2 ?c3 ?c4
  case k6 => k_is
  case k7 => k_is
  case k9 => exact rfl
  case kB => exact locs rfl
  case kn => first | lia | (simp only [htP, htT, htS, htB]; lia)
  case c5 => decide
  case c2 => exact rfl
  case c3 => exact rfl
  case c4 => exact rfl
  k_whole
  intro dp un gd frs base A₀ s L h₁ tk₁ Qb Eb B X T hdp hun F N hlt hret hexc hown
  (try dsimp only at F)
  k_steps
  refine Halt.mk ?_
  rename News _ _ _ _ => N9
  refine useN (ch := ch) (rest := []) (by assumption) (by assumption) (news_nilr N9) (by assumption) (by assumption) apart_nilr (by exact rfl) (by exact rfl) hdp hun (by first | exact Nat.lt_succ_self _ | lia) (fun G₂ st₂ z9 => enter_block hc0 (by first | lia | (simp only [List.length_cons]; lia))) ?_
  intro r' ch' h' tk' F' N' A' hc1
  replace N' := news_unnil N'
  clear A' hm1 hm2 hm3 hm4 hm5 N9
  k_steps
  rename_i D hq5 l5 h5 F5 N5
  refine Halt.mk ?_
  refine forK (G := G) hown ?_
  k_steps
  (try dsimp only [kRe, kS])
  rename Fr _ _ _ _ => F9
  rename News _ _ _ _ => N9
  refine for_at_list (items := vs0.toArray) (own := []) (led := (D, lstX [] 0) :: ch') (J := BlkJ w σ (.ref x) me lv ln b D t.tp)
    F9 N9 (stays_list F9.keep ⟨_, hl, rfl, _, rfl⟩) (.inl ⟨_, hl⟩) ⟨[], ln, ch', [], 0, rfl, hc1, rfl, fun p hp => Nat.ne_of_lt (l5 p hp), rfl, rfl, rfl, by rw [blk_from0]; rfl⟩ ?_ ?_
  · intro I h₂ tk₂ i y h tk m₁ led₁ oI hi hP hJ F₁ N₁ hneI R hR
    refine cps fun k_ => ?_
    obtain ⟨a1, l1, ch1, ys, k, rfl, hc2, hys, hneD, hm1, hm2, hm3, hrun⟩ := hJ
    apply k_
    clear k_
    refine cps fun k_ => ?_
    obtain ⟨st9, hs9, hst9⟩ := StmsAre.get b i hst (show vs0[i]? = some y by simpa using hP)
    apply k_
    clear k_
    have hS9 := hS.get b i hs9
    have hi8 : i < 8 := by simp only [List.size_toArray] at hi; lia
    have hst8 := Blk.from_get b i hs9
    rw [hst8, runB_cons] at hrun
    refine wpAny_assign_Name (wpAny_storeName_local rfl F₁.ns (fun h₃ hn₃ hs₃ => ?_) rfl)
    have F₃ := F₁.set hn₃ hs₃
    have N₃ := N₁.set hs₃
    (try dsimp only at F₃ N₃)
    replace F₃ := fr_name (fr_name (fr_name F₃ (x := Str.ofString "scope") (v := .ref x) (by rw [if_neg (by decide)]; exact hm1)) (x := Str.ofString "package") (v := .str "main" t.tp) (by rw [if_neg (by decide), if_neg (by decide)]; exact hm2)) (x := Str.ofString "done") (v := .ref D) (by rw [if_neg (by decide), if_neg (by decide), if_neg (by decide)]; exact hm3)
    have N₄ : News G L h₃ ((D, lstX ys k) :: (I, oI) :: ch1) := news_sub N₃ fun p hp => by
      simp only [List.mem_cons, List.nil_append] at hp ⊢
      rcases hp with hp | hp | hp <;> simp only [hp, true_or, or_true]
    have hID : @Ne Nat I D := (hneI (D, lstX ys k) List.mem_cons_self).symm
    have A4 : Apart ch1 [(D, lstX ys k), (I, oI)] := fun p hp q hq => by
      rcases List.mem_cons.mp hq with rfl | hq
      · exact hneD p hp
      · rw [List.mem_singleton.mp hq]; exact hneI p (List.mem_cons_of_mem _ hp)
    clear F₁ N₁ N₃ hn₃ hs₃ F9 N9
    k_steps
    refine Halt.mk ?_
    refine use (ch := ch1) (rest := [(D, lstX ys k), (I, oI)]) (by assumption) F₃ (news_sub N₄ fun p hp => by
      simp only [List.mem_append, List.mem_cons, List.not_mem_nil, or_false] at hp ⊢
      rcases hp with hp | hp | hp <;> simp only [hp, true_or, or_true]) (by assumption) (by assumption) A4 (by exact rfl) (by exact rfl) hdp hun (by first | exact Nat.lt_succ_self _ | lia) (fun G₂ st₂ z9 => hS9 G₂ y (StmIs.mono (fun b o e => st₂ _ _ e) st9 hst9) (.ref x) ch1 a1 [] lv l1 me σ hc2 hfit (by simp only [stmK]; decide)) ?_ ?_
    · intro r' ch' h' tk' F' N' A' P'
      refine cps fun k_ => ?_
      obtain ⟨l2, n2, c2, fz, hres, hn2, rfl, hc3, ap, _⟩ := P'
      apply k_
      clear k_
      simp only [stmK, vs9_in] at hres
      rw [hres] at hrun
      have hn20 : n2.length ≤ 20 := by simpa [stmK] using hn2
      have N₅ : News G L h' ((D, lstX ys k) :: (I, oI) :: c2) := news_sub N' fun p hp => by
        simp only [List.mem_append, List.mem_cons, List.not_mem_nil, or_false] at hp ⊢
        rcases hp with hp | hp | hp <;> simp only [hp, true_or, or_true]
      have hD2 : ∀ p ∈ (I, oI) :: c2, p.1 ≠ D := fun p hp => by
        rcases List.mem_cons.mp hp with rfl | hp
        · exact hID
        · exact A' p (List.mem_append_left _ hp) (D, lstX ys k) List.mem_cons_self
      have hI2 : ∀ p ∈ c2, p.1 ≠ I := fun p hp => A' p (List.mem_append_left _ hp) (I, oI) (List.mem_cons_of_mem _ List.mem_cons_self)
      clear N' A' N₄ A4 F₃
      k_steps
      refine Halt.mk ?_
      refine kappend (its := ys.toArray) (n := k) (x := r') F' N₅ (Upd.head hD2) ?_ (by rw [sizeLine_eq, List.size_toArray]; lia)
      intro h6 F6 N6
      simp only [List.push_toArray] at N6
      clear F' N₅
      k_steps
      refine Halt.mk ?_
      refine use (ch := c2) (rest := [(D, lstX (ys ++ [r']) (k + 1)), (I, oI)]) (by assumption) (by assumption) (news_sub N6 fun p hp => by
        simp only [List.mem_append, List.mem_cons, List.not_mem_nil, or_false] at hp ⊢
        rcases hp with hp | hp | hp <;> first | (simp only [hp, true_or, or_true]; done) | (rw [hp]; exact .inl rfl)) (by assumption) (by assumption) (fun p hp q hq => by
          rcases List.mem_cons.mp hq with rfl | hq
          · exact hD2 p (List.mem_cons_of_mem _ hp)
          · rw [List.mem_singleton.mp hq]; exact hI2 p hp) (by exact rfl) (by exact rfl) hdp hun (by first | exact Nat.lt_succ_self _ | lia) (fun G₂ st₂ z9 => introduce hc3 (by first | lia | (simp only [List.length_cons]; lia)) (by lia)) ?_ (fun z9 z9 z9 z9 z9 h => h.elim)
      intro r7 c7 h7 tk7 F7 N7 A7 hc7
      k_steps
      refine hR _ _ ?_
      dsimp only
      refine ⟨_, (D, lstX (ys ++ [r']) (k + 1)) :: c7, _, _, rfl, F7, news_sub N7 (fun p hp => by
        simp only [List.nil_append, List.mem_append, List.mem_cons, List.not_mem_nil, or_false] at hp ⊢
        rcases hp with hp | hp | hp <;> simp only [hp, true_or, or_true]), (fun p hp => by
        rcases List.mem_cons.mp hp with rfl | hp
        · exact hID.symm
        · exact A7 p hp (I, oI) (List.mem_cons_of_mem _ List.mem_cons_self)), n2 ++ a1, l2, c7, ys ++ [r'], k + 1, rfl, hc7, by simp [hys], fun p hp => A7 p hp _ List.mem_cons_self, rfl, rfl, rfl, by rw [hrun]; dsimp only; rw [List.append_assoc]⟩
    · exact fun e l h' tk' hx9 hex => rai_pass hexc e l h' tk' hx9 (by simp only [stmK, vs9_in] at hex; simp only [hrun, hex])
  · intro m' led' h' tk' hJ F' N'
    refine cps fun k_ => ?_
    obtain ⟨a1, l1, ch1, ys, k, rfl, hc2, hys, hneD, hm1, hm2, hm3, hrun⟩ := hJ
    apply k_
    clear k_
    rw [show vs0.toArray.size = vs0.length by simp only [List.size_toArray], StmsAre.end b hst, runB] at hrun
    rw [show vs0.toArray.size = blkLen b by simp only [List.size_toArray]; lia] at hys
    replace F' := fr_name (fr_name (fr_name F' (x := Str.ofString "scope") (v := .ref x) hm1) (x := Str.ofString "package") (v := .str "main" t.tp) (by rw [if_neg (by decide)]; exact hm2)) (x := Str.ofString "done") (v := .ref D) (by rw [if_neg (by decide), if_neg (by decide)]; exact hm3)
    replace N' : News G L h' ((D, lstX ys k) :: ch1) := N'
    clear F9 N9
    k_steps
    refine Halt.mk ?_
    refine useN (ch := ch1) (rest := [(D, lstX ys k)]) (by assumption) F' (news_front N') (by assumption) (by assumption) (apart_snoc hneD) (by exact rfl) (by exact rfl) hdp hun (by first | exact Nat.lt_succ_self _ | lia) (fun G₂ st₂ z9 => leave_block hc2 (by first | lia | (simp only [List.length_cons]; lia))) ?_
    intro r7 c7 h7 tk7 F7 N7 A7 hc7
    clear F' N'
    refine cps fun k_ => ?_
    obtain ⟨⟨x8, dx8, bl8, wt8, cp8, t8, vo8, bs8, ws8, caps8, m1, m2, m3, kv0, B9, W9, R9, hxe, rfl, hB, hW, hR⟩, nd⟩ := hc7
    apply k_
    clear k_
    cases hxe
    have nd8 := ND.append nd (ND.mk (l := []) (p := (D, lstX ys k)) (fun z9 h => nomatch h) ND.nil) A7
    have nd8' : ND (scLed w x dx8 bl8 wt8 cp8 t8 vo8 (l1, me) bs8 ws8 caps8 m1 m2 m3 ((B9 ++ (W9 ++ R9)) ++ [(D, lstX ys k)])) := nd8
    refine cps fun k_ => ?_
    obtain ⟨⟨e1, e2, e3, e4, r1⟩, ⟨e5, e6, e7, r2⟩, ⟨e8, e9, r3⟩, ⟨e10, r4⟩, r5, nd0⟩ := nd5 nd8'
    apply k_
    clear k_
    replace N7 : News G L h7 (scLed w x dx8 bl8 wt8 cp8 t8 vo8 (l1, me) bs8 ws8 caps8 m1 m2 m3 ((B9 ++ (W9 ++ R9)) ++ [(D, lstX ys k)])) := N7
    k_steps
    rename_i h8 D2 h9 F8 N8 l8
    have hD2 : ∃ c', c' = scLed w x dx8 bl8 wt8 cp8 (t8.pkg t.tp) vo8 (l1, me) bs8 ws8 caps8 m1 m2 m3 (B9 ++ (W9 ++ R9)) := ⟨_, rfl⟩
    obtain ⟨c', hc'⟩ := hD2
    have ap9 : Apart c' [(D, lstX ys k)] := by rw [hc']; exact ND.apart (ND.keys (l := scLed w x dx8 bl8 wt8 cp8 t8 vo8 (l1, me) bs8 ws8 caps8 m1 m2 m3 (B9 ++ (W9 ++ R9)) ++ [(D, lstX ys k)]) (l' := scLed w x dx8 bl8 wt8 cp8 (t8.pkg t.tp) vo8 (l1, me) bs8 ws8 caps8 m1 m2 m3 (B9 ++ (W9 ++ R9)) ++ [(D, lstX ys k)]) rfl nd8)
    have l9 : AllLt D2 (c' ++ [(D, lstX ys k)]) := by rw [hc']; exact l8
    have N10 : ∃ tkz, News G L h9 ((D2, tupO [.str "block" tkz, .ref D]) :: (c' ++ [(D, lstX ys k)])) := ⟨_, by rw [hc']; exact N8⟩
    obtain ⟨tkz, N10⟩ := N10
    have hc10 : Chain w (⟨lv, (l1, me)⟩ :: σ) (.ref x) c' := by rw [hc']; exact ⟨⟨x, dx8, bl8, wt8, cp8, t8.pkg t.tp, vo8, bs8, ws8, caps8, m1, m2, m3, kv0, B9, W9, R9, rfl, rfl, hB, hW, hR⟩, nd.keys rfl⟩
    clear hc' N8 l8
    exact hret (.ret (.ref D2)) (c' ++ [(D2, tupO [.str "block" tkz, .ref D]), (D, lstX ys k)]) _ _ _ F8 (news_sub N10 fun p hp => by
      simp only [List.mem_append, List.mem_cons, List.not_mem_nil, or_false] at hp ⊢
      rcases hp with hp | hp | hp <;> simp only [hp, true_or, or_true]) ⟨l1, c', _, hrun, rfl, hc10, (fun p hp q hq => by
      rcases List.mem_cons.mp hq with rfl | hq
      · exact Nat.ne_of_lt (allLt_mem l9 p (List.mem_append_left _ hp))
      · exact ap9 p hp q hq), D2, _, D, k, ys, rfl, List.mem_cons_self, List.mem_cons_of_mem _ List.mem_cons_self, hys⟩
theorem block_at {G : Heap} {v0 : Value} {b : Blk} {n : Nat} (hn : 1 ≤ n) (hS : AllS (fun s => ∀ (G : Heap) (v : Value), StmIs (seeH G) v s → PartAt w mean mg mb G 284 v (stmK s) n) b) (hb : BlkIs (seeH G) v0 b) : PartAt w mean mg mb G 229 v0 (blkK b) (n + 1) := by
  intro v ch a0 w0 lv ln me σ hc hfit hwd
  have q := @block_any w mean mg mb G v0 b n hn hS hb v ch ((a0, w0) :: lv) ln me σ hc (hfit.in _)
  have hv : visL ((a0, w0) :: lv) σ = vs9 a0 lv σ := rfl
  rw [hv] at q
  refine @Triple.conv _ _ _ _ _ _ _ _ _ _ _ _ _ _ (Nat.le_refl _) (fun r c hp => ?_) (fun e he => ?_) @q
  · refine cps fun k_ => ?_
    obtain ⟨l', c', fz, h1, h2, h3, h4, h5⟩ := hp
    apply k_
    clear k_
    exact ⟨c, fun z9 h => h, l', w0, c', fz, by simp only [blkK, okWith, h1], Nat.le_add_right _ _, h2, h3, h4, h5⟩
  · simp only [blkK, okWith, he]
end
end
theorem Chain.me {w : World} {lv : List (Vis × Vis)} {ln : Int} {me : Addr} {σ : List Fm} {v : Value} {ch : Led} (hc : Chain w (⟨lv, (ln, me)⟩ :: σ) v ch) : v = .ref me := by
  refine cps fun k_ => ?_
  obtain ⟨⟨x, dx, bl, wt, cp, t, vo, bs, ws, caps, n1, n2, n3, kv0, B9, W9, R9, rfl, rfl, hB, hW, hR, rfl⟩, nd⟩ := hc
  apply k_
  clear k_
  rfl
theorem Fit.sub {lv : List (Vis × Vis)} {σ : List Fm} {n : Nat} {p : Vis × Vis} {ln : Lin} (f : Fit lv σ (n + 3)) : Fit [] (⟨p :: lv, ln⟩ :: σ) n := ⟨by have := f.1; simp only [List.length_nil]; lia, fun g hg => by
  rcases List.mem_cons.mp hg with rfl | hg
  · have := f.1; simp only [List.length_cons]; lia
  · have := f.2 g hg; lia⟩
def anonK (b : Blk) : KidT := ⟨runT' (.anon b), fun z9 z9 z9 => True, 0, fun z9 z9 => trivial⟩
theorem new_chain {w : World} {σ : List Fm} {v : Value} {ch : Led} {x dx bl wt cp b0 w0a : Addr} {o : Obj} {t1 t2 t3 t4 t5 t6 t7 tp ts tl : Tok} {ln : Int} (hc : Chain w σ v ch) (hd : o.IsDictOf (strKind PG w) []) (hlo : (b0 == sysModules) = false)
    (h0 : ∀ p ∈ ch, @LT.lt Nat _ p.1 dx) (h1 : @LT.lt Nat _ dx x) (h2 : @LT.lt Nat _ x b0) (h3 : @LT.lt Nat _ b0 bl) (h4 : @LT.lt Nat _ bl w0a) (h5 : @LT.lt Nat _ w0a wt) (h6 : @LT.lt Nat _ wt cp) :
    Chain w (⟨[], (ln, x)⟩ :: σ) (.ref x) ((x, instObj 108 dx) :: (dx, scDict w t1 t2 t3 t4 t5 t6 t7 v (.str "main" tp) (.ref bl) (.ref wt) (.int 0 ts) (.ref cp) (.int ln tl)) :: (bl, lstO [.ref b0] 0) :: (wt, lstO [.ref w0a] 0) :: (cp, lstO [] 0) :: (b0, o) :: (w0a, lstO [] 0) :: ch) := by
  refine ⟨⟨x, dx, bl, wt, cp, ⟨t1, t2, t3, t4, t5, t6, t7, tp, ts, tl, 0⟩, v, [.ref b0], [.ref w0a], [], 0, 0, 0, [], [(b0, o)], [(w0a, lstO [] 0)], ch, rfl, rfl, ⟨b0, o, rfl, rfl, CapV.nil hd, hlo⟩, ⟨w0a, 0, rfl, rfl⟩, hc.1, rfl⟩, ?_⟩
  have far : ∀ p ∈ ch, ∀ y : Addr, @LE.le Nat _ dx y → p.1 ≠ y := fun p hp y hy e => by
    have := h0 p hp
    have e' : @Eq Nat p.1 y := e
    lia
  have ne : ∀ {a b : Addr}, ¬ @Eq Nat a b → a ≠ b := fun h e => h e
  refine ND.mk ?_ (ND.mk ?_ (ND.mk ?_ (ND.mk ?_ (ND.mk ?_ (ND.mk ?_ (ND.mk ?_ hc.2))))))
  · simp only [List.forall_mem_cons]
    exact ⟨ne (by lia), ne (by lia), ne (by lia), ne (by lia), ne (by lia), ne (by lia), fun p hp => far p hp _ (by lia)⟩
  · simp only [List.forall_mem_cons]
    exact ⟨ne (by lia), ne (by lia), ne (by lia), ne (by lia), ne (by lia), fun p hp => far p hp _ (by lia)⟩
  · simp only [List.forall_mem_cons]
    exact ⟨ne (by lia), ne (by lia), ne (by lia), ne (by lia), fun p hp => far p hp _ (by lia)⟩
  · simp only [List.forall_mem_cons]
    exact ⟨ne (by lia), ne (by lia), ne (by lia), fun p hp => far p hp _ (by lia)⟩
  · simp only [List.forall_mem_cons]
    exact ⟨ne (by lia), ne (by lia), fun p hp => far p hp _ (by lia)⟩
  · simp only [List.forall_mem_cons]
    exact ⟨ne (by lia), fun p hp => far p hp _ (by lia)⟩
  · exact fun p hp => far p hp _ (by lia)
theorem new_news {w : World} {σ : List Fm} {v : Value} {ch : Led} {x dx bl wt cp b0 w0a : Addr} {o : Obj} {t1 t2 t3 t4 t5 t6 t7 tp ts tl : Tok} {ln : Int} {G h : Heap} {L : Addr} (hc : Chain w σ v ch)
    (N : News G L h ((cp, lstO [] 0) :: (wt, lstO [.ref w0a] 0) :: (w0a, lstO [] 0) :: (bl, lstO [.ref b0] 0) :: (b0, o) :: (x, instObj 108 dx) :: (dx, scDict w t1 t2 t3 t4 t5 t6 t7 v (.str "main" tp) (.ref bl) (.ref wt) (.int 0 ts) (.ref cp) (.int ln tl)) :: ch)) (hd : o.IsDictOf (strKind PG w) []) (hlo : (b0 == sysModules) = false)
    (h0 : ∀ p ∈ ch, @LT.lt Nat _ p.1 dx) (h1 : @LT.lt Nat _ dx x) (h2 : @LT.lt Nat _ x b0) (h3 : @LT.lt Nat _ b0 bl) (h4 : @LT.lt Nat _ bl w0a) (h5 : @LT.lt Nat _ w0a wt) (h6 : @LT.lt Nat _ wt cp) :
    ∃ ch2, News G L h ch2 ∧ Chain w (⟨[], (ln, x)⟩ :: σ) (.ref x) ch2 :=
  ⟨_, news_sub N (fun p hp => by
    simp only [List.mem_cons] at hp ⊢
    rcases hp with hp | hp | hp | hp | hp | hp | hp | hp
    · exact (.inr (.inr (.inr (.inr (.inr (.inl hp))))))
    · exact (.inr (.inr (.inr (.inr (.inr (.inr (.inl hp)))))))
    · exact (.inr (.inr (.inr (.inl hp))))
    · exact (.inr (.inl hp))
    · exact (.inl hp)
    · exact (.inr (.inr (.inr (.inr (.inl hp)))))
    · exact (.inr (.inr (.inl hp)))
    · exact (.inr (.inr (.inr (.inr (.inr (.inr (.inr hp)))))))), new_chain hc hd hlo h0 h1 h2 h3 h4 h5 h6⟩
section
variable {w : World} {mean : ExcName → Option Value} {mg mb : Str → Option Value}
theorem subdef_at {G : Heap} {a l9 : Addr} {t1 t2 t3 : Tok} {v1 : Value} {b : Blk} {n n9 : Nat} (hn : 3 ≤ n) (ha : G.get? a = some (tupO [.str "subdef" t1, .str "" t2, v1, .int 0 t3, .ref l9])) (hS : AllS (fun s => ∀ (G : Heap) (v : Value), StmIs (seeH G) v s → PartAt w mean mg mb G 284 v (stmK s) n) b) (hb : BlkIs (seeH G) v1 b) :
    PartAt w mean mg mb G 222 (.ref a) (anonK b) (n + 3) := by
  intro v ch a0 w0 lv ln me σ hc hfit hwd
  have hme := hc.me
  have hT : IsTup G a (List.toArray [.str "subdef" t1, .str "" t2, v1, .int 0 t3, .ref l9]) := tup_of ha
  have hc0 := hc
  have hfit1 := hfit.1
  obtain ⟨x, dx, bl, wt, cp, t, vo, bs, ws, caps, n1, n2, n3, rfl, hm1, hm2, hm3, hm4, hm5⟩ := chain_see hc
  show Triple _ _ _ _ _ _ _ _ _ _ _
  refine' enter (binds := [("scope", .ref x), ("node", .ref a)]) ?k6 ?k7 ?k9 ?kB ?_ ?kn ?c5 ?c2 ?c3 ?c4
  case k6 => k_is
  case k7 => k_is
  case k9 => exact rfl
  case kB => exact locs rfl
  case kn => first | lia | (simp only [htP, htT, htS, htB]; lia)
  case c5 => decide
  case c2 => exact rfl
  case c3 => exact rfl
  case c4 => exact rfl
  k_whole
  intro dp un gd frs base A₀ s L h₁ tk₁ Qb Eb B X T hdp hun F N hlt hret hexc hown
  (try dsimp only at F)
  k_steps
  refine Halt.mk ?_
  rename News _ _ _ _ => N9
  rename Fr _ _ _ _ => F9
  rename (_ == sysModules) = false => hlo
  rename Obj.IsDictOf (PySem.strKind PG w) _ _ => hd9
  rename @LT.lt Nat _ _ _ ∧ @LT.lt Nat _ _ _ ∧ @LT.lt Nat _ _ _ ∧ @LT.lt Nat _ _ _ ∧ @LT.lt Nat _ _ _ ∧ @LT.lt Nat _ _ _ ∧ AllLt _ _ => l9
  rename @LT.lt Nat _ _ _ ∧ @LT.lt Nat _ _ _ ∧ @LT.lt Nat _ _ _ ∧ @LT.lt Nat _ _ _ ∧ @LT.lt Nat _ _ _ ∧ AllLt _ _ => l8
  rename @LT.lt Nat _ _ _ ∧ @LT.lt Nat _ _ _ ∧ @LT.lt Nat _ _ _ ∧ @LT.lt Nat _ _ _ ∧ AllLt _ _ => l7
  rename @LT.lt Nat _ _ _ ∧ @LT.lt Nat _ _ _ ∧ @LT.lt Nat _ _ _ ∧ AllLt _ _ => l6
  rename @LT.lt Nat _ _ _ ∧ @LT.lt Nat _ _ _ ∧ AllLt _ _ => l5
  rename ∀ (p : Addr × Obj), p ∈ ch → @LT.lt Nat _ p.1 _ => l4
  rename @LT.lt Nat _ _ _ => l3
  refine cps fun k_ => ?_
  obtain ⟨ch2, N2, hc2⟩ := new_news (ln := ln) hc0 N9 hd9 hlo l4 l3 l5.1 l6.1 l7.1 l8.1 l9.1
  apply k_
  clear k_
  rename_i kX _ _ _
  refine use (ch := ch2) (rest := []) (by assumption) F9 (news_nilr N2) (by assumption) (by assumption) apart_nilr (by exact rfl) (by exact rfl) hdp hun (by simp only [List.length_cons]; lia)
    (fun G₂ st₂ z9 => block_any (n := n) (by lia) hS (BlkOf.mono (fun a o h => st₂ _ _ h) (fun z9 h => StmsAre.mono (fun a o h => st₂ _ _ h) b h) hb) _ ch2 [] ln _ _ hc2 (Fit.sub hfit)) ?_ ?_
  · intro r' ch' h' tk' F' N' A' P'
    refine cps fun k_ => ?_
    obtain ⟨l', c', fz, hres, rfl, hc3, ap, _⟩ := P'
    apply k_
    clear k_
    have hrun : runB ln (vs9 a0 lv σ) b = .ok l' := hres
    replace N' : News G L h' c' := news_sub N' fun p hp => List.mem_append_left _ (List.mem_append_left _ hp)
    clear A' N9 N2 l9 l8 l7 l6 l5 l4 l3 hm1 hm2 hm3 hm4 hm5
    refine cps fun k_ => ?_
    obtain ⟨⟨x8, dx8, bl8, wt8, cp8, t8, vo8, bs8, ws8, caps8, m1, m2, m3, kv0, B9, W9, R9, hxe, rfl, hB, hW, hR, hme8⟩, nd8⟩ := hc3
    apply k_
    clear k_
    refine cps fun k_ => ?_
    obtain ⟨⟨e1, e2, e3, e4, r1⟩, ⟨e5, e6, e7, r2⟩, ⟨e8, e9, r3⟩, ⟨e10, r4⟩, r5, nd0⟩ := nd5 nd8
    apply k_
    clear k_
    have hcR : Chain w (⟨(a0, w0) :: lv, (ln, me)⟩ :: σ) vo8 R9 := ⟨hR, nd0.right.right⟩
    have hvo := hcR.me
    rw [← hme] at hvo
    subst hvo
    cases hxe
    k_steps
    rename News _ _ _ _ => N8
    exact hret (.ret (.ref _)) R9 _ _ _ (by assumption) (news_sub N8 fun p hp => by simp [hp]) ⟨ln, w0, R9, [], by simp only [anonK, runT', runT, hrun], Nat.le_add_right _ _, (List.append_nil _).symm, hcR, apart_nilr, trivial⟩
  · exact fun e l h' tk' hx9 hex => rai_pass hexc e l h' tk' hx9 (by have hex' : runB ln (vs9 a0 lv σ) b = .error l := hex; simp only [anonK, runT', runT, hex'])
end
def termK (t : Term) : KidT := ⟨runT' t, fun z9 z9 z9 => True, widT t, fun z9 z9 => trivial⟩
abbrev ScT.lnd (t : ScT) (tl : Tok) : ScT := ⟨t.t1, t.t2, t.t3, t.t4, t.t5, t.t6, t.t7, t.tp, t.ts, tl, t.sz⟩
inductive HeadP (w : World) (σ : List Fm) (v : Value) (me : Addr) (a0 : Vis) (lv : List (Vis × Vis)) (res : Except Int (Int × Vis)) (ch' : Led) : Prop
  | mk (l' : _) (w1 : _) (h1_ : res = .ok (l', w1)) (h2_ : Chain w (⟨(w1 ++ a0, []) :: lv, (l', me)⟩ :: σ) v ch') : HeadP w σ v me a0 lv res ch'
section
variable {w : World} {mean : ExcName → Option Value} {mg mb : Str → Option Value}
theorem expr_at {G : Heap} {a : Addr} {t1 t2 : Tok} {l : Int} {v1 : Value} {tm : Term} {n : Nat} (ha : G.get? a = some (tupO [.str "expr" t1, .int l t2, v1])) (hw : widT tm ≤ 20) (hk : ∀ G₂, G.StaysIn G₂ → PartAt w mean mg mb G₂ 289 v1 (termK tm) n) :
    PartAt w mean mg mb G 236 (.ref a) (stmK (.expr l tm)) (n + 1) := by
  intro v ch a0 w0 lv ln me σ hc hfit hwd
  have hT : IsTup G a (List.toArray [.str "expr" t1, .int l t2, v1]) := tup_of ha
  obtain ⟨⟨x, dx, bl, wt, cp, t, vo, bs, ws, caps, n1, n2, n3, kv0, B9, W9, R9, rfl, rfl, hB, hW, hR⟩, nd⟩ := hc
  have nd' := nd
  obtain ⟨⟨e1, e2, e3, e4, r1⟩, ⟨e5, e6, e7, r2⟩, ⟨e8, e9, r3⟩, ⟨e10, r4⟩, r5, nd0⟩ := nd5 nd'
  clear nd'
  obtain ⟨hR, hme⟩ := hR
  show Triple _ _ _ _ _ _ _ _ _ _ _
  refine' enter (binds := [("scope", .ref x), ("node", .ref a)]) ?k6 ?k7 ?k9 ?kB ?_ ?kn ?c5 ?c2 ?c3 ?c4
  case k6 => k_is
  case k7 => k_is
  case k9 => exact rfl
  case kB => exact locs rfl
  case kn => first | lia | (simp only [htP, htT, htS, htB]; lia)
  case c5 => decide
  case c2 => exact rfl
  case c3 => exact rfl
  case c4 => exact rfl
  k_whole
  intro dp un gd frs base A₀ s L h₁ tk₁ Qb Eb B X T hdp hun F N hlt hret hexc hown
  (try dsimp only at F)
  k_steps
  refine Halt.mk ?_
  rename News _ _ _ _ => N9
  have N8 : News G L _ (scLed w x dx bl wt cp (t.lnd t2) vo (l, me) bs ws caps n1 n2 n3 (B9 ++ (W9 ++ R9))) := N9
  have hc8 : Chain w (⟨(a0, w0) :: lv, (l, me)⟩ :: σ) (.ref x) (scLed w x dx bl wt cp (t.lnd t2) vo (l, me) bs ws caps n1 n2 n3 (B9 ++ (W9 ++ R9))) := ⟨⟨x, dx, bl, wt, cp, t.lnd t2, vo, bs, ws, caps, n1, n2, n3, kv0, B9, W9, R9, rfl, rfl, hB, hW, hR, hme⟩, nd.keys rfl⟩
  simp only [stmK] at hwd
  refine use (ch := scLed w x dx bl wt cp (t.lnd t2) vo (l, me) bs ws caps n1 n2 n3 (B9 ++ (W9 ++ R9))) (rest := []) (by assumption) (by assumption) (news_nilr N8) (by assumption) (by assumption) apart_nilr (by exact rfl) (by exact rfl) hdp hun (by first | exact Nat.lt_succ_self _ | lia) (fun G₂ st₂ z9 => hk G₂ st₂ (.ref x) _ a0 w0 lv l me σ hc8 (hfit.le (by lia)) (by simp only [termK]; lia)) ?_ ?_
  · intro r' ch' h' tk' F' N' A' P'
    refine cps fun k_ => ?_
    obtain ⟨l', w1, c', fz, hres, hw1, rfl, hc1, ap, _⟩ := P'
    apply k_
    clear k_
    k_steps
    rename News _ _ _ _ => N7
    exact hret (.ret (.ref _)) c' _ _ _ (by assumption) (news_sub N7 fun p hp => List.mem_cons_of_mem _ (List.mem_append_left _ (List.mem_append_left _ hp))) ⟨l', w1, c', [], hres, by simp only [termK] at hw1; simp only [stmK]; lia, (List.append_nil _).symm, hc1, apart_nilr, trivial⟩
  · exact fun e l h' tk' hx9 hex => rai_pass hexc e l h' tk' hx9 hex
theorem head_at {G : Heap} {part : Value} {k : KidT} {n : Nat} (hn : 1 ≤ n) (hk : ∀ G₂, G.StaysIn G₂ → PartAt w mean mg mb G₂ 289 part k n) (v : Value) (ch : Led) (a0 w0 : Vis) (lv : List (Vis × Vis)) (ln : Int) (me : Addr) (σ : List Fm) (hc : Chain w (⟨(a0, w0) :: lv, (ln, me)⟩ :: σ) v ch) (hfit : Fit lv σ n) (hwd : w0.length + k.wd ≤ 1000) :
    Triple w mean mg mb G 243 [v, part] (n + 1 + σ.length) ch (fun z9 ch' => HeadP w σ v me a0 lv (k.run ln (vs9 a0 lv σ) w0) ch') (fun e => k.run ln (vs9 a0 lv σ) w0 = .error e) := by
  have hfit1 := hfit.1
  show Triple _ _ _ _ _ _ _ _ _ _ _
  refine' enter (binds := [("scope", v), ("node", part)]) ?k6 ?k7 ?k9 ?kB ?_ ?kn ?c5 ?c2 ?c3 ?c4
  case k6 => k_is
  case k7 => k_is
  case k9 => exact rfl
  case kB => exact locs rfl
  case kn => first | lia | (simp only [htP, htT, htS, htB]; lia)
  case c5 => decide
  case c2 => exact rfl
  case c3 => exact rfl
  case c4 => exact rfl
  k_whole
  intro dp un gd frs base A₀ s L h₁ tk₁ Qb Eb B X T hdp hun F N hlt hret hexc hown
  (try dsimp only at F)
  k_steps
  refine Halt.mk ?_
  refine use (ch := ch) (rest := []) (by assumption) (by assumption) (news_nilr N) (by assumption) (by assumption) apart_nilr (by exact rfl) (by exact rfl) hdp hun (by first | exact Nat.lt_succ_self _ | lia) (fun G₂ st₂ z9 => hk G₂ st₂ v ch a0 w0 lv ln me σ hc hfit hwd) ?_ ?_
  · intro r' ch' h' tk' F' N' A' P'
    refine cps fun k_ => ?_
    obtain ⟨l', w1, c', fz, hres, hw1, rfl, hc1, ap, _⟩ := P'
    apply k_
    clear k_
    replace N' : News G L h' c' := news_sub N' fun p hp => List.mem_append_left _ (List.mem_append_left _ hp)
    clear A' N F
    k_steps
    refine Halt.mk ?_
    rename News _ _ _ _ => N7
    refine useN (ch := c') (rest := []) (by assumption) (by assumption) (news_nilr N7) (by assumption) (by assumption) apart_nilr (by exact rfl) (by exact rfl) hdp hun (by first | exact Nat.lt_succ_self _ | lia) (fun G₂ st₂ z9 => introduce hc1 (by lia) (by lia)) ?_
    intro r2 ch2 h2 tk2 F2 N2 A2 hc2
    replace N2 := news_unnil N2
    clear A2 N7
    k_steps
    exact hret (.ret r') _ _ _ _ (by assumption) (by assumption) ⟨l', w1, hres, hc2⟩
  · exact fun e l h' tk' hx9 hex => rai_pass hexc e l h' tk' hx9 hex
end
section
variable {w : World} {mean : ExcName → Option Value} {mg mb : Str → Option Value}
theorem runT'_ok {t : Term} {ln l : Int} {vis n0 n : Vis} (h : runT' t ln vis n0 = .ok (l, n)) : l = ln ∧ runT ln vis n0 t = .ok n := by
  unfold runT' at h
  cases e : runT ln vis n0 t with
  | error e' => rw [e] at h; cases h
  | ok n' => rw [e] at h; cases h; exact ⟨rfl, rfl⟩
theorem runT'_err {t : Term} {ln e : Int} {vis n0 : Vis} (h : runT' t ln vis n0 = .error e) : runT ln vis n0 t = .error e := by
  unfold runT' at h
  cases e9 : runT ln vis n0 t with
  | error e' => rw [e9] at h; cases h; rfl
  | ok n' => rw [e9] at h; cases h
theorem okWith_ok {new n : Vis} {r : Except Int Int} {l : Int} (h : okWith new r = .ok (l, n)) : r = .ok l ∧ n = new := by
  unfold okWith at h
  split at h
  · cases h
  · cases h; exact ⟨rfl, rfl⟩
theorem okWith_err {new : Vis} {r : Except Int Int} {e : Int} (h : okWith new r = .error e) : r = .error e := by
  unfold okWith at h
  split at h
  · cases h; rfl
  · cases h
theorem foreach_at {G : Heap} {a : Addr} {t1 t2 : Tok} {v1 v2 v3 : Value} {ki : KidT} {tx ti : Term} {b : Blk} {n : Nat} (hn : 2 ≤ n) (ha : G.get? a = some (tupO [.str "foreach" t1, .str "" t2, v1, v2, v3])) (hw : widT tx + widT ti ≤ 20) (hwi : ki.wd = widT ti) (hri : ∀ ln vis new, ki.run ln vis new = runT' ti ln vis new)
    (hkx : ∀ G₂, G.StaysIn G₂ → PartAt w mean mg mb G₂ 289 v1 (termK tx) n) (hki : ∀ G₂, G.StaysIn G₂ → PartAt w mean mg mb G₂ 289 v2 ki n) (hkb : ∀ G₂, G.StaysIn G₂ → PartAt w mean mg mb G₂ 229 v3 (blkK b) n) :
    PartAt w mean mg mb G 271 (.ref a) (stmK (.foreach tx ti b)) (n + 2) := by
  intro v ch a0 w0 lv ln me σ hc hfit hwd
  have hT : IsTup G a (List.toArray [.str "foreach" t1, .str "" t2, v1, v2, v3]) := tup_of ha
  have hfit1 := hfit.1
  have hf9 : Fit ((a0, w0) :: lv) σ n := Fit.in (hfit.le (by lia)) _
  have hv9 : vs9 [] ((a0, w0) :: lv) σ = vs9 a0 lv σ := rfl
  show Triple _ _ _ _ _ _ _ _ _ _ _
  refine' enter (binds := [("scope", v), ("node", .ref a)]) ?k6 ?k7 ?k9 ?kB ?_ ?kn ?c5 ?c2 ?c3 ?c4
  case k6 => k_is
  case k7 => k_is
  case k9 => exact rfl
  case kB => exact locs rfl
  case kn => first | lia | (simp only [htP, htT, htS, htB]; lia)
  case c5 => decide
  case c2 => exact rfl
  case c3 => exact rfl
  case c4 => exact rfl
  k_whole
  intro dp un gd frs base A₀ s L h₁ tk₁ Qb Eb B X T hdp hun F N hlt hret hexc hown
  (try dsimp only at F)
  k_steps
  refine Halt.mk ?_
  rename News _ _ _ _ => N9
  refine useN (ch := ch) (rest := []) (by assumption) (by assumption) (news_nilr N9) (by assumption) (by assumption) apart_nilr (by exact rfl) (by exact rfl) hdp hun (by first | exact Nat.lt_succ_self _ | lia) (fun G₂ st₂ z9 => enter_block hc (by simp only [List.length_cons]; lia)) ?_
  intro r' ch1 h' tk' F' N' A' hc1
  replace N' := news_unnil N'
  clear A' N9
  k_steps
  refine Halt.mk ?_
  rename News _ _ _ _ => N9
  refine use (ch := ch1) (rest := []) (by assumption) (by assumption) (news_nilr N9) (by assumption) (by assumption) apart_nilr (by exact rfl) (by exact rfl) hdp hun (by first | exact Nat.lt_succ_self _ | lia) (fun G₂ st₂ z9 => hkx G₂ st₂ v ch1 [] [] ((a0, w0) :: lv) ln me σ hc1 hf9 (by simp only [termK, List.length_nil]; lia)) ?_ ?_
  · intro r' c2 h' tk' F' N' A' P'
    refine cps fun k_ => ?_
    obtain ⟨l2, n2, c', fz, hres, hw1, rfl, hc2, ap, _⟩ := P'
    apply k_
    clear k_
    rw [hv9] at hres
    obtain ⟨rfl, hres⟩ := runT'_ok hres
    simp only [termK, List.length_nil, Nat.zero_add] at hw1
    replace N' : News G L h' c' := news_sub N' fun p hp => List.mem_append_left _ (List.mem_append_left _ hp)
    clear A' N9
    k_steps
    refine Halt.mk ?_
    rename News _ _ _ _ => N9
    refine use (ch := c') (rest := []) (by assumption) (by assumption) (news_nilr N9) (by assumption) (by assumption) apart_nilr (by exact rfl) (by exact rfl) hdp hun (by first | exact Nat.lt_succ_self _ | lia) (fun G₂ st₂ z9 => head_at (by lia) (fun G₃ st₃ => hki G₃ fun b o e => st₃ b o (st₂ b o e)) v c' [] n2 ((a0, w0) :: lv) l2 me σ hc2 hf9 (by rw [hwi]; lia)) ?_ ?_
    · intro r3 c3 h3 tk3 F3 N3 A3 P3
      refine cps fun k_ => ?_
      obtain ⟨l4, n4, hres4, hc4⟩ := P3
      apply k_
      clear k_
      rw [hv9, hri] at hres4
      obtain ⟨rfl, hres4⟩ := runT'_ok hres4
      rw [List.append_nil] at hc4
      replace N3 := news_unnil N3
      clear A3 N9
      k_steps
      refine Halt.mk ?_
      rename News _ _ _ _ => N9
      have hv4 : vs9 n4 ((a0, w0) :: lv) σ = n4 ++ vs9 a0 lv σ := vs9_in _ _ _
      refine use (ch := c3) (rest := []) (by assumption) (by assumption) (news_nilr N9) (by assumption) (by assumption) apart_nilr (by exact rfl) (by exact rfl) hdp hun (by first | exact Nat.lt_succ_self _ | lia) (fun G₂ st₂ z9 => hkb G₂ st₂ v c3 n4 [] ((a0, w0) :: lv) l4 me σ hc4 hf9 (Nat.zero_le _)) ?_ ?_
      · intro r5 c5 h5 tk5 F5 N5 A5 P5
        refine cps fun k_ => ?_
        obtain ⟨l6, w6, c6, fz6, hres6, hw6, rfl, hc6, ap6, _⟩ := P5
        apply k_
        clear k_
        rw [hv4] at hres6
        obtain ⟨hq6, rfl⟩ := okWith_ok hres6
        replace N5 : News G L h5 c6 := news_sub N5 fun p hp => List.mem_append_left _ (List.mem_append_left _ hp)
        clear A5 N9
        k_steps
        refine Halt.mk ?_
        rename News _ _ _ _ => N9
        refine useN (ch := c6) (rest := []) (by assumption) (by assumption) (news_nilr N9) (by assumption) (by assumption) apart_nilr (by exact rfl) (by exact rfl) hdp hun (by first | exact Nat.lt_succ_self _ | lia) (fun G₂ st₂ z9 => leave_block hc6 (by simp only [List.length_cons]; lia)) ?_
        intro r7 c7 h7 tk7 F7 N7 A7 hc7
        replace N7 := news_unnil N7
        clear A7 N9
        k_steps
        rename News _ _ _ _ => N9
        exact hret (.ret (.ref _)) c7 _ _ _ (by assumption) (news_sub N9 fun p hp => List.mem_cons_of_mem _ hp) ⟨l6, w0, c7, [], by simp only [stmK, okWithS, runE, hres, hres4, hq6, okWith], Nat.le_add_right _ _, (List.append_nil _).symm, hc7, apart_nilr, trivial⟩
      · exact fun e l h' tk' hx9 hex => rai_pass hexc e l h' tk' hx9 (by rw [hv4] at hex; have hex := okWith_err hex; simp only [stmK, okWithS, runE, hres, hres4, hex, okWith])
    · exact fun e l h' tk' hx9 hex => rai_pass hexc e l h' tk' hx9 (by rw [hv9, hri] at hex; have hex := runT'_err hex; simp only [stmK, okWithS, runE, hres, hex, okWith])
  · exact fun e l h' tk' hx9 hex => rai_pass hexc e l h' tk' hx9 (by rw [hv9] at hex; have hex := runT'_err hex; simp only [stmK, okWithS, runE, hex, okWith])
end
section
local macro_rules | `(tactic| walk_at "call builtin:list.append") => `(tactic| (refine Halt.out ?_))
inductive ArmJ (w : World) (σ : List Fm) (v : Value) (me : Addr) (lv : List (Vis × Vis)) (vis : Vis) (ln : Int) (t : Term) (b : Blk) (a D : Addr) (i : Nat) (m₁ : Str → Option Value) (led₁ : Led) : Prop
  | mk (ch : _) (ys : _) (k : _) (h1_ : led₁ = (D, lstX ys k) :: ch) (h2_ : ys.length ≤ i) (h3_ : (∀ p ∈ ch, p.1 ≠ D)) (h4_ : m₁ (Str.ofString "scope") = some v) (h5_ : m₁ (Str.ofString "node") = some (.ref a)) (h6_ : m₁ (Str.ofString "arms") = some (.ref D)) (h7_ : match i with | 0 => Chain w (⟨([], []) :: lv, (ln, me)⟩ :: σ) v ch | _ + 1 => ∃ n1 l1, runT ln vis [] t = .ok n1 ∧ runB ln (n1 ++ vis) b = .ok l1 ∧ Chain w (⟨(n1, []) :: lv, (l1, me)⟩ :: σ) v ch) : ArmJ w σ v me lv vis ln t b a D i m₁ led₁
theorem news_swap {G h : Heap} {L : Addr} {c : Led} {a b : Addr × Obj} (N : News G L h (a :: b :: c)) : News G L h (c ++ [b, a]) := news_sub N fun p hp => by
  simp only [List.mem_append, List.mem_cons, List.not_mem_nil, or_false] at hp ⊢
  rcases hp with hp | hp | hp <;> simp only [hp, true_or, or_true]
theorem apart_pair {c : Led} {a b : Addr × Obj} (ha : ∀ p ∈ c, p.1 ≠ a.1) (hb : ∀ p ∈ c, p.1 ≠ b.1) : Apart c [b, a] := fun p hp q hq => by
  rcases List.mem_cons.mp hq with rfl | hq
  · exact hb p hp
  · rw [List.mem_singleton.mp hq]; exact ha p hp
section
variable {w : World} {mean : ExcName → Option Value} {mg mb : Str → Option Value}
theorem if_at {G : Heap} {a l9 p9 : Addr} {t1 : Tok} {n9 : Nat} {v1 v2 v3 : Value} {ko : KidT} {tm : Term} {b c : Blk} {n : Nat} (hn : 2 ≤ n) (ha : G.get? a = some (tupO [.str "if" t1, .ref l9, v3])) (hl9 : G.get? l9 = some (lstO [.ref p9] n9)) (hp9 : G.get? p9 = some (tupO [v1, v2])) (hw : widT tm ≤ 20)
    (hko : ko.wd = 0) (hkr : ∀ ln vis new, ko.run ln vis new = okWith new (runB ln vis c))
    (hkt : ∀ G₂, G.StaysIn G₂ → PartAt w mean mg mb G₂ 289 v1 (termK tm) n) (hkb : ∀ G₂, G.StaysIn G₂ → PartAt w mean mg mb G₂ 229 v2 (blkK b) (n + 1)) (hkc : ∀ G₂, G.StaysIn G₂ → PartAt w mean mg mb G₂ 289 v3 ko (n + 1)) :
    PartAt w mean mg mb G 250 (.ref a) (stmK (.ifs tm b c)) (n + 2) := by
  intro v ch a0 w0 lv ln me σ hc hfit hwd
  have hT : IsTup G a (List.toArray [.str "if" t1, .ref l9, v3]) := tup_of ha
  have hfit1 := hfit.1
  have hf9 : Fit ((a0, w0) :: lv) σ n := Fit.in (hfit.le (by lia)) _
  have hf8 : Fit ((a0, w0) :: lv) σ (n + 1) := Fit.in hfit _
  have hv9 : vs9 [] ((a0, w0) :: lv) σ = vs9 a0 lv σ := rfl
  show Triple _ _ _ _ _ _ _ _ _ _ _
  refine' enter (binds := [("scope", v), ("node", .ref a)]) ?k6 ?k7 ?k9 ?kB ?_ ?kn ?c5 ?c2 ?c3 ?c4
  case k6 => k_is
  case k7 => k_is
  case k9 => exact rfl
  case kB => exact locs rfl
  case kn => first | lia | (simp only [htP, htT, htS, htB]; lia)
  case c5 => decide
  case c2 => exact rfl
  case c3 => exact rfl
  case c4 => exact rfl
  k_whole
  intro dp un gd frs base A₀ s L h₁ tk₁ Qb Eb B X T hdp hun F N hlt hret hexc hown
  (try dsimp only at F)
  k_steps
  refine Halt.mk ?_
  rename News _ _ _ _ => N9
  refine useN (ch := ch) (rest := []) (by assumption) (by assumption) (news_nilr N9) (by assumption) (by assumption) apart_nilr (by exact rfl) (by exact rfl) hdp hun (by first | exact Nat.lt_succ_self _ | lia) (fun G₂ st₂ z9 => enter_block hc (by simp only [List.length_cons]; lia)) ?_
  intro r' ch1 h' tk' F' N' A' hc1
  replace N' := news_unnil N'
  clear A' N9
  k_steps
  rename_i D hq5 l5 h5 F5 N5
  refine Halt.mk ?_
  refine forK (G := G) hown ?_
  k_steps
  (try dsimp only [kRe, kS])
  rename Fr _ _ _ _ => F9
  rename News _ _ _ _ => N9
  refine for_at_listT (items := List.toArray [Value.ref p9]) (own := []) (led := (D, lstX [] 0) :: ch1) (J := ArmJ w σ v me ((a0, w0) :: lv) (vs9 a0 lv σ) ln tm b a D)
    F9 N9 (stays_list F9.keep ⟨_, hl9, rfl, _, rfl⟩) (.inl ⟨_, hl9⟩) ⟨ch1, [], 0, rfl, Nat.le_refl _, fun p hp => Nat.ne_of_lt (l5 p hp), rfl, rfl, rfl, hc1⟩ ?_ ?_
  · intro I h₂ tk₂ i y h tk m₁ led₁ oI hi hP hJ F₁ N₁ hneI R hR
    have hi0 : i = 0 := by simp only [List.size_toArray, List.length_cons, List.length_nil] at hi; lia
    subst hi0
    have hy : y = .ref p9 := by simpa using hP.symm
    subst hy
    refine cps fun k_ => ?_
    obtain ⟨ch2, ys, k, rfl, hys, hneD, hm1, hm2, hm3, hc2⟩ := hJ
    apply k_
    clear k_
    dsimp only at hc2
    have hID : @Ne Nat I D := (hneI (D, lstX ys k) List.mem_cons_self).symm
    have hI2 : ∀ p ∈ ch2, p.1 ≠ I := fun p hp => hneI p (List.mem_cons_of_mem _ hp)
    refine unpackN_ F₁ N₁ ⟨_, F₁.keep _ _ hp9, rfl, _, rfl⟩ rfl rfl rfl ?_
    intro h₃ F₃ N₃
    show wpAny _ _ (assignInOrder [_, _] [_, _]) _ _ _
    refine assignInOrder_cons ?_
    refine wpAny_assign_Name (wpAny_storeName_local rfl F₃.ns (fun h₄ hn₄ hs₄ => ?_) rfl)
    have F₄ := F₃.set hn₄ hs₄
    have N₄ := N₃.set hs₄
    refine assignInOrder_cons ?_
    refine wpAny_assign_Name (wpAny_storeName_local rfl F₄.ns (fun h₅ hn₅ hs₅ => ?_) rfl)
    have F₅ := F₄.set hn₅ hs₅
    have N₅ := N₄.set hs₅
    refine assignInOrder_nil ?_
    (try dsimp only at F₅ N₅)
    replace F₅ := fr_name (fr_name (fr_name F₅ (x := Str.ofString "scope") (v := v) (by rw [if_neg (by decide), if_neg (by decide)]; exact hm1)) (x := Str.ofString "node") (v := .ref a) (by rw [if_neg (by decide), if_neg (by decide), if_neg (by decide)]; exact hm2)) (x := Str.ofString "arms") (v := .ref D) (by rw [if_neg (by decide), if_neg (by decide), if_neg (by decide), if_neg (by decide)]; exact hm3)
    have N₆ : News G L h₅ ((D, lstX ys k) :: (I, oI) :: ch2) := news_sub N₅ fun p hp => by
      simp only [List.mem_cons, List.nil_append] at hp ⊢
      rcases hp with hp | hp | hp <;> simp only [hp, true_or, or_true]
    clear F₁ N₁ F₃ N₃ F₄ N₄ N₅ hn₄ hs₄ hn₅ hs₅ F9 N9
    k_steps
    refine Halt.mk ?_
    refine use (ch := ch2) (rest := [(I, oI), (D, lstX ys k)]) (by assumption) (by assumption) (news_swap N₆) (by assumption) (by assumption) (apart_pair hneD hI2) (by exact rfl) (by exact rfl) hdp hun (by first | exact Nat.lt_succ_self _ | lia) (fun G₂ st₂ z9 => head_at (by lia) (fun G₃ st₃ => hkt G₃ fun b o e => st₃ b o (st₂ b o e)) v ch2 [] [] ((a0, w0) :: lv) ln me σ hc2 hf9 (by simp only [termK, List.length_nil]; lia)) ?_ ?_
    · intro r3 c3 h3 tk3 F3 N3 A3 P3
      refine cps fun k_ => ?_
      obtain ⟨l4, n4, hres4, hc4⟩ := P3
      apply k_
      clear k_
      rw [hv9] at hres4
      obtain ⟨rfl, hres4⟩ := runT'_ok hres4
      rw [List.append_nil] at hc4
      have N3' : News G L h3 ((D, lstX ys k) :: (I, oI) :: c3) := news_sub N3 fun p hp => by
        simp only [List.mem_append, List.mem_cons, List.not_mem_nil, or_false] at hp ⊢
        rcases hp with hp | hp | hp <;> simp only [hp, true_or, or_true]
      have hI3 : ∀ p ∈ c3, p.1 ≠ I := fun p hp => A3 p hp (I, oI) List.mem_cons_self
      have hD3 : ∀ p ∈ c3, p.1 ≠ D := fun p hp => A3 p hp (D, lstX ys k) (List.mem_cons_of_mem _ List.mem_cons_self)
      have hv4 : vs9 n4 ((a0, w0) :: lv) σ = n4 ++ vs9 a0 lv σ := vs9_in _ _ _
      clear A3 N3 N₆ F₅
      k_steps
      refine Halt.mk ?_
      rename News _ _ _ _ => N9
      refine use (ch := c3) (rest := [(I, oI), (D, lstX ys k)]) (by assumption) (by assumption) (news_swap N9) (by assumption) (by assumption) (apart_pair hD3 hI3) (by exact rfl) (by exact rfl) hdp hun (by first | exact Nat.lt_succ_self _ | lia) (fun G₂ st₂ z9 => hkb G₂ st₂ v c3 n4 [] ((a0, w0) :: lv) l4 me σ hc4 hf8 (Nat.zero_le _)) ?_ ?_
      · intro r5 c5 h5 tk5 F5 N5 A5 P5
        refine cps fun k_ => ?_
        obtain ⟨l6, w6, c6, fz6, hres6, hw6, rfl, hc6, ap6, _⟩ := P5
        apply k_
        clear k_
        rw [hv4] at hres6
        obtain ⟨hq6, rfl⟩ := okWith_ok hres6
        have N5' : News G L h5 ((D, lstX ys k) :: (I, oI) :: c6) := news_sub N5 fun p hp => by
          simp only [List.mem_append, List.mem_cons, List.not_mem_nil, or_false] at hp ⊢
          rcases hp with hp | hp | hp <;> simp only [hp, true_or, or_true]
        have hI6 : ∀ p ∈ c6, p.1 ≠ I := fun p hp => A5 p (List.mem_append_left _ hp) (I, oI) List.mem_cons_self
        have hD6 : ∀ p ∈ c6, p.1 ≠ D := fun p hp => A5 p (List.mem_append_left _ hp) (D, lstX ys k) (List.mem_cons_of_mem _ List.mem_cons_self)
        clear A5 N5 N9
        k_steps
        rename_i D7 h7 F7 N7 l7
        refine Halt.mk ?_
        have N8 : News G L h7 ((D, lstX ys k) :: (D7, tupO [r3, r5]) :: (I, oI) :: c6) := news_sub N7 fun p hp => by
          simp only [List.mem_cons] at hp ⊢
          rcases hp with hp | hp | hp | hp <;> simp only [hp, true_or, or_true]
        refine kappend (its := ys.toArray) (n := k) (x := .ref D7) F7 N8 (Upd.head fun p hp => ?_) ?_ (by rw [sizeLine_eq, List.size_toArray]; lia)
        · rcases List.mem_cons.mp hp with rfl | hp
          · exact (Nat.ne_of_lt l7.1).symm
          rcases List.mem_cons.mp hp with rfl | hp
          · exact hID
          · exact hD6 p hp
        intro h8 F8 N10
        simp only [List.push_toArray] at N10
        clear F7 N7 N8
        k_steps
        refine hR _ _ ?_
        dsimp only
        refine ⟨_, (D, lstX (ys ++ [.ref D7]) (k + 1)) :: c6, _, _, rfl, F8, news_sub N10 (fun p hp => by
          simp only [List.nil_append, List.mem_cons] at hp ⊢
          rcases hp with hp | hp | hp <;> first | (simp only [hp, true_or, or_true]; done) | (rw [hp]; exact .inl rfl)), (fun p hp => by
          rcases List.mem_cons.mp hp with rfl | hp
          · exact hID.symm
          · exact hI6 p hp), c6, ys ++ [.ref D7], k + 1, rfl, by rw [List.length_append]; simp only [List.length_cons, List.length_nil]; lia, hD6, rfl, rfl, rfl, n4, l6, hres4, hq6, hc6⟩
      · exact fun e l h' tk' hx9 hex => rai_pass hexc e l h' tk' hx9 (by rw [hv4] at hex; have hex := okWith_err hex; simp only [stmK, okWithS, runI, hres4, hex, okWith])
    · exact fun e l h' tk' hx9 hex => rai_pass hexc e l h' tk' hx9 (by rw [hv9] at hex; have hex := runT'_err hex; simp only [stmK, okWithS, runI, hex, okWith])
  · intro m' led' h' tk' hJ F' N'
    refine cps fun k_ => ?_
    obtain ⟨ch2, ys, k, rfl, hys, hneD, hm1, hm2, hm3, n1, l1, hr1, hr2, hc2⟩ := hJ
    apply k_
    clear k_
    replace F' := fr_name (fr_name (fr_name F' (x := Str.ofString "scope") (v := v) hm1) (x := Str.ofString "node") (v := .ref a) (by rw [if_neg (by decide)]; exact hm2)) (x := Str.ofString "arms") (v := .ref D) (by rw [if_neg (by decide), if_neg (by decide)]; exact hm3)
    replace N' : News G L h' ((D, lstX ys k) :: ch2) := N'
    have hv1 : vs9 n1 ((a0, w0) :: lv) σ = n1 ++ vs9 a0 lv σ := vs9_in _ _ _
    clear F9 N9
    k_steps
    refine Halt.mk ?_
    rename News _ _ _ _ => N9
    refine use (ch := ch2) (rest := [(D, lstX ys k)]) (by assumption) (by assumption) (news_front N9) (by assumption) (by assumption) (apart_snoc hneD) (by exact rfl) (by exact rfl) hdp hun (by first | exact Nat.lt_succ_self _ | lia) (fun G₂ st₂ z9 => hkc G₂ st₂ v ch2 n1 [] ((a0, w0) :: lv) l1 me σ hc2 hf8 (by rw [hko]; exact Nat.zero_le _)) ?_ ?_
    · intro r5 c5 h5 tk5 F5 N5 A5 P5
      refine cps fun k_ => ?_
      obtain ⟨l6, w6, c6, fz6, hres6, hw6, rfl, hc6, ap6, _⟩ := P5
      apply k_
      clear k_
      rw [hv1, hkr] at hres6
      obtain ⟨hq6, rfl⟩ := okWith_ok hres6
      replace N5 : News G L h5 c6 := news_sub N5 fun p hp => List.mem_append_left _ (List.mem_append_left _ hp)
      clear A5 N9
      k_steps
      refine Halt.mk ?_
      rename News _ _ _ _ => N9
      refine useN (ch := c6) (rest := []) (by assumption) (by assumption) (news_nilr N9) (by assumption) (by assumption) apart_nilr (by exact rfl) (by exact rfl) hdp hun (by first | exact Nat.lt_succ_self _ | lia) (fun G₂ st₂ z9 => leave_block hc6 (by simp only [List.length_cons]; lia)) ?_
      intro r7 c7 h7 tk7 F7 N7 A7 hc7
      replace N7 := news_unnil N7
      clear A7 N9
      k_steps
      rename News _ _ _ _ => N9
      exact hret (.ret (.ref _)) c7 _ _ _ (by assumption) (news_sub N9 fun p hp => List.mem_cons_of_mem _ hp) ⟨l6, w0, c7, [], by simp only [stmK, okWithS, runI, hr1, hr2, hq6, okWith], Nat.le_add_right _ _, (List.append_nil _).symm, hc7, apart_nilr, trivial⟩
    · exact fun e l h' tk' hx9 hex => rai_pass hexc e l h' tk' hx9 (by rw [hv1, hkr] at hex; have hex := okWith_err hex; simp only [stmK, okWithS, runI, hr1, hr2, hex, okWith])
end
end
section
variable {w : World} {mean : ExcName → Option Value} {mg mb : Str → Option Value}
theorem partNode_subdef {G : Heap} {a : Addr} {t : Tok} {rest : List Value} {k : KidT} {n : Nat} (ha : G.get? a = some (tupO (.str "subdef" t :: rest))) (h : ∀ G₂, G.StaysIn G₂ → PartAt w mean mg mb G₂ 222 (.ref a) k n) : PartAt w mean mg mb G 284 (.ref a) k (n + 1) := by
  intro v ch a0 w0 lv ln me σ hc hf hb
  have q : ∀ G₃, G.StaysIn G₃ → Triple w mean mg mb G₃ 222 [v, .ref a] (n + σ.length) ch (KPost w σ v me a0 lv k.Rp (w0.length + k.wd) (k.run ln (vs9 a0 lv σ) w0)) (fun e => k.run ln (vs9 a0 lv σ) w0 = .error e) :=
    fun G₃ st₃ => h G₃ st₃ v ch a0 w0 lv ln me σ hc (hf.le (by lia)) hb
  have q2 : Triple w mean mg mb G 284 [v, .ref a] (n + σ.length + 1) ch (KPost w σ v me a0 lv k.Rp (w0.length + k.wd) (k.run ln (vs9 a0 lv σ) w0)) (fun e => k.run ln (vs9 a0 lv σ) w0 = .error e) := node_subdef ha q
  exact @Triple.le _ _ _ _ _ _ _ _ _ _ _ _ (by lia) @q2
theorem partNode_block {G : Heap} {a : Addr} {t : Tok} {rest : List Value} {k : KidT} {n : Nat} (ha : G.get? a = some (tupO (.str "block" t :: rest))) (h : ∀ G₂, G.StaysIn G₂ → PartAt w mean mg mb G₂ 229 (.ref a) k n) : PartAt w mean mg mb G 284 (.ref a) k (n + 1) := by
  intro v ch a0 w0 lv ln me σ hc hf hb
  have q : ∀ G₃, G.StaysIn G₃ → Triple w mean mg mb G₃ 229 [v, .ref a] (n + σ.length) ch (KPost w σ v me a0 lv k.Rp (w0.length + k.wd) (k.run ln (vs9 a0 lv σ) w0)) (fun e => k.run ln (vs9 a0 lv σ) w0 = .error e) :=
    fun G₃ st₃ => h G₃ st₃ v ch a0 w0 lv ln me σ hc (hf.le (by lia)) hb
  have q2 : Triple w mean mg mb G 284 [v, .ref a] (n + σ.length + 1) ch (KPost w σ v me a0 lv k.Rp (w0.length + k.wd) (k.run ln (vs9 a0 lv σ) w0)) (fun e => k.run ln (vs9 a0 lv σ) w0 = .error e) := node_block ha q
  exact @Triple.le _ _ _ _ _ _ _ _ _ _ _ _ (by lia) @q2
theorem partNode_expr {G : Heap} {a : Addr} {t : Tok} {rest : List Value} {k : KidT} {n : Nat} (ha : G.get? a = some (tupO (.str "expr" t :: rest))) (h : ∀ G₂, G.StaysIn G₂ → PartAt w mean mg mb G₂ 236 (.ref a) k n) : PartAt w mean mg mb G 284 (.ref a) k (n + 1) := by
  intro v ch a0 w0 lv ln me σ hc hf hb
  have q : ∀ G₃, G.StaysIn G₃ → Triple w mean mg mb G₃ 236 [v, .ref a] (n + σ.length) ch (KPost w σ v me a0 lv k.Rp (w0.length + k.wd) (k.run ln (vs9 a0 lv σ) w0)) (fun e => k.run ln (vs9 a0 lv σ) w0 = .error e) :=
    fun G₃ st₃ => h G₃ st₃ v ch a0 w0 lv ln me σ hc (hf.le (by lia)) hb
  have q2 : Triple w mean mg mb G 284 [v, .ref a] (n + σ.length + 1) ch (KPost w σ v me a0 lv k.Rp (w0.length + k.wd) (k.run ln (vs9 a0 lv σ) w0)) (fun e => k.run ln (vs9 a0 lv σ) w0 = .error e) := node_expr ha q
  exact @Triple.le _ _ _ _ _ _ _ _ _ _ _ _ (by lia) @q2
theorem partNode_if {G : Heap} {a : Addr} {t : Tok} {rest : List Value} {k : KidT} {n : Nat} (ha : G.get? a = some (tupO (.str "if" t :: rest))) (h : ∀ G₂, G.StaysIn G₂ → PartAt w mean mg mb G₂ 250 (.ref a) k n) : PartAt w mean mg mb G 284 (.ref a) k (n + 1) := by
  intro v ch a0 w0 lv ln me σ hc hf hb
  have q : ∀ G₃, G.StaysIn G₃ → Triple w mean mg mb G₃ 250 [v, .ref a] (n + σ.length) ch (KPost w σ v me a0 lv k.Rp (w0.length + k.wd) (k.run ln (vs9 a0 lv σ) w0)) (fun e => k.run ln (vs9 a0 lv σ) w0 = .error e) :=
    fun G₃ st₃ => h G₃ st₃ v ch a0 w0 lv ln me σ hc (hf.le (by lia)) hb
  have q2 : Triple w mean mg mb G 284 [v, .ref a] (n + σ.length + 1) ch (KPost w σ v me a0 lv k.Rp (w0.length + k.wd) (k.run ln (vs9 a0 lv σ) w0)) (fun e => k.run ln (vs9 a0 lv σ) w0 = .error e) := node_if ha q
  exact @Triple.le _ _ _ _ _ _ _ _ _ _ _ _ (by lia) @q2
theorem partNode_foreach {G : Heap} {a : Addr} {t : Tok} {rest : List Value} {k : KidT} {n : Nat} (ha : G.get? a = some (tupO (.str "foreach" t :: rest))) (h : ∀ G₂, G.StaysIn G₂ → PartAt w mean mg mb G₂ 271 (.ref a) k n) : PartAt w mean mg mb G 284 (.ref a) k (n + 1) := by
  intro v ch a0 w0 lv ln me σ hc hf hb
  have q : ∀ G₃, G.StaysIn G₃ → Triple w mean mg mb G₃ 271 [v, .ref a] (n + σ.length) ch (KPost w σ v me a0 lv k.Rp (w0.length + k.wd) (k.run ln (vs9 a0 lv σ) w0)) (fun e => k.run ln (vs9 a0 lv σ) w0 = .error e) :=
    fun G₃ st₃ => h G₃ st₃ v ch a0 w0 lv ln me σ hc (hf.le (by lia)) hb
  have q2 : Triple w mean mg mb G 284 [v, .ref a] (n + σ.length + 1) ch (KPost w σ v me a0 lv k.Rp (w0.length + k.wd) (k.run ln (vs9 a0 lv σ) w0)) (fun e => k.run ln (vs9 a0 lv σ) w0 = .error e) := node_foreach ha q
  exact @Triple.le _ _ _ _ _ _ _ _ _ _ _ _ (by lia) @q2
theorem resB0 {b : Blk} (h : AllS (fun s => ∀ (G : Heap) (v : Value), StmIs (seeH G) v s → PartAt w mean mg mb G 284 v (stmK s) (htB b + 7)) b) (G : Heap) (v : Value) (hb : BlkIs (seeH G) v b) : PartAt w mean mg mb G 229 v (blkK b) (htB b + 8) := block_at (by lia) h hb
theorem resBp {b : Blk} (h : ∀ (G : Heap) (v : Value), BlkIs (seeH G) v b → PartAt w mean mg mb G 229 v (blkK b) (htB b + 8)) (G : Heap) (v : Value) (hb : BlkIs (seeH G) v b) : PartAt w mean mg mb G 289 v (blkK b) (htB b + 10) := by
  have hb0 := hb
  refine cps fun k_ => ?_
  obtain ⟨a, t, l, n, vs, rfl, ha, _⟩ := hb
  apply k_
  clear k_
  exact PartAt.tup (Nat.le_of_ble_eq_true rfl) ha fun G₂ st => partNode_block (st _ _ ha) fun G₃ st₃ => h G₃ _ (BlkOf.mono (fun b o e => st₃ _ _ (st _ _ e)) (fun z9 h => StmsAre.mono (fun b o e => st₃ _ _ (st _ _ e)) b h) hb0)
theorem BlkIs.up {G G₂ : Heap} {b : Blk} {v : Value} (st : G.StaysIn G₂) (hb : BlkIs (seeH G) v b) : BlkIs (seeH G₂) v b := BlkOf.mono (fun z9 z9 e => st _ _ e) (fun z9 h => StmsAre.mono (fun z9 z9 e => st _ _ e) b h) hb
theorem TermIs.up {G G₂ : Heap} {t : Term} {v : Value} (st : G.StaysIn G₂) (hb : TermIs (seeH G) v t) : TermIs (seeH G₂) v t := TermIs.mono (fun z9 z9 e => st _ _ e) t hb
theorem st_trans {G G₂ G₃ : Heap} (a : G.StaysIn G₂) (b : G₂.StaysIn G₃) : G.StaysIn G₃ := fun x o e => b x o (a x o e)
theorem foldQ_two {a b : Term} {ln : Int} {vis new : Vis} : foldQ [runT' a, runT' b] ln vis new = match runT ln vis new a with
    | .error e => .error e
    | .ok n => runT' b ln vis n := by
  simp only [foldQ, runT']
  cases runT ln vis new a with
  | error e => rfl
  | ok n => dsimp only; cases runT ln vis n b <;> rfl
theorem foldQ_one {r : Run} {ln : Int} {vis new : Vis} : foldQ [r] ln vis new = r ln vis new := by
  simp only [foldQ]; cases r ln vis new with
  | error e => rfl
  | ok p => rfl
mutual
theorem resT : ∀ (t : Term) (G : Heap) (v : Value), TermIs (seeH G) v t → PartAt w mean mg mb G 289 v (termK t) (htT t + 8)
  | .told my sg x, G, v, h => by
    refine cps fun k_ => ?_
    obtain ⟨a, t1, t2, t3, rfl, hsg, hx, ha⟩ := h
    apply k_
    clear k_
    exact PartAt.conv (k := toldK my sg x) (n := 8) (n' := htT (.told my sg x) + 8) (by lia) (fun ln vis new => by simp only [toldK, termK, runT', runT]; split <;> rfl) (Nat.le_refl _) (fun z9 z9 z9 z9 => trivial) (part_told hsg hx ha)
  | .loc p, G, v, h => PartAt.conv (k := locK p) (n := htP p + 11) (n' := htT (.loc p) + 8) (by simp only [htT]; lia) (fun z9 z9 z9 => rfl) (Nat.le_refl _) (fun z9 z9 z9 z9 => trivial) (part_local h)
  | .name x, G, v, h => by
    refine cps fun k_ => ?_
    obtain ⟨a, t1, t2, t3, rfl, hx, ha⟩ := h
    apply k_
    clear k_
    exact PartAt.conv (k := nilK) (n := 8) (n' := htT (.name x) + 8) (by lia) (fun z9 z9 z9 => rfl) (Nat.le_refl _) (fun z9 z9 z9 z9 => trivial) (part_name (by decide : Str.ofString "$" ∈ sigs) hx ha).1
  | .num, G, v, h => by
    refine cps fun k_ => ?_
    obtain ⟨a, t1, t2, rfl, ha⟩ := h
    apply k_
    clear k_
    exact PartAt.conv (k := genK "num" [nilK]) (n := 3) (n' := htT .num + 8) (by lia) (fun z9 z9 z9 => rfl) (Nat.le_refl _) (fun z9 z9 z9 z9 => trivial)
      (PartAt.tup (n := 2) (Nat.le_of_ble_eq_true rfl) ha fun G₄ st₄ => node_gen (n := 1) (ks := [nilK]) (by decide +kernel) (Nat.le_of_ble_eq_true rfl) (st₄ _ _ ha) (.cons (fun z9 z9 => part_nil_int (Nat.le_refl _)) .nil))
  | .assign p q, G, v, h => by
    refine cps fun k_ => ?_
    obtain ⟨a, t, v1, v2, rfl, ha, h1, h2⟩ := h
    apply k_
    clear k_
    have hk : ∀ G₂, G.StaysIn G₂ → Paired (fun v (k : KidT) => ∀ G₃, G₂.StaysIn G₃ → PartAt w mean mg mb G₃ 289 v k (max (htT p) (htT q) + 8)) [v1, v2] [termK p, termK q] := fun G₂ st =>
      .cons (fun G₃ st₃ => PartAt.conv (Nat.add_le_add_right (Nat.le_max_left _ _) _) (fun z9 z9 z9 => rfl) (Nat.le_refl _) (fun z9 z9 z9 h => h) (resT p G₃ v1 (h1.up (st_trans st st₃))))
        (.cons (fun G₃ st₃ => PartAt.conv (Nat.add_le_add_right (Nat.le_max_right _ _) _) (fun z9 z9 z9 => rfl) (Nat.le_refl _) (fun z9 z9 z9 h => h) (resT q G₃ v2 (h2.up (st_trans st st₃)))) .nil)
    refine PartAt.conv (k := genK "assign" [termK p, termK q]) (n := max (htT p) (htT q) + 8 + 1 + 1) (n' := htT (.assign p q) + 8) (by simp only [htT]; lia) (fun ln vis new => ?_) (Nat.le_refl _) (fun vis P r h => trivial) (PartAt.tup (Nat.le_of_ble_eq_true rfl) ha fun G₂ st => node_gen (by decide +kernel) (Nat.le_of_ble_eq_true rfl) (st _ _ ha) (hk G₂ st))
    show foldQ [runT' p, runT' q] ln vis new = runT' (.assign p q) ln vis new
    rw [foldQ_two]
    simp only [runT', runT]
    cases runT ln vis new p <;> rfl
  | .anon b, G, v, h => by
    refine cps fun k_ => ?_
    obtain ⟨a, t, a2, t1, t2, v1, t3, l, n, rfl, ha, ha2, hl, hb⟩ := h
    apply k_
    clear k_
    have hS := resAll b (htB b + 7) (Nat.le_refl _)
    have hk : ∀ G₂, G.StaysIn G₂ → Paired (fun v (k : KidT) => ∀ G₃, G₂.StaysIn G₃ → PartAt w mean mg mb G₃ 289 v k (htB b + 7 + 3 + 1 + 1)) [.ref a2] [anonK b] := fun G₂ st =>
      .cons (fun G₃ st₃ => PartAt.tup (Nat.le_of_ble_eq_true rfl) (st₃ _ _ (st _ _ ha2)) fun G₄ st₄ => partNode_subdef (st₄ _ _ (st₃ _ _ (st _ _ ha2))) fun G₅ st₅ => subdef_at (n := htB b + 7) (n9 := 0) (by lia) (st₅ _ _ (st₄ _ _ (st₃ _ _ (st _ _ ha2)))) hS (BlkIs.up (st_trans st (st_trans st₃ (st_trans st₄ st₅))) hb)) .nil
    refine PartAt.conv (k := genK "anonsub" [anonK b]) (n := htB b + 7 + 3 + 1 + 1 + 1 + 1) (n' := htT (.anon b) + 8) (by simp only [htT]; lia) (fun ln vis new => ?_) (Nat.le_refl _) (fun vis P r h => trivial) (PartAt.tup (Nat.le_of_ble_eq_true rfl) ha fun G₂ st => node_gen (by decide +kernel) (Nat.le_of_ble_eq_true rfl) (st _ _ ha) (hk G₂ st))
    exact foldQ_one
  | .list p q, G, v, h => by
    refine cps fun k_ => ?_
    obtain ⟨a, t, l, n, v1, v2, rfl, ha, hl, h1, h2⟩ := h
    apply k_
    clear k_
    have hk : ∀ G₂, G.StaysIn G₂ → Paired (fun v (k : KidT) => ∀ G₃, G₂.StaysIn G₃ → PartAt w mean mg mb G₃ 289 v k (max (htT p) (htT q) + 8 + 1)) [.ref l] [listK [termK p, termK q]] := fun G₂ st =>
      .cons (fun G₃ st₃ => part_list (n := max (htT p) (htT q) + 8) (Nat.le_of_ble_eq_true rfl) (st₃ _ _ (st _ _ hl))
        (.cons (fun G₄ st₄ => PartAt.conv (Nat.add_le_add_right (Nat.le_max_left _ _) _) (fun z9 z9 z9 => rfl) (Nat.le_refl _) (fun z9 z9 z9 h => h) (resT p G₄ v1 (h1.up (st_trans st (st_trans st₃ st₄)))))
          (.cons (fun G₄ st₄ => PartAt.conv (Nat.add_le_add_right (Nat.le_max_right _ _) _) (fun z9 z9 z9 => rfl) (Nat.le_refl _) (fun z9 z9 z9 h => h) (resT q G₄ v2 (h2.up (st_trans st (st_trans st₃ st₄))))) .nil))) .nil
    refine PartAt.conv (k := genK "list" [listK [termK p, termK q]]) (n := max (htT p) (htT q) + 8 + 1 + 1 + 1) (n' := htT (.list p q) + 8) (by simp only [htT]; lia) (fun ln vis new => ?_) (Nat.le_refl _) (fun vis P r h => trivial) (PartAt.tup (Nat.le_of_ble_eq_true rfl) ha fun G₂ st => node_gen (by decide +kernel) (Nat.le_of_ble_eq_true rfl) (st _ _ ha) (hk G₂ st))
    show foldQ [foldQ [runT' p, runT' q]] ln vis new = runT' (.list p q) ln vis new
    rw [foldQ_one, foldQ_two]
    simp only [runT', runT]
    cases runT ln vis new p <;> rfl
theorem resS : ∀ (s : Stm) (G : Heap) (v : Value), StmIs (seeH G) v s → PartAt w mean mg mb G 284 v (stmK s) (htS s + 8)
  | .ifs t b c, G, v, h => by
    refine cps fun k_ => ?_
    obtain ⟨a, t1, l, n, p, v1, v2, v3, rfl, hw, ha, hl, hp, h1, h2, h3⟩ := h
    apply k_
    clear k_
    have hb := resB0 (resAll b (htB b + 7) (Nat.le_refl _))
    have hc := resBp (resB0 (resAll c (htB c + 7) (Nat.le_refl _)))
    exact PartAt.conv (k := stmK (.ifs t b c)) (n := max (htT t) (max (htB b) (htB c)) + 9 + 2 + 1) (n' := htS (.ifs t b c) + 8) (by simp only [htS]; lia) (fun z9 z9 z9 => rfl) (Nat.le_refl _) (fun z9 z9 z9 z9 => trivial)
      (partNode_if ha fun G₂ st => if_at (n := max (htT t) (max (htB b) (htB c)) + 9) (ko := blkK c) (by lia) (st _ _ ha) (st _ _ hl) (st _ _ hp) hw rfl (fun z9 z9 z9 => rfl)
        (fun G₃ st₃ => PartAt.conv (n := htT t + 8) (by lia) (fun z9 z9 z9 => rfl) (Nat.le_refl _) (fun z9 z9 z9 h => h) (resT t G₃ v1 (h1.up (st_trans st st₃))))
        (fun G₃ st₃ => PartAt.conv (n := htB b + 8) (by lia) (fun z9 z9 z9 => rfl) (Nat.le_refl _) (fun z9 z9 z9 h => h) (hb G₃ v2 (BlkIs.up (st_trans st st₃) h2)))
        (fun G₃ st₃ => PartAt.conv (n := htB c + 10) (by lia) (fun z9 z9 z9 => rfl) (Nat.le_refl _) (fun z9 z9 z9 h => h) (hc G₃ v3 (BlkIs.up (st_trans st st₃) h3))))
  | .foreach x i b, G, v, h => by
    refine cps fun k_ => ?_
    obtain ⟨a, t1, t2, v1, a2, t3, l, n, v2, v3, rfl, hw, ha, ha2, hl, h1, h2, h3⟩ := h
    apply k_
    clear k_
    have hb := resB0 (resAll b (htB b + 7) (Nat.le_refl _))
    have hi : ∀ G₂, G.StaysIn G₂ → PartAt w mean mg mb G₂ 289 (.ref a2) (genK "list" [listK [termK i]]) (htT i + 8 + 1 + 1 + 1) := fun G₂ st =>
      PartAt.tup (Nat.le_of_ble_eq_true rfl) (st _ _ ha2) fun G₃ st₃ => node_gen (by decide +kernel) (Nat.le_of_ble_eq_true rfl) (st₃ _ _ (st _ _ ha2)) (.cons (fun G₄ st₄ => part_list (n := htT i + 8) (Nat.le_of_ble_eq_true rfl) (st₄ _ _ (st₃ _ _ (st _ _ hl))) (.cons (fun G₅ st₅ => resT i G₅ v2 (h2.up (st_trans st (st_trans st₃ (st_trans st₄ st₅))))) .nil)) .nil)
    exact PartAt.conv (k := stmK (.foreach x i b)) (n := max (htT x) (max (htT i) (htB b)) + 11 + 2 + 1) (n' := htS (.foreach x i b) + 8) (by simp only [htS]; lia) (fun z9 z9 z9 => rfl) (Nat.le_refl _) (fun z9 z9 z9 z9 => trivial)
      (partNode_foreach ha fun G₂ st => foreach_at (n := max (htT x) (max (htT i) (htB b)) + 11) (ki := genK "list" [listK [termK i]]) (by lia) (st _ _ ha) hw rfl (fun ln vis new => by show foldQ [foldQ [runT' i]] ln vis new = _; rw [foldQ_one, foldQ_one])
        (fun G₃ st₃ => PartAt.conv (n := htT x + 8) (by lia) (fun z9 z9 z9 => rfl) (Nat.le_refl _) (fun z9 z9 z9 h => h) (resT x G₃ v1 (h1.up (st_trans st st₃))))
        (fun G₃ st₃ => PartAt.conv (n := htT i + 8 + 1 + 1 + 1) (by lia) (fun z9 z9 z9 => rfl) (Nat.le_refl _) (fun z9 z9 z9 h => h) (hi G₃ (st_trans st st₃)))
        (fun G₃ st₃ => PartAt.conv (n := htB b + 8) (by lia) (fun z9 z9 z9 => rfl) (Nat.le_refl _) (fun z9 z9 z9 h => h) (hb G₃ v3 (BlkIs.up (st_trans st st₃) h3))))
  | .bare b, G, v, h => by
    refine cps fun k_ => ?_
    obtain ⟨a, t1, t2, v1, rfl, ha, hb⟩ := h
    apply k_
    clear k_
    have hk := resBp (resB0 (resAll b (htB b + 7) (Nat.le_refl _)))
    refine PartAt.conv (k := genK "bare" [nilK, blkK b]) (n := htB b + 10 + 1) (n' := htS (.bare b) + 8) (by simp only [htS]; lia) (fun ln vis new => ?_) (Nat.le_of_ble_eq_true rfl) (fun z9 z9 z9 z9 => trivial)
      (node_gen (by decide +kernel) (Nat.le_of_ble_eq_true rfl) ha (.cons (fun z9 z9 => part_nil_str (by lia)) (.cons (fun G₃ st₃ => hk G₃ v1 (BlkIs.up st₃ hb)) .nil)))
    exact foldQ_one
  | .expr l t, G, v, h => by
    refine cps fun k_ => ?_
    obtain ⟨a, t1, t2, v1, rfl, hl, hw, ha, h1⟩ := h
    apply k_
    clear k_
    exact PartAt.conv (k := stmK (.expr l t)) (n := htT t + 8 + 1 + 1) (n' := htS (.expr l t) + 8) (by simp only [htS]; lia) (fun z9 z9 z9 => rfl) (Nat.le_refl _) (fun z9 z9 z9 z9 => trivial)
      (partNode_expr ha fun G₂ st => expr_at (st _ _ ha) hw fun G₃ st₃ => resT t G₃ v1 (h1.up (st_trans st st₃)))
theorem resAll : ∀ (b : Blk) (n : Nat), htB b + 7 ≤ n → AllS (fun s => ∀ (G : Heap) (v : Value), StmIs (seeH G) v s → PartAt w mean mg mb G 284 v (stmK s) n) b
  | .nil, _, _ => trivial
  | .cons s b, n, h => ⟨fun G v hs => PartAt.conv (n := htS s + 8) (n' := n) (by simp only [htB] at h; lia) (fun z9 z9 z9 => rfl) (Nat.le_refl _) (fun z9 z9 z9 h => h) (resS s G v hs), resAll b n (by simp only [htB] at h; lia)⟩
end
end
inductive ProgP (b : Blk) (res : Except Int Int) (r : Value) (ch' : Led) : Prop
  | mk (l' : _) (r0 : _) (t : _) (sz : _) (rb : _) (h1_ : res = .ok l') (h2_ : r = .ref r0) (h3_ : (r0, tupO [.str "program" t, rb, sz]) ∈ ch') (h4_ : BlkR b (seeL ch') rb) : ProgP b res r ch'
section
variable {w : World} {mean : ExcName → Option Value} {mg mb : Str → Option Value}
theorem prog_ok {G : Heap} {a : Addr} {t1 t2 : Tok} {v1 : Value} {b : Blk} (hh : htB b ≤ 800) (ha : G.get? a = some (tupO [.str "program" t1, v1, .int 0 t2])) (hb : BlkIs (seeH G) v1 b) :
    Triple w mean mg mb G 296 [.ref a] (htB b + 10) [] (ProgP b (runB 0 [] b)) (fun e => runB 0 [] b = .error e) := by
  have hT : IsTup G a (List.toArray [.str "program" t1, v1, .int 0 t2]) := tup_of ha
  have hc0 : Chain w [] .none [] := ⟨⟨rfl, rfl⟩, ND.nil⟩
  show Triple _ _ _ _ _ _ _ _ _ _ _
  refine' enter (binds := [("tree", .ref a)]) ?k6 ?k7 ?k9 ?kB ?_ ?kn ?c5 ?c2 ?c3 ?c4
  case k6 => k_is
  case k7 => k_is
  case k9 => exact rfl
  case kB => exact locs rfl
  case kn => first | lia | (simp only [htP, htT, htS, htB]; lia)
  case c5 => decide
  case c2 => exact rfl
  case c3 => exact rfl
  case c4 => exact rfl
  k_whole
  intro dp un gd frs base A₀ s L h₁ tk₁ Qb Eb B X T hdp hun F N hlt hret hexc hown
  (try dsimp only at F)
  k_steps
  refine Halt.mk ?_
  rename News _ _ _ _ => N9
  rename Fr _ _ _ _ => F9
  rename (_ == sysModules) = false => hlo
  rename Obj.IsDictOf (PySem.strKind PG w) _ _ => hd9
  rename @LT.lt Nat _ _ _ ∧ @LT.lt Nat _ _ _ ∧ @LT.lt Nat _ _ _ ∧ @LT.lt Nat _ _ _ ∧ @LT.lt Nat _ _ _ ∧ @LT.lt Nat _ _ _ => l9
  rename @LT.lt Nat _ _ _ ∧ @LT.lt Nat _ _ _ ∧ @LT.lt Nat _ _ _ ∧ @LT.lt Nat _ _ _ ∧ @LT.lt Nat _ _ _ => l8
  rename @LT.lt Nat _ _ _ ∧ @LT.lt Nat _ _ _ ∧ @LT.lt Nat _ _ _ ∧ @LT.lt Nat _ _ _ => l7
  rename @LT.lt Nat _ _ _ ∧ @LT.lt Nat _ _ _ ∧ @LT.lt Nat _ _ _ => l6
  rename @LT.lt Nat _ _ _ ∧ @LT.lt Nat _ _ _ => l5
  rename @LT.lt Nat _ _ _ => l3
  refine cps fun k_ => ?_
  obtain ⟨ch2, N2, hc2⟩ := new_news (ln := 0) hc0 N9 hd9 hlo (fun z9 h => nomatch h) l3 l5.1 l6.1 l7.1 l8.1 l9.1
  apply k_
  clear k_
  refine use (ch := ch2) (rest := []) (by assumption) F9 (news_nilr N2) (by assumption) (by assumption) apart_nilr (by exact rfl) (by exact rfl) hdp hun (by simp only [List.length_nil]; lia)
    (fun G₂ st₂ z9 => block_any (n := htB b + 7) (by lia) (resAll b _ (Nat.le_refl _)) (BlkIs.up st₂ hb) _ ch2 [] 0 _ _ hc2 ⟨by simp only [List.length_nil]; lia, fun z9 h => nomatch h⟩) ?_ ?_
  · intro r' ch' h' tk' F' N' A' P'
    refine cps fun k_ => ?_
    obtain ⟨l', c', fz, hres, rfl, hc3, ap, hbr⟩ := P'
    apply k_
    clear k_
    have hrun : runB 0 [] b = .ok l' := hres
    replace N' := news_unnil N'
    clear A' N9 N2 l9 l8 l7 l6 l5 l3
    refine cps fun k_ => ?_
    obtain ⟨⟨x8, dx8, bl8, wt8, cp8, t8, vo8, bs8, ws8, caps8, m1, m2, m3, kv0, B9, W9, R9, hxe, rfl, hB, hW, hR, hme8⟩, nd8⟩ := hc3
    apply k_
    clear k_
    cases hxe
    replace N' : News G L h' (scLed w _ dx8 bl8 wt8 cp8 t8 vo8 (l', _) bs8 ws8 caps8 m1 m2 m3 (B9 ++ (W9 ++ R9) ++ fz)) := N'
    k_steps
    rename News _ _ _ _ => N8
    exact hret (.ret (.ref _)) _ _ _ _ (by assumption) N8 ⟨l', _, _, _, _, hrun, rfl, List.mem_cons_self, (let ⟨ba, bt, bl2, bn, bys, be, b1, b2, b3⟩ := hbr; ⟨ba, bt, bl2, bn, bys, be, by simp only [seeL, List.mem_cons, List.mem_append] at b1 ⊢; simp only [b1, true_or, or_true], by simp only [seeL, List.mem_cons, List.mem_append] at b2 ⊢; simp only [b2, true_or, or_true], b3⟩)⟩
  · exact fun e l h' tk' hx9 hex => rai_pass hexc e l h' tk' hx9 hex
end
end
open Builtin Builtin.ObjectAttr
theorem lk_exc_gax : typeLookup (.type "Exception") "__getattr__" = pure none := by rw [typeLookup_type, builtinLookup_eq_fast]; kernel_rfl
theorem lk_exc_ga : typeLookup (.type "Exception") "__getattribute__" = pure (some (.builtin "BaseException.__getattribute__")) := by rw [typeLookup_type, builtinLookup_eq_fast]; kernel_rfl
theorem ga_slot : Slot "Exception" "__getattribute__" "BaseException.__getattribute__" := PySem.F.attr_Exception.ga
theorem two_clsX {w : World} {G : Heap} (X : (hd.heap_39 w.params).In G) : ∃ mN mD, TwoCls G 51 31 mN mD ∧ mN "line" = none ∧ mD "line" = none ∧ mN "__getattribute__" = none ∧ mD "__getattribute__" = none ∧ mN "__getattr__" = none ∧ mD "__getattr__" = none := by
  have h51 : (hd.heap_39 w.params).lookup 51 = some (excClassObj "SyntaxDie" "SyntaxDie" 51 50 [.ref 31] (.ref 31 :: excMro) true [] [] false none none (some (.ref 35)) none (some (.str "SyntaxDie" 218)) (some (.str "SyntaxDie" 226)) (some (.bool true)) "Exception.__new__") := by k_is
  have o50 : nsOkIn (hd.heap_39 w.params) 50 = true := ns_ok ⟨_, _, _, _, _, by k_is, rfl⟩
  have o30 : nsOkIn (hd.heap_39 w.params) 30 = true := ns_ok ⟨_, _, _, _, _, by k_is, rfl⟩
  have n50 := Heap.Ns.of_isNs (isNs_of_in X o50)
  have n30 := Heap.Ns.of_isNs (isNs_of_in X o30)
  refine ⟨_, _, ⟨⟨_, _, _, _, _, _, _, _, _, _, _, _, _, _, X _ _ h51, n50⟩, ?_⟩, ns_at X n50 (by k_is), ns_at X n30 (by k_is), ns_at X n50 (by k_is), ns_at X n30 (by k_is), ns_at X n50 (by k_is), ns_at X n30 (by k_is)⟩
  have h31 : ∃ c0 dd cd sl, (hd.heap_39 w.params).lookup 31 = some { cls := c0, dict := dd, data := .cls cd, slots := sl } ∧ cd.ns = 30 := ⟨_, _, _, _, by k_is, rfl⟩
  refine cps fun k_ => ?_
  obtain ⟨c0, dd, cd, sl, h31, hns⟩ := h31
  apply k_
  clear k_
  exact ⟨c0, dd, cd, sl, X _ _ h31, by rw [hns]; exact n30⟩
section
variable {prog : Program} {w : World} {A : Around} {E : Value → Shared → Prop} {h : Heap} {g : Array GenState} {d : Drawn} {t : Nat} {os : OsState}
variable {C D x dx : Addr} {mN mD mA : Str → Option Value} {name : Str} {v : Value} {o : Obj} {vs : Array Value}
theorem xl_check {M : Model} {nameV : Value} {Q : Unit → Shared → Prop} (X : TwoCls h C D mN mD) (hx : h.get? x = some o) (hc : o.cls = .ref C) (hq : Q () ⟨h, g, d, t, os⟩) : wpAny M A (checkBuiltinCall "BaseException.__getattribute__" ⟨[.ref x, nameV], []⟩) Q E ⟨h, g, d, t, os⟩ := by
  refine cps fun k_ => ?_
  obtain ⟨⟨nm, q, N, bs, sn, sub, ab, col, dd, k0, k1, k2, k3, k5, hC, hn⟩, _⟩ := X
  apply k_
  clear k_
  have hk : builtinKind "BaseException.__getattribute__" = some .slot := by decide +kernel
  have hsplit : splitId "BaseException.__getattribute__" = some ("BaseException", "__getattribute__") := by decide +kernel
  have hcB : (Value.ref C :: .ref D :: excMro).contains (.type "BaseException") = true := rfl
  have ha := F.args_bexc_ga (.ref x) nameV
  simp only [checkBuiltinCall, hk, hsplit]
  refine wpAny_bind ?_
  · unfold isInstance
    repeat (first | (with_reducible refine wpAny_loadPart_at hx ?_; rw [hc]) | (with_reducible refine wpAny_isSubtype_exc hC ?_; rw [hcB]) | wp_step)
    exact hq
theorem xl_entry {tk : Tok} {Q : Fin → Shared → Prop} (X : TwoCls h C D mN mD) (h1 : mN name = none) (h2 : mD name = none) (hB : typeLookup (.type "Exception") name = pure none)
    (hx : h.get? x = some o) (hc : o.cls = .ref C) (hd : o.data = .fields vs) (hdx : o.dict = some dx) (hns : h.Ns dx mA) (hv : mA name = some v) (hq : Q (.done (.ret v)) ⟨h, g, d, t, os⟩) :
    wpAny (model prog w) A (Builtin.«object.__getattribute__» ⟨[.ref x, .str name tk], []⟩) Q E ⟨h, g, d, t, os⟩ := by
  have X' := X
  refine cps fun k_ => ?_
  obtain ⟨⟨nm, q, N, bs, sn, sub, ab, col, dd, k0, k1, k2, k3, k5, hC, hn⟩, _⟩ := X'
  apply k_
  clear k_
  unfold Builtin.«object.__getattribute__»
  repeat (first | (with_reducible refine wpAny_loadPart_at hx ?_; rw [hc]) | (with_reducible refine xl_lookup X h1 h2 hB ?_) | wp_step)
  rw [hd]
  unfold instanceDict
  repeat (first | (with_reducible refine wpAny_loadPart_at hx ?_; rw [hc]) | with_reducible refine wpAny_loadPart_at hC ?_ | wp_step)
  rw [hdx]
  repeat (first | (with_reducible refine wpAny_nsGet hns ?_; rw [hv]) | wp_step)
  exact hq
theorem xl_call {tk : Tok} {R : Result → Shared → Prop} (X : TwoCls h C D mN mD) (h1 : mN name = none) (h2 : mD name = none) (hB : typeLookup (.type "Exception") name = pure none)
    (hx : h.get? x = some o) (hc : o.cls = .ref C) (hd : o.data = .fields vs) (hdx : o.dict = some dx) (hns : h.Ns dx mA) (hv : mA name = some v) (hq : R (.ok (.ret v)) ⟨h, g, d, t, os⟩) :
    codeAny (model prog w) A (.call (.builtin "BaseException.__getattribute__") ⟨[.ref x, .str name tk], []⟩) R ⟨h, g, d, t, os⟩ :=
  codeAny_call_builtin ga_slot.plain F.entry_bexc_ga (xl_check X hx hc (xl_entry X h1 h2 hB hx hc hd hdx hns hv hq))
theorem xl_by {tk : Tok} {fill expr : Bool} {Q : Value → Shared → Prop} (X : TwoCls h C D mN mD) (g1 : mN "__getattribute__" = none) (g2 : mD "__getattribute__" = none) (e1 : mN "__getattr__" = none) (e2 : mD "__getattr__" = none) (h1 : mN name = none) (h2 : mD name = none) (hB : typeLookup (.type "Exception") name = pure none)
    (hx : h.get? x = some o) (hc : o.cls = .ref C) (hd : o.data = .fields vs) (hdx : o.dict = some dx) (hns : h.Ns dx mA) (hv : mA name = some v) (hh : handedOut v = pure v) (hq : Q v ⟨h, g, d, t, os⟩) :
    wpAny (model prog w) A (getAttrBy (.ref x) (.str name tk) fill expr) Q E ⟨h, g, d, t, os⟩ := by
  have f3 := ga_slot.bind (.ref x)
  have hx0 : (expr && onTheHeap (Value.builtin "BaseException.__getattribute__")) = false := by cases expr <;> rfl
  have hx2 : (Value.builtin "BaseException.__getattribute__" == Value.builtin "object.__getattribute__") = false := by decide +kernel
  have hx1 : (onTheHeap (Value.ref C) && Value.builtin "BaseException.__getattribute__" == Value.builtin "object.__getattribute__") = false := by rw [hx2]; rfl
  repeat (any_goals (first | assumption | (with_reducible refine wpAny_loadPart_at hx ?_; rw [hc]) | (with_reducible refine xl_lookup X g1 g2 ga_slot.lookup ?_) | (with_reducible refine xl_lookup X e1 e2 lk_exc_gax ?_) | wp_step))
  refine xl_call X h1 h2 hB hx hc hd hdx hns hv ?_
  repeat (any_goals (first | assumption | rw [hh] | wp_step))
theorem xl_load {expr : Bool} {Q : Value → Shared → Prop} (X : TwoCls h C D mN mD) (g1 : mN "__getattribute__" = none) (g2 : mD "__getattribute__" = none) (e1 : mN "__getattr__" = none) (e2 : mD "__getattr__" = none) (h1 : mN name = none) (h2 : mD name = none) (hB : typeLookup (.type "Exception") name = pure none)
    (hx : h.get? x = some o) (hc : o.cls = .ref C) (hd : o.data = .fields vs) (hdx : o.dict = some dx) (hns : h.Ns dx mA) (hv : mA name = some v) (hh : handedOut v = pure v) (hq : Q v ⟨h, g, d, t + 1, os⟩) :
    wpAny (model prog w) A (getAttr (.ref x) name expr) Q E ⟨h, g, d, t, os⟩ := by
  unfold getAttr
  repeat (any_goals (first | assumption | with_reducible apply xl_by X g1 g2 e1 e2 h1 h2 hB hx hc hd hdx hns hv hh | wp_step))
end
section
local macro_rules | `(tactic| tb_start) => `(tactic| first | exact Apart.nil | with_reducible assumption | exact apart_drop3 (by k_memK) | exact apart_drop2 (by k_memK) | exact apart_drop1 (by k_memK) | exact Apart.cons (by tb_start) (by tb_rel))
local macro_rules | `(tactic| walk_at "call ref") => `(tactic| (k_here; k_dflt (refine throw_use (by assumption) (by assumption) (by kd_p1) (by assumption) (by assumption) (by tb_start) (by exact rfl) (by exact rfl) (by assumption) (by assumption) (by first | exact Nat.lt_succ_self _ | lia) (by k_memK) (by lia) (by lia) (by lia) (by lia) ?_; intro ch' h' tk' F' N' Ap' v' tk'' lo' hi' hb'; (try k_sweep))))
local macro_rules | `(tactic| walk_at "binaryOp Add ref ref") => `(tactic| (refine Halt.out ?_))
local macro_rules | `(tactic| walk_at "exec Try") => `(tactic| (refine Halt.out ?_))
local macro_rules | `(tactic| walk_at "eval Dict") => `(tactic| (refine Halt.out ?_))
theorem bowl_new {w : World} {b cc : Addr} {ob : Obj} {ws : List Value} {ns : List Int} {tk1 tk2 : Tok} (hlt : @LT.lt Nat _ b cc) (hlo : (b == sysModules) = false) (hI : IntsAre ws (List.take 60 ns)) (hd : ob.IsDictOf (strKind PG w) [("cells", .ref cc), ("thrown", .int 0 tk1), ("left", .int 24 tk2)]) :
    BowlIs w b [(b, ob), (cc, lstO ws 0)] 0 24 :=
  ⟨cc, ob, ws, _, tk1, tk2, rfl, Nat.ne_of_lt hlt, hlo, hI, hd, by rw [hI.length, List.length_take]; lia⟩
theorem law_start {G h : Heap} {L b cc x : Addr} {ob oc o : Obj} (N : News G L h [(cc, oc), (b, ob), (x, o)]) (h1 : @LT.lt Nat _ x b) (h2 : @LT.lt Nat _ x cc) : News G L h ([(b, ob), (cc, oc)] ++ [(x, o)]) ∧ Apart [(b, ob), (cc, oc)] [(x, o)] := by
  refine ⟨news_sub N fun p hp => ?_, fun p hp q hq => ?_⟩
  · simp only [List.mem_append, List.mem_cons, List.not_mem_nil, or_false] at hp ⊢
    rcases hp with (hp | hp) | hp
    · exact .inr (.inl hp)
    · exact .inl hp
    · exact .inr (.inr hp)
  · rw [List.mem_singleton.mp hq]
    rcases List.mem_cons.mp hp with rfl | hp
    · exact (Nat.ne_of_lt h1).symm
    · rw [List.mem_singleton.mp hp]; exact (Nat.ne_of_lt h2).symm
theorem first_is {P : See} {Df Dl Dex Dnum : Addr} {ys : List Value} {bl : Blk} {ta tb tc td te : Tok} {n : Nat} (h1 : P Df (tupO [.str "block" ta, .ref Dl])) (h2 : P Dl (lstO (.ref Dex :: ys) n)) (h3 : P Dex (tupO [.str "expr" tb, .int 90 tc, .ref Dnum])) (h4 : P Dnum (tupO [.str "num" td, .int 1 te])) (h5 : StmsAre P ys bl) (h6 : ys.length ≤ 7) :
    BlkIs P (.ref Df) (.cons (.expr 90 .num) bl) :=
  ⟨Df, ta, Dl, n, .ref Dex :: ys, rfl, h1, h2, by simp only [List.length_cons]; lia, .ref Dex, ys, rfl, ⟨Dex, tb, tc, .ref Dnum, rfl, by decide, by decide, h3, Dnum, td, te, rfl, h4⟩, h5⟩
theorem law_first {G h : Heap} {L Ds Dh Df Dl lst Dex Dnum Dbk D : Addr} {os oh o3 o4 o5 : Obj} {ys : List Value} {bl : Blk} {ta tb tc td te : Tok} {rs : Led} {n : Nat}
    (N : News G L h ((Ds, os) :: (Dh, oh) :: (Df, tupO [.str "block" ta, .ref Dl]) :: (Dl, lstO (.ref Dex :: ys) n) :: (lst, o3) :: (Dex, tupO [.str "expr" tb, .int 90 tc, .ref Dnum]) :: (Dnum, tupO [.str "num" td, .int 1 te]) :: (Dbk, o4) :: (D, o5) :: rs)) (h5 : StmsAre (seeL rs) ys bl) (h6 : ys.length ≤ 7)
    (l1 : AllLt Ds ((Dh, oh) :: (Df, tupO [.str "block" ta, .ref Dl]) :: (Dl, lstO (.ref Dex :: ys) n) :: (lst, o3) :: (Dex, tupO [.str "expr" tb, .int 90 tc, .ref Dnum]) :: (Dnum, tupO [.str "num" td, .int 1 te]) :: (Dbk, o4) :: (D, o5) :: rs))
    (l2 : AllLt Dh ((Df, tupO [.str "block" ta, .ref Dl]) :: (Dl, lstO (.ref Dex :: ys) n) :: (lst, o3) :: (Dex, tupO [.str "expr" tb, .int 90 tc, .ref Dnum]) :: (Dnum, tupO [.str "num" td, .int 1 te]) :: (Dbk, o4) :: (D, o5) :: rs)) :
    ∃ FZ, News G L h ((Dh, oh) :: (Ds, os) :: FZ) ∧ BlkIs (seeL FZ) (.ref Df) (.cons (.expr 90 .num) bl) ∧ (Df, tupO [.str "block" ta, .ref Dl]) ∈ FZ ∧ (Dl, lstO (.ref Dex :: ys) n) ∈ FZ ∧ Apart [(Dh, oh)] ((Ds, os) :: FZ) := by
  refine ⟨(Df, tupO [.str "block" ta, .ref Dl]) :: (Dl, lstO (.ref Dex :: ys) n) :: (lst, o3) :: (Dex, tupO [.str "expr" tb, .int 90 tc, .ref Dnum]) :: (Dnum, tupO [.str "num" td, .int 1 te]) :: (Dbk, o4) :: (D, o5) :: rs, news_sub N fun p hp => ?_, first_is (Dl := Dl) (Dex := Dex) (Dnum := Dnum) (n := n) (ta := ta) (tb := tb) (tc := tc) (td := td) (te := te) ?_ ?_ ?_ ?_ (StmsAre.mono (fun a o hm => ?_) bl h5) h6, List.mem_cons_self, List.mem_cons_of_mem _ List.mem_cons_self, fun p hp q hq => ?_⟩
  · rcases List.mem_cons.mp hp with hp | hp
    · exact List.mem_cons_of_mem _ (hp ▸ List.mem_cons_self)
    · rcases List.mem_cons.mp hp with hp | hp
      · exact hp ▸ List.mem_cons_self
      · exact List.mem_cons_of_mem _ (List.mem_cons_of_mem _ hp)
  · exact List.mem_cons_self
  · exact List.mem_cons_of_mem _ List.mem_cons_self
  · exact List.mem_cons_of_mem _ (List.mem_cons_of_mem _ (List.mem_cons_of_mem _ List.mem_cons_self))
  · exact List.mem_cons_of_mem _ (List.mem_cons_of_mem _ (List.mem_cons_of_mem _ (List.mem_cons_of_mem _ List.mem_cons_self)))
  · exact List.mem_cons_of_mem _ (List.mem_cons_of_mem _ (List.mem_cons_of_mem _ (List.mem_cons_of_mem _ (List.mem_cons_of_mem _ (List.mem_cons_of_mem _ (List.mem_cons_of_mem _ hm))))))
  · rw [List.mem_singleton.mp hp]
    rcases List.mem_cons.mp hq with rfl | hq
    · exact Nat.ne_of_lt l1.1
    · exact (Nat.ne_of_lt (allLt_mem l2 q hq)).symm
theorem pos_first {P : See} {ys : List Value} {bl : Blk} (h : StmsAre P ys bl) : ∀ e, runB 0 [] (.cons (.expr 90 .num) bl) = .error e → 1 ≤ e := by
  intro e he
  simp only [runB, runS, runT] at he
  exact (posB (ln := 90) (by decide) bl (StmsAre.lin bl h)).1 e he
section
variable {w : World} {mean : ExcName → Option Value} {mg mb : Str → Option Value}
def Triple0 (w : World) (mean : ExcName → Option Value) (mg mb : Str → Option Value) (G : Heap) (f : Addr) (vs : List Value) (n : Nat) (ch : Led) (Post : Value → Led → Prop) (Ex : Int → Prop) : Prop :=
  ∀ {dp un : Nat} {gd : Option (List Code)} {A₀ : Around} {s : Shared} {Q E : Value → Shared → Prop},
    Below A₀ G [] G → (hd.heap_39 w.params).In G → Top hd.view_39 LO mean mg mb G → dp + n < recursionLimit → un + 8 * n < cLine →
    G.StaysIn s.heap → G.objs.size ≤ s.heap.objs.size → Own G s.heap ch →
    (∀ r ch' h' tk', G.StaysIn h' → Own G h' ch' → Post r ch' → Q r { s with heap := h', toks := tk' }) →
    (∀ e ln h' tk', Exn G [] G e ln h' → G.UpToSlots h' → Ex ln → E (.ref e) { s with heap := h', toks := tk' }) →
    wpAny (model PG w) (arn dp un gd []) (call (.ref f) vs) Q E s
theorem enterC0 {G : Heap} {f : Addr} {vs : List Value} {n : Nat} {ch : Led} {Post : Value → Led → Prop} {Ex : Int → Prop}
    {name qual : Str} {params : Arguments} {body : List Stmt} {scope : Scope} {dV kV doc pm cdv ct oc : Value} {an od : Option Addr} {osl : Array (Option Value)} {binds : List (Str × Value)}
    (ho : (hd.heap_39 w.params).lookup f = some ⟨oc, od, .func (fnOf name qual params body scope dV kV doc pm an cdv ct), osl⟩) (hcd : codeIn (hd.heap_39 w.params) cdv qual = true)
    (hbind : bindArgs (fnOf name qual params body scope dV kV doc pm an cdv ct) ⟨vs, []⟩ = pure binds)
    (hkind : (binds.all fun y => scope.names.lookup y.1 == some .local || scope.names.lookup y.1 == some .cell) = true)
    (hnd : ((cellsFrom 0 scope.names []).map (·.1)).Nodup)
    (h : ∀ (dp un : Nat) (gd : Option (List Code)) (A₀ : Around) (s : Shared) (L : Addr) (h₁ : Heap) (tk₁ : Nat) (cells : Led) (Qb : Flow → Shared → Prop) (Eb : Value → Shared → Prop),
      Below A₀ G [] G → (hd.heap_39 w.params).In G → Top hd.view_39 LO mean mg mb G → dp + n ≤ recursionLimit → un + 8 * n ≤ cLine + 3 →
      Fr G L h₁ (bindL (envOfC qual scope L f cdv).kindOf binds fun z9 => none) → News G L h₁ (ch ++ cells) → (∀ p ∈ ch, p.1 < L) →
      CellsAre (bindC (envOfC qual scope L f cdv).kindOf binds fun z9 => none) (cellsFrom (L + 1) scope.names []) cells → Apart ch cells →
      Ret s G L Post Qb → Rai s G G L (envOfC qual scope L f cdv :: []) Ex Eb →
      PassesOwn (model PG w) (arn dp un gd (envOfC qual scope L f cdv :: [])) (envOfC qual scope L f cdv) Eb →
      wpAny (model PG w) (arn dp un gd (envOfC qual scope L f cdv :: [])) (execs body (envOfC qual scope L f cdv)) Qb Eb { s with heap := h₁, toks := tk₁ })
    (hn : 1 ≤ n)
    (hco : scope.isCoroutine = false) (hgen : scope.isGenerator = false) (hk : scope.kind = .function) :
    Triple0 w mean mg mb G f vs n ch Post Ex := by
  intro dp un gd A₀ s Q E B X T hdp hun hst hsz hown hret hexc
  refine wpAny_call ?_
  refine codeAny_call_function (fd := fnOf name qual params body scope dV kV doc pm an cdv ct) (show dp < recursionLimit by lia) (hst _ _ (X _ _ ho)) rfl hco hgen rfl (codeRec_of (X.keeps hst) hcd) (BindsTo.of_eq hbind _ _ _ _ ?_)
  refine wpAny_newFunctionEnv_cells hk (kindsX hkind _) fun env' he s' x => ?_
  subst he
  refine ⟨(T.nolimit.keeps hst).keeps x.toInCall.keep, codeAny_func ?_⟩
  refine cps fun k_ => ?_
  obtain ⟨h₁, tk, rfl, _⟩ := x.done
  apply k_
  clear k_
  have hk₁ := x.toInCall.keep
  have hlt : ∀ p ∈ ch, p.1 < s.heap.objs.size := fun p hp => Heap.lt_size (hown p hp).1
  refine cps fun k_ => ?_
  obtain ⟨cells, NC, Y⟩ := Cl.news (h₀ := s.heap) (Nat.le_refl _) fun n c hm => ⟨x.cell n c (lookup_of_mem_nodup (cellsFrom_names scope.names 0 (s.heap.objs.size + 1) [] [] rfl ▸ hnd) hm), x.above n c hm⟩
  apply k_
  clear k_
  refine h (dp + 1) (un + 3) gd A₀ s s.heap.objs.size h₁ tk cells _ _ B X T (by lia) (by lia) ⟨x.toInCall.ns, fun b o e => hk₁ b o (hst b o e), hsz⟩ (fun p hp => ?_) hlt Y (fun p hp q hq e => ?_) ?_ ?_ ?_
  · rcases List.mem_append.mp hp with hp | hp
    · exact ⟨hk₁ _ _ (hown p hp).1, Nat.ne_of_lt (hlt p hp), (hown p hp).2⟩
    · refine ⟨(NC p hp).1, (NC p hp).2.1, ?_⟩
      cases q : G.get? p.1 with
      | none => rfl
      | some o => have := hst _ _ q; rw [(NC p hp).2.2] at this; cases this
  · have := (NC q hq).2.2; rw [← e, (hown p hp).1] at this; cases this
  · intro fl ch' h' tk' m' F' N' P
    have P' := hret _ ch' h' tk' F'.keep (fun p hp => ⟨(N' p hp).1, (N' p hp).2.2⟩) P
    cases fl <;> exact P'
  · intro e ln h' tk' x u hex
    obtain ⟨dx, od, a, b, c, d⟩ := x
    exact exc_leave rfl rfl a b fun h₂ a₂ b₂ u₂ => hexc e ln h₂ tk' ⟨dx, od, a₂, b₂, c, d⟩ (u.trans u₂) hex
  · passes_own
theorem law_ok {G : Heap} {l0 : Addr} {ws0 : List Value} {ns0 : List Int} (hl0 : G.IsList l0 ws0.toArray) (hI0 : IntsAre ws0 ns0) (hlen0 : ns0.length ≤ 63) : Triple0 w mean mg mb G 367 [.ref l0] 600 [] (fun r z9 => r = .bool true) No := by
  show Triple0 _ _ _ _ _ _ _ _ _ _ _
  refine' enterC0 (binds := [("script", .ref l0)]) ?k6 ?k7 ?k9 ?kB ?kD ?_ ?kn ?c2 ?c3 ?c4
  case k6 => k_is
  case k7 => k_is
  case k9 => exact rfl
  case kB => exact rfl
  case kD => decide +kernel
  case kn => first | lia | (simp only [htP, htT, htS, htB]; lia)
  case c2 => exact rfl
  case c3 => exact rfl
  case c4 => exact rfl
  k_whole
  intro dp un gd A₀ s L h₁ tk₁ cells Qb Eb B X T hdp hun F N hlt Y Ap hret hexc hown
  have hY := CellsAre.one Y
  refine cps fun k_ => ?_
  obtain ⟨o1, hE, d1⟩ := hY
  apply k_
  clear k_
  subst hE
  clear Y
  (try dsimp only at F N Ap d1)
  replace N : News G L h₁ [(L + 1, o1)] := N
  k_steps
  refine Halt.mk ?_
  refine PySem.W.kdn_str (by rfl) (by assumption) (by assumption) (Top.nolimit (by assumption)) (by rfl) (by rfl) (List.cons_ne_nil _ _) (by exact Nat.le_of_ble_eq_true rfl) ?_
  intro _ _ _ _ _ l1 _ _
  (try k_lt l1)
  revert l1
  intro _
  k_steps
  refine Halt.mk ?_
  rename News _ _ _ _ => N1
  rename Fr _ _ _ _ => F1
  rename IntsAre _ (List.take 60 _) => hI
  rename Obj.IsDictOf (PySem.strKind _ _) _ [_, _, _] => hd9
  rename @LT.lt Nat _ _ _ ∧ @LT.lt Nat _ _ _ => l2
  rename @LT.lt Nat _ _ _ => l1
  rename (_ == sysModules) = false => hlo
  rename Obj.data _ = Data.cell (some (Value.ref _)) => d2
  have hb := bowl_new l2.1 hlo hI hd9
  obtain ⟨N2, A2⟩ := law_start N1 l1 l2.2
  clear N1 hd9
  refine compK (by assumption) (by assumption) (by assumption) rfl rfl rfl (by exact rfl) (by decide) rfl (by decide) (by exact rfl) (Ex := No) (fun z9 z9 z9 z9 z9 z9 h => h.elim) ?_
  k_steps
  rename_i ch9 h8 tk8 F8 N8 A9 v9 tkk9 lo9 hi9 hb9 h9 tk9 t9 u9 w9 hr9 F9 N9 keep9
  obtain ⟨n9, hn9⟩ : ∃ n : Nat, 1 + v9 = n := ⟨(1 + v9).toNat, by lia⟩
  have hn3 : n9 ≤ 3 := by lia
  rw [hn9] at hr9
  refine comp_at_range (n := n9) (J := fun i ch₁ rs ys => ∃ t₁ lf₁ bl, BowlIs w _ ch₁ t₁ lf₁ ∧ StmsAre (seeL rs) ys bl ∧ htB bl ≤ 348 ∧ 0 ≤ lf₁ ∧ lf₁ ≤ 24 ∧ 0 ≤ t₁ ∧ t₁ + 100 * lf₁ ≤ 2401 + ((81 * i : Nat) : Int))
    F9 N9 (by assumption) hr9 (by lia) ⟨0 + 1, 24, .nil, hb9, rfl, by simp only [htB]; lia, by lia, by lia, by lia, by lia⟩ ?_ ?_
  · intro h₂ tk₂ i v G₂ C h tk ch₁ rs ys own m₂ E' hi hP hJ gst grest B₂ X₂ T₂ F₂ hx₂ N₂ A₂ hE' R9 hR9
    refine cps fun k_ => ?_
    obtain ⟨t₁, lf₁, bl, hb1, hs1, hh1, q1, q2, q3, q4⟩ := hJ
    apply k_
    clear k_
    have c1 := grest _ (List.mem_singleton_self _)
    dsimp only at c1
    clear B X T hr9 F9 N9 hret hexc hown
    k_steps
    refine Halt.mk ?_
    refine useC B₂ F₂ N₂ X₂ T₂ A₂ hdp hun (by first | exact Nat.lt_succ_self _ | lia) (fun G₃ z9 z9 => (all_ok 24).2 hb1 (by lia) (by lia) q1 (by lia) q3 (by lia)) ?_ (fun z9 z9 z9 z9 z9 h => h.elim)
    intro r ch' h' tk' F' N' A' P
    refine cps fun k_ => ?_
    obtain ⟨st, fz, bw, t', lf', rfl, hst, hhs, z1, z2, z3, z4, hb', ap⟩ := P
    apply k_
    clear k_
    (try k_unfold)
    refine hR9 _ _ ⟨bw, fz, h', tk', rfl, F', news_assoc N', apart_split A' ap, apart_right A', t', lf', bl.snoc st, hb', StmsAre.snoc (hst.mono fun z9 z9 hm => List.mem_append_left _ hm) bl (StmsAre.mono (fun z9 z9 hm => List.mem_append_right _ hm) bl hs1), by rw [htB_snoc]; lia, z1, by lia, by lia, by lia⟩
  · intro D ch' rs ys k h' tk' hlen hJ F' N' A'
    refine cps fun k_ => ?_
    obtain ⟨t₁, lf₁, bl, hb1, hs1, hh1, q1, q2, q3, q4⟩ := hJ
    apply k_
    clear k_
    clear F9 N9 hr9 A9 hb9 keep9
    replace N' : News G L h' ((D, lstX ys k) :: rs) := news_sub N' fun p hp => by
      simp only [List.mem_append, List.mem_cons] at hp ⊢
      rcases hp with hp | hp <;> simp only [hp, true_or, or_true]
    replace F' : Fr G L h' _ := F'
    clear hb1 A'
    k_steps
    rename_i Dbk hA lA hB Dnum hC lC Dex hD9 lD lst hE FE NE lE
    refine Halt.mk ?_
    refine add_lists (vs := [.ref Dex]) (ws := ys) FE NE (isList_of (NE _ List.mem_cons_self).1) (isList_of (NE (D, lstX ys k) (by simp)).1) ?_ (by rw [sizeLine_eq]; simp only [List.length_cons, List.length_nil]; lia)
    intro h8 F8 N8
    dsimp only at N8 ⊢
    generalize hE.objs.size = Dl at N8 ⊢
    clear FE NE
    k_steps
    refine Halt.mk ?_
    refine PySem.W.kdn_str (by rfl) (by assumption) (by assumption) (Top.nolimit (by assumption)) (by rfl) (by rfl) (List.cons_ne_nil _ _) (by exact Nat.le_of_ble_eq_true rfl) ?_
    intro _ _ _ _ _ l1 _ _
    (try k_lt l1)
    revert l1
    intro _
    k_steps
    rename_i Df hF1 lF hF2 Dh hG oh0 hlo1 hdh0 lh hH oh hdh hfh Ds hI9 os FI NI los hss fss his fis ls
    refine Halt.mk ?_
    have hys7 : ys.length ≤ 7 := by lia
    refine cps fun k_ => ?_
    obtain ⟨FZ, N7, hB, hm1, hm2, A7⟩ := law_first (n := 0) NI hs1 hys7 ls lh
    apply k_
    clear k_
    obtain ⟨tb9, hm1⟩ : ∃ t, (Df, tupO [.str "block" t, .ref Dl]) ∈ FZ := ⟨_, hm1⟩
    have hpos := pos_first hs1
    have hht : htB (.cons (.expr 90 .num) bl) ≤ 400 := by simp only [htB, htS, htT]; lia
    have hbl := blk_len bl hs1
    obtain ⟨F0, hF0⟩ : ∃ F0, F0 = Blk.cons (.expr 90 .num) bl := ⟨_, rfl⟩
    have hF0l : blkLen F0 = ys.length + 1 := by rw [hF0, hbl]; rfl
    rw [← hF0] at hB hpos hht
    clear NI hF0 lF lh ls lA lC lD lE
    refine use (ch := [(Dh, oh)]) (rest := (Ds, os) :: FZ) (by assumption) (by assumption) N7 (by assumption) (by assumption) A7 (by exact rfl) (by exact rfl) hdp hun (by first | exact Nat.lt_succ_self _ | lia)
      (fun G₂ st₂ rst₂ => Triple.le (n := htB F0) (n' := 400) hht (lawB F0 (BlkOf.mono (fun a o h => rst₂ _ (List.mem_cons_of_mem _ h)) (fun z9 h => StmsAre.mono (fun a o h => rst₂ _ (List.mem_cons_of_mem _ h)) F0 h) hB) (rst₂ _ List.mem_cons_self) (visNil hss) los ⟨_, hdh⟩ hpos hlo1)) ?_ (fun z9 z9 z9 z9 z9 h => h.elim)
    intro r7 ch7 h7 tk7 F7 N8 A8 P7
    clear N7 A7 FI
    cases hrun : runB 0 [] F0 with
    | error e7 =>
      rw [hrun] at P7
      refine cps fun k_ => ?_
      obtain ⟨⟨tk8, rfl⟩, oh8, rfl⟩ := P7
      apply k_
      clear k_
      k_steps
      refine Halt.mk ?_
      refine wpAny_Try_except ?_
      k_steps
      refine Halt.mk ?_
      rename_i hA Dp hB2 FP NP lP
      refine use (ch := []) (rest := (Dp, tupO [.str "program" _, .ref Df, .int 0 _]) :: ([(Dh, oh8)] ++ (Ds, os) :: FZ)) (by assumption) FP NP (by assumption) (by assumption) (Apart.symm apart_nilr) (by exact rfl) (by exact rfl) hdp hun (by first | exact Nat.lt_succ_self _ | lia)
        (fun G₂ st₂ rst₂ => Triple.le (n := htB F0 + 10) (n' := 410) (by lia) (prog_ok (b := F0) (by lia) (rst₂ _ List.mem_cons_self) (BlkOf.mono (fun a o h => rst₂ _ (List.mem_cons_of_mem _ (List.mem_append_right _ (List.mem_cons_of_mem _ h)))) (fun z9 h => StmsAre.mono (fun a o h => rst₂ _ (List.mem_cons_of_mem _ (List.mem_append_right _ (List.mem_cons_of_mem _ h)))) F0 h) hB))) ?_ ?_
      · intro r' ch' h' tk' F' N' A' P'
        refine cps fun k_ => ?_
        obtain ⟨l', r0, t, sz, rb, hres, _⟩ := P'
        apply k_
        clear k_
        rw [hrun] at hres
        cases hres
      · intro e9 ln9 h9 tk9 hx hex
        refine cps fun k_ => ?_
        obtain ⟨G₂, F₂, ⟨dx, od, xA, xF, hod, hdx⟩, hu⟩ := hx
        apply k_
        clear k_
        rw [hrun] at hex
        cases hex
        clear NP FP
        refine exc_note rfl rfl xA (.inr (.inl xF)) fun h10 xA1 xF1 u1 => ?_
        refine exc_setFlight xA1 xF1 none fun h11 xA2 xF2 u2 => ?_
        have F11 := Fr.of_stays F₂ xA2.st ((hu.trans u1).trans u2)
        refine wpAny_handleBy_cons (codeAny_handlers_test ?_) (by intro q; cases q)
        k_steps
        refine cps fun k_ => ?_
        obtain ⟨mN, mD, X2, i1, i2, i3, i4, i5, i6⟩ := two_clsX X
        apply k_
        clear k_
        have X11 : TwoCls h11 51 31 mN mD := X2.keeps xA2.st
        refine cps fun k_ => ?_
        obtain ⟨nm, qn, N5, bs5, sn5, sub5, ab5, col5, dd5, k50, k51, k52, k53, k55, hC5, hn5⟩ := X11.c
        apply k_
        clear k_
        have xF2' := xF2
        refine cps fun k_ => ?_
        obtain ⟨vs5, T5, oT5, ts5, he5, _⟩ := xF2'
        apply k_
        clear k_
        refine wpAny_excMatches_sub_self hC5 he5 rfl rfl (codeAny_handlers_suite_as ?_)
        refine exc_setFlight xA2 xF2 none fun h12 xA3 xF3 u3 => ?_
        have F12 := Fr.of_stays F11 xA3.st u3
        refine cps fun k_ => ?_
        obtain ⟨vs6, T6, oT6, ts6, he6, _⟩ := xF3
        apply k_
        clear k_
        have heL : @Ne Nat e9 L := fun q => xA3.notFrame he6 (by rw [show e9 = L from q]; exact List.mem_cons_self)
        have hdL : @Ne Nat dx L := fun q => xA3.df (by rw [show dx = L from q]; exact List.mem_cons_self)
        refine wpAny_storeName_local rfl F12.ns (fun h13 hn13 hs13 => ?_) rfl
        have F13 := F12.set hn13 hs13
        have he13 := (hs13.2 e9 heL).trans he6
        have hd13 := (hs13.2 dx hdL).trans xA3.hd
        have X13 : TwoCls h13 51 31 mN mD := X2.keeps F13.keep
        refine cps fun k_ => ?_
        obtain ⟨mA, tkl, ⟨es, ep, hdat, sk, uk, hfind⟩, hline⟩ := hod
        apply k_
        clear k_
        clear F11 F12 X11 hC5 hn5
        k_steps
        refine xl_load X13 i3 i4 i5 i6 i1 i2 line_none he13 rfl rfl rfl ⟨od, es, ep, hd13, hdat, sk, hfind⟩ hline rfl ?_
        k_steps
        refine wpAny_nameGoes rfl F13.ns rfl (fun h14 m14 hn14 hs14 => ?_)
        refine hret (.ret (.bool _)) [] _ _ _ (F13.set hn14 hs14) news_nil ?_
        exact congrArg Value.bool (beq_self_eq_true _)
    | ok l7 =>
      rw [hrun] at P7
      refine cps fun k_ => ?_
      obtain ⟨⟨tk8, rfl⟩, oh8, rfl, hhr⟩ := P7
      apply k_
      clear k_
      k_steps
      refine Halt.mk ?_
      refine wpAny_Try_except ?_
      k_steps
      refine Halt.mk ?_
      rename_i hA Dp hB2 FP NP lP
      refine use (ch := []) (rest := (Dp, tupO [.str "program" _, .ref Df, .int 0 _]) :: ([(Dh, oh8)] ++ (Ds, os) :: FZ)) (by assumption) FP NP (by assumption) (by assumption) (Apart.symm apart_nilr) (by exact rfl) (by exact rfl) hdp hun (by first | exact Nat.lt_succ_self _ | lia)
        (fun G₂ st₂ rst₂ => Triple.le (n := htB F0 + 10) (n' := 410) (by lia) (prog_ok (b := F0) (by lia) (rst₂ _ List.mem_cons_self) (BlkOf.mono (fun a o h => rst₂ _ (List.mem_cons_of_mem _ (List.mem_append_right _ (List.mem_cons_of_mem _ h)))) (fun z9 h => StmsAre.mono (fun a o h => rst₂ _ (List.mem_cons_of_mem _ (List.mem_append_right _ (List.mem_cons_of_mem _ h)))) F0 h) hB))) ?_ ?_
      · intro r' ch' h' tk' F' N' A' P'
        refine cps fun k_ => ?_
        obtain ⟨l', r0, t, sz, rb, hres, rfl, hr0, ra, ta, rl, rn, rys, rfl, hra, hrl, hrlen⟩ := P'
        apply k_
        clear k_
        have N8 : News G L h' [(r0, tupO [.str "program" t, .ref ra, sz]), (ra, tupO [.str "block" ta, .ref rl]), (rl, lstO rys rn), (Df, tupO [.str "block" tb9, .ref Dl]), (Dl, lstO (.ref Dex :: ys) 0)] := news_sub N' fun p hp => by
          simp only [List.mem_cons, List.not_mem_nil, or_false] at hp
          rcases hp with rfl | rfl | rfl | rfl | rfl
          · exact List.mem_append_left _ hr0
          · exact List.mem_append_left _ hra
          · exact List.mem_append_left _ hrl
          · exact List.mem_append_right _ (List.mem_cons_of_mem _ (List.mem_append_right _ (List.mem_cons_of_mem _ hm1)))
          · exact List.mem_append_right _ (List.mem_cons_of_mem _ (List.mem_append_right _ (List.mem_cons_of_mem _ hm2)))
        clear N' A' NP FP
        k_steps
        rename News _ _ _ _ => N9
        refine len_list (isList_of (N9 (rl, lstO rys rn) (by simp)).1) (by simp only [List.size_toArray, sizeLine_eq]; lia) ?_
        k_steps
        rename News _ _ _ _ => N9
        refine len_list (isList_of (N9 (Dl, lstO (.ref Dex :: ys) 0) (by simp)).1) (by simp only [List.size_toArray, sizeLine_eq, List.length_cons]; lia) ?_
        k_steps
        refine hret (.ret (.bool _)) _ _ _ _ (by assumption) N9 ?_
        exact congrArg Value.bool (by simp only [List.size_toArray, List.length_cons, hrlen, hF0l]; exact beq_self_eq_true _)
      · intro e9 ln9 h9 tk9 hx hex
        rw [hrun] at hex
        cases hex
end
end
theorem holds : PySem.Challenge.rw_qd0141_01.Holds := by
  apply hd
  k_fill
  intro w s₀ s₁ mg mb G Y fa o pm cd doc dV kV ho hdd hcd hD hmg hg args vals as hpre hlay hrd hwl hlo
  have KX := kIn_of Y
  refine Ground.open G ?_
  intro T B D TE TW
  clear hdd hcd hD ho B D TE TW
  wrow_args hpre hlay hrd hwl hlo
  rename IntsAre _ _ => hI
  rename Heap.IsList _ _ _ => hL
  rename ¬ _ < _ => hlen
  obtain rfl : fa = 367 := by
    have e := hmg.symm.trans (mg_of (v := .ref 367) KX T.g (by rfl))
    injection e with e
    injection e with e
  refine law_ok (w := w) hL hI (by omega) (below_caller _) KX T ?_ ?_ (fun z9 z9 e => e) (Nat.le_refl _) (fun z9 hp => nomatch hp) ?_ ?_
  · decide
  · decide
  · rintro r ch' h' tk' hst - rfl
    exact GoodW.toG ⟨.inl ⟨_, _, _, rfl, (raisesW_false (by wrow_none_raised)), .bool true, (by wrow_post), unshared_nil⟩, hst, rfl, hg⟩
  · intro e ln h' tk' _ _ h
    exact h.elim
end Mine

theorem PySem.Challenge.cw_qd0141_01_holds : PySem.Challenge.rw_qd0141_01.Holds :=
  Mine.holds
