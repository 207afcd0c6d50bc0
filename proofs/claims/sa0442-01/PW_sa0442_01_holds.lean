import PyProof.Rows.All
import Wide.All
import OpenK.AllK
import KE.KData
import Wide.FinOn
import PySem.Challenge.RW_sa0442_01
open PySem PySem.W PyProof.Rows
set_option Elab.async false
set_option linter.unusedVariables false
set_option maxRecDepth 100000
set_option compiler.extract_closed false
name_quick tw8075568018651887793 for PySem.W.S.findZ by PySem.W.S.findZ_eq
name_quick tw17965874473693529744 for PySem.W.S.findZ by PySem.W.S.findZ_eq
name_quick tw14979626087600564940 for PySem.W.S.findZ by PySem.W.S.findZ_eq
name_quick tw1734359236244037315 for PySem.W.S.findZ by PySem.W.S.findZ_eq
name_quick tw5557055217656661889 for PySem.W.S.findZ by PySem.W.S.findZ_eq
name_quick tw17563454237958015444 for PySem.W.S.findZ by PySem.W.S.findZ_eq
name_quick tw8376752744543775738 for PySem.W.S.findZ by PySem.W.S.findZ_eq
name_quick tw11705733892432689576 for PySem.W.S.findZ by PySem.W.S.findZ_eq
name_quick tw939162767068533735 for PySem.W.S.findZ by PySem.W.S.findZ_eq
name_quick tw16360918003126229584 for PySem.W.S.findZ by PySem.W.S.findZ_eq
name_quick tw2509020472811716534 for PySem.W.S.findZ by PySem.W.S.findZ_eq
name_quick tw11994158751524154303 for PySem.W.S.findZ by PySem.W.S.findZ_eq
name_quick tw5189142188285759775 for PySem.W.S.findZ by PySem.W.S.findZ_eq
name_quick tw13381251411439493676 for PySem.W.S.findZ by PySem.W.S.findZ_eq
name_quick tw4090926877573551719 for PySem.W.S.findZ by PySem.W.S.findZ_eq
name_quick tw3856783459128436802 for PySem.W.S.findZ by PySem.W.S.findZ_eq
name_quick tw15919542637913265678 for PySem.W.S.findZ by PySem.W.S.findZ_eq
name_quick tw18350330562280901221 for PySem.W.S.findZ by PySem.W.S.findZ_eq
name_quick tw17532718790514356516 for PySem.W.S.findZ by PySem.W.S.findZ_eq
name_quick tw17476080006546285661 for PySem.W.S.findZ by PySem.W.S.findZ_eq
name_quick tw15066959818950650227 for PySem.W.S.findZ by PySem.W.S.findZ_eq
name_quick tw14333388528381170442 for PySem.W.S.findZ by PySem.W.S.findZ_eq
name_quick tw13640514254501968386 for PySem.W.S.findZ by PySem.W.S.findZ_eq
name_quick tw1617757218408452269 for PySem.W.S.findZ by PySem.W.S.findZ_eq
name_quick tw17846936440860909165 for PySem.W.S.findZ by PySem.W.S.findZ_eq
name_quick tw16145008321745377990 for PySem.W.S.findZ by PySem.W.S.findZ_eq
name_quick tw13912434898499826684 for PySem.W.S.findZ by PySem.W.S.findZ_eq
name_quick tw2334193516648215543 for PySem.W.S.findZ by PySem.W.S.findZ_eq
name_quick tw12635297910168745909 for PySem.W.S.findZ by PySem.W.S.findZ_eq
name_quick tw2401598449976151931 for PySem.W.S.findZ by PySem.W.S.findZ_eq
name_quick tw7232422423428716515 for PySem.W.S.findZ by PySem.W.S.findZ_eq
name_quick tw2478078296215019888 for PySem.W.S.findZ by PySem.W.S.findZ_eq
name_quick tw14821650378409806113 for PySem.W.S.findZ by PySem.W.S.findZ_eq
name_quick tw9501820088010722379 for PySem.W.S.findZ by PySem.W.S.findZ_eq
name_quick tw17070079461858475408 for PySem.W.S.findZ by PySem.W.S.findZ_eq
name_quick tw17000458434675057986 for PySem.W.S.findZ by PySem.W.S.findZ_eq
name_quick tw8603108125212654177 for PySem.W.S.findZ by PySem.W.S.findZ_eq
name_quick tw9011979029575296479 for PySem.W.S.findZ by PySem.W.S.findZ_eq
name_quick tw3152983702415266003 for PySem.W.S.findZ by PySem.W.S.findZ_eq
name_quick tw3560238982266916124 for PySem.W.S.findZ by PySem.W.S.findZ_eq
name_quick tw11317593695737139937 for PySem.W.S.findZ by PySem.W.S.findZ_eq
name_quick tw14714103240675001986 for PySem.W.S.findZ by PySem.W.S.findZ_eq
name_quick tw8595292554425487202 for PySem.W.S.findZ by PySem.W.S.findZ_eq
name_quick tw4558998842232669794 for PySem.W.S.findZ by PySem.W.S.findZ_eq
name_quick tw13358618909089187005 for PySem.W.S.findZ by PySem.W.S.findZ_eq
name_quick tw12945451867199242903 for PySem.W.S.findZ by PySem.W.S.findZ_eq
name_quick tw900395245841561262 for PySem.W.S.findZ by PySem.W.S.findZ_eq
name_quick tw347637069881736656 for PySem.W.S.findZ by PySem.W.S.findZ_eq
name_quick tw13036272033356848781 for PySem.W.S.findZ by PySem.W.S.findZ_eq
name_quick tw1402947280878808549 for PySem.W.S.findZ by PySem.W.S.findZ_eq
name_quick tw1218959903707654005 for PySem.W.S.findZ by PySem.W.S.findZ_eq
name_quick tw7392212959928792091 for PySem.W.S.findZ by PySem.W.S.findZ_eq
name_quick tw16643706677886111943 for PySem.W.S.findZ by PySem.W.S.findZ_eq
name_quick tw2422670821966735624 for PySem.W.S.findZ by PySem.W.S.findZ_eq
name_quick tw17552769576498331613 for PySem.W.S.findZ by PySem.W.S.findZ_eq
name_quick tw932993149863042379 for PySem.W.S.findZ by PySem.W.S.findZ_eq
name_quick tw5529568453561195837 for PySem.W.S.findZ by PySem.W.S.findZ_eq
name_quick tw6245536207120538393 for PySem.W.S.findZ by PySem.W.S.findZ_eq
name_quick tw6004533443673955352 for PySem.W.S.findZ by PySem.W.S.findZ_eq
name_quick tw16593013826814733010 for PySem.W.S.findZ by PySem.W.S.findZ_eq
name_quick tw10528696920762540405 for PySem.W.S.findZ by PySem.W.S.findZ_eq
name_quick tw17111948838632640456 for PySem.W.S.findZ by PySem.W.S.findZ_eq
name_quick tw11566699232636054958 for PySem.W.S.findZ by PySem.W.S.findZ_eq
name_quick tw2334299552400917057 for PySem.W.S.findZ by PySem.W.S.findZ_eq
name_quick tw15742981410569661332 for PySem.W.S.findZ by PySem.W.S.findZ_eq
name_quick tw6792406925840432001 for PySem.W.S.findZ by PySem.W.S.findZ_eq
name_quick tw13145125596335152023 for PySem.W.S.findZ by PySem.W.S.findZ_eq
name_quick tw17954471519018878134 for PySem.W.S.findZ by PySem.W.S.findZ_eq
name_quick tw15007238320947547705 for PySem.W.S.findZ by PySem.W.S.findZ_eq
name_quick tw16752143609539240740 for PySem.W.S.findZ by PySem.W.S.findZ_eq
name_quick tw1503297043503765363 for PySem.W.S.findZ by PySem.W.S.findZ_eq
name_quick tw13559156169165276386 for PySem.W.S.findZ by PySem.W.S.findZ_eq
name_quick tw5706481520468235054 for PySem.W.S.findZ by PySem.W.S.findZ_eq
name_quick tw7745614565497352828 for PySem.W.S.findZ by PySem.W.S.findZ_eq
name_quick tw11543547407058413889 for PySem.W.S.findZ by PySem.W.S.findZ_eq
name_quick tw14386061602966655976 for PySem.W.S.findZ by PySem.W.S.findZ_eq
name_quick tw1333364371103165705 for PySem.W.S.findZ by PySem.W.S.findZ_eq
name_quick tw5357591511691535388 for PySem.W.S.findZ by PySem.W.S.findZ_eq
name_quick tw3094477031063562474 for PySem.W.S.findZ by PySem.W.S.findZ_eq
name_quick tw18345786424863182364 for PySem.W.S.findZ by PySem.W.S.findZ_eq
name_quick tw11186114360453789277 for PySem.W.S.findZ by PySem.W.S.findZ_eq
name_quick tw682011567655089306 for PySem.W.S.findZ by PySem.W.S.findZ_eq
name_quick tw2408619945344806742 for PySem.W.S.findZ by PySem.W.S.findZ_eq
name_quick tw2862820112641550484 for PySem.W.S.findZ by PySem.W.S.findZ_eq
name_quick tw11420187438672877268 for PySem.W.S.findZ by PySem.W.S.findZ_eq
name_quick tw2660918139993853925 for PySem.W.S.findZ by PySem.W.S.findZ_eq
name_quick tw10007627690174824804 for PySem.W.S.findZ by PySem.W.S.findZ_eq
name_quick tw10010936943081839664 for PySem.W.S.findZ by PySem.W.S.findZ_eq
name_quick tw10029231156530900338 for PySem.W.S.findZ by PySem.W.S.findZ_eq
name_quick tw10227693086864044499 for PySem.W.S.findZ by PySem.W.S.findZ_eq
name_quick tw10323183001455561277 for PySem.W.S.findZ by PySem.W.S.findZ_eq
name_quick tw10424941004445345732 for PySem.W.S.findZ by PySem.W.S.findZ_eq
name_quick tw10706342367453228570 for PySem.W.S.findZ by PySem.W.S.findZ_eq
name_quick tw10833955939284561965 for PySem.W.S.findZ by PySem.W.S.findZ_eq
name_quick tw10887116778572429059 for PySem.W.S.findZ by PySem.W.S.findZ_eq
name_quick tw1092655722715705105 for PySem.W.S.findZ by PySem.W.S.findZ_eq
name_quick tw10938465397075749097 for PySem.W.S.findZ by PySem.W.S.findZ_eq
name_quick tw10942035263794033107 for PySem.W.S.findZ by PySem.W.S.findZ_eq
name_quick tw10996506086634736982 for PySem.W.S.findZ by PySem.W.S.findZ_eq
name_quick tw11270796479367742343 for PySem.W.S.findZ by PySem.W.S.findZ_eq
name_quick tw11277716924127702174 for PySem.W.S.findZ by PySem.W.S.findZ_eq
name_quick tw11306939235166856333 for PySem.W.S.findZ by PySem.W.S.findZ_eq
name_quick tw11333186260410459676 for PySem.W.S.findZ by PySem.W.S.findZ_eq
name_quick tw11445135464325071761 for PySem.W.S.findZ by PySem.W.S.findZ_eq
name_quick tw11588390666370768167 for PySem.W.S.findZ by PySem.W.S.findZ_eq
name_quick tw11788150170368784547 for PySem.W.S.findZ by PySem.W.S.findZ_eq
name_quick tw11853533878840232495 for PySem.W.S.findZ by PySem.W.S.findZ_eq
name_quick tw11939915149646268982 for PySem.W.S.findZ by PySem.W.S.findZ_eq
name_quick tw11964429278604863157 for PySem.W.S.findZ by PySem.W.S.findZ_eq
name_quick tw11985326045990495214 for PySem.W.S.findZ by PySem.W.S.findZ_eq
name_quick tw12233582284571471492 for PySem.W.S.findZ by PySem.W.S.findZ_eq
name_quick tw12237943961548833269 for PySem.W.S.findZ by PySem.W.S.findZ_eq
name_quick tw12268644228514654432 for PySem.W.S.findZ by PySem.W.S.findZ_eq
name_quick tw1258299570235058372 for PySem.W.S.findZ by PySem.W.S.findZ_eq
name_quick tw1258717718454355964 for PySem.W.S.findZ by PySem.W.S.findZ_eq
name_quick tw12659028871203227004 for PySem.W.S.findZ by PySem.W.S.findZ_eq
name_quick tw13016732220969518872 for PySem.W.S.findZ by PySem.W.S.findZ_eq
name_quick tw13236226663087606529 for PySem.W.S.findZ by PySem.W.S.findZ_eq
name_quick tw13254397897704925713 for PySem.W.S.findZ by PySem.W.S.findZ_eq
name_quick tw13317431791736044220 for PySem.W.S.findZ by PySem.W.S.findZ_eq
name_quick tw13335737130258781183 for PySem.W.S.findZ by PySem.W.S.findZ_eq
name_quick tw13512673800721320934 for PySem.W.S.findZ by PySem.W.S.findZ_eq
name_quick tw13607416678640721797 for PySem.W.S.findZ by PySem.W.S.findZ_eq
name_quick tw136631920214876835 for PySem.W.S.findZ by PySem.W.S.findZ_eq
name_quick tw13759679279233594173 for PySem.W.S.findZ by PySem.W.S.findZ_eq
name_quick tw1377046205977697930 for PySem.W.S.findZ by PySem.W.S.findZ_eq
name_quick tw13789449189825218787 for PySem.W.S.findZ by PySem.W.S.findZ_eq
name_quick tw13900631225919944168 for PySem.W.S.findZ by PySem.W.S.findZ_eq
name_quick tw14073706353221006472 for PySem.W.S.findZ by PySem.W.S.findZ_eq
name_quick tw14108194823987119177 for PySem.W.S.findZ by PySem.W.S.findZ_eq
name_quick tw14126943448341045398 for PySem.W.S.findZ by PySem.W.S.findZ_eq
name_quick tw1414301608579184545 for PySem.W.S.findZ by PySem.W.S.findZ_eq
name_quick tw14168537005229113720 for PySem.W.S.findZ by PySem.W.S.findZ_eq
name_quick tw14311459727803291754 for PySem.W.S.findZ by PySem.W.S.findZ_eq
name_quick tw14326252917377295143 for PySem.W.S.findZ by PySem.W.S.findZ_eq
name_quick tw14530364306720264245 for PySem.W.S.findZ by PySem.W.S.findZ_eq
name_quick tw14537914154153760125 for PySem.W.S.findZ by PySem.W.S.findZ_eq
name_quick tw14553827428707814869 for PySem.W.S.findZ by PySem.W.S.findZ_eq
name_quick tw14834023430324568649 for PySem.W.S.findZ by PySem.W.S.findZ_eq
name_quick tw14884601019740666482 for PySem.W.S.findZ by PySem.W.S.findZ_eq
name_quick tw15112985482279097393 for PySem.W.S.findZ by PySem.W.S.findZ_eq
name_quick tw15168306246750427876 for PySem.W.S.findZ by PySem.W.S.findZ_eq
name_quick tw151948405760981731 for PySem.W.S.findZ by PySem.W.S.findZ_eq
name_quick tw15278061642289888581 for PySem.W.S.findZ by PySem.W.S.findZ_eq
name_quick tw1537898542681612871 for PySem.W.S.findZ by PySem.W.S.findZ_eq
name_quick tw15475462885187679331 for PySem.W.S.findZ by PySem.W.S.findZ_eq
name_quick tw15480198773659482676 for PySem.W.S.findZ by PySem.W.S.findZ_eq
name_quick tw15560500314895047343 for PySem.W.S.findZ by PySem.W.S.findZ_eq
name_quick tw15663404670287596823 for PySem.W.S.findZ by PySem.W.S.findZ_eq
name_quick tw15766043655864335149 for PySem.W.S.findZ by PySem.W.S.findZ_eq
name_quick tw15894407043143930727 for PySem.W.S.findZ by PySem.W.S.findZ_eq
name_quick tw15980859228951719591 for PySem.W.S.findZ by PySem.W.S.findZ_eq
name_quick tw16049961110935095269 for PySem.W.S.findZ by PySem.W.S.findZ_eq
name_quick tw1620339239838986703 for PySem.W.S.findZ by PySem.W.S.findZ_eq
name_quick tw16241802466949684156 for PySem.W.S.findZ by PySem.W.S.findZ_eq
name_quick tw16296994325663420285 for PySem.W.S.findZ by PySem.W.S.findZ_eq
name_quick tw16349804527192203551 for PySem.W.S.findZ by PySem.W.S.findZ_eq
name_quick tw16414604833108395602 for PySem.W.S.findZ by PySem.W.S.findZ_eq
name_quick tw16439824349840649037 for PySem.W.S.findZ by PySem.W.S.findZ_eq
name_quick tw16531745337717519161 for PySem.W.S.findZ by PySem.W.S.findZ_eq
name_quick tw16548257151911338427 for PySem.W.S.findZ by PySem.W.S.findZ_eq
name_quick tw16643379632663270332 for PySem.W.S.findZ by PySem.W.S.findZ_eq
name_quick tw16741492637210864865 for PySem.W.S.findZ by PySem.W.S.findZ_eq
name_quick tw16817318245366136608 for PySem.W.S.findZ by PySem.W.S.findZ_eq
name_quick tw16846860572762119324 for PySem.W.S.findZ by PySem.W.S.findZ_eq
name_quick tw16916688483869632129 for PySem.W.S.findZ by PySem.W.S.findZ_eq
name_quick tw17000155066101142889 for PySem.W.S.findZ by PySem.W.S.findZ_eq
name_quick tw17018628822417861297 for PySem.W.S.findZ by PySem.W.S.findZ_eq
name_quick tw1702518465993881591 for PySem.W.S.findZ by PySem.W.S.findZ_eq
name_quick tw17057272898397164401 for PySem.W.S.findZ by PySem.W.S.findZ_eq
name_quick tw17100903815162463580 for PySem.W.S.findZ by PySem.W.S.findZ_eq
name_quick tw17164873540382356111 for PySem.W.S.findZ by PySem.W.S.findZ_eq
name_quick tw17279654841073493023 for PySem.W.S.findZ by PySem.W.S.findZ_eq
name_quick tw17532440430192770315 for PySem.W.S.findZ by PySem.W.S.findZ_eq
name_quick tw17672482021469178181 for PySem.W.S.findZ by PySem.W.S.findZ_eq
name_quick tw17730428716208468724 for PySem.W.S.findZ by PySem.W.S.findZ_eq
name_quick tw17730448691065144110 for PySem.W.S.findZ by PySem.W.S.findZ_eq
name_quick tw17828083071136270317 for PySem.W.S.findZ by PySem.W.S.findZ_eq
name_quick tw17964007177503468958 for PySem.W.S.findZ by PySem.W.S.findZ_eq
name_quick tw17975652961387846372 for PySem.W.S.findZ by PySem.W.S.findZ_eq
name_quick tw18056578402003937789 for PySem.W.S.findZ by PySem.W.S.findZ_eq
name_quick tw18101931140130867144 for PySem.W.S.findZ by PySem.W.S.findZ_eq
name_quick tw18211773271919218964 for PySem.W.S.findZ by PySem.W.S.findZ_eq
name_quick tw18220123701641295943 for PySem.W.S.findZ by PySem.W.S.findZ_eq
name_quick tw18260038339965228139 for PySem.W.S.findZ by PySem.W.S.findZ_eq
name_quick tw1829445100760108279 for PySem.W.S.findZ by PySem.W.S.findZ_eq
name_quick tw18416463498863911781 for PySem.W.S.findZ by PySem.W.S.findZ_eq
name_quick tw1962928258387122110 for PySem.W.S.findZ by PySem.W.S.findZ_eq
name_quick tw2039238271031011813 for PySem.W.S.findZ by PySem.W.S.findZ_eq
name_quick tw219737044198020058 for PySem.W.S.findZ by PySem.W.S.findZ_eq
name_quick tw2283851925072248500 for PySem.W.S.findZ by PySem.W.S.findZ_eq
name_quick tw2460228577881660442 for PySem.W.S.findZ by PySem.W.S.findZ_eq
name_quick tw2611137233208623240 for PySem.W.S.findZ by PySem.W.S.findZ_eq
name_quick tw2664551874359636763 for PySem.W.S.findZ by PySem.W.S.findZ_eq
name_quick tw2670528217467546775 for PySem.W.S.findZ by PySem.W.S.findZ_eq
name_quick tw2719445374943340272 for PySem.W.S.findZ by PySem.W.S.findZ_eq
name_quick tw2905824091091238844 for PySem.W.S.findZ by PySem.W.S.findZ_eq
name_quick tw3093977132361051618 for PySem.W.S.findZ by PySem.W.S.findZ_eq
name_quick tw3105397867545767578 for PySem.W.S.findZ by PySem.W.S.findZ_eq
name_quick tw3131671291697673992 for PySem.W.S.findZ by PySem.W.S.findZ_eq
name_quick tw3362959441861295915 for PySem.W.S.findZ by PySem.W.S.findZ_eq
name_quick tw3442601649717412197 for PySem.W.S.findZ by PySem.W.S.findZ_eq
name_quick tw3577408171920636059 for PySem.W.S.findZ by PySem.W.S.findZ_eq
name_quick tw3619232141914619222 for PySem.W.S.findZ by PySem.W.S.findZ_eq
name_quick tw3636048126100218174 for PySem.W.S.findZ by PySem.W.S.findZ_eq
name_quick tw3698559305507148144 for PySem.W.S.findZ by PySem.W.S.findZ_eq
name_quick tw3764465048917985505 for PySem.W.S.findZ by PySem.W.S.findZ_eq
name_quick tw3766158894648301139 for PySem.W.S.findZ by PySem.W.S.findZ_eq
name_quick tw3891137856419664920 for PySem.W.S.findZ by PySem.W.S.findZ_eq
name_quick tw392140993173905013 for PySem.W.S.findZ by PySem.W.S.findZ_eq
name_quick tw3972328310683599613 for PySem.W.S.findZ by PySem.W.S.findZ_eq
name_quick tw3976722010076183465 for PySem.W.S.findZ by PySem.W.S.findZ_eq
name_quick tw4071324889030633612 for PySem.W.S.findZ by PySem.W.S.findZ_eq
name_quick tw4075660801711882420 for PySem.W.S.findZ by PySem.W.S.findZ_eq
name_quick tw4292500188555128830 for PySem.W.S.findZ by PySem.W.S.findZ_eq
name_quick tw4302124980754421698 for PySem.W.S.findZ by PySem.W.S.findZ_eq
name_quick tw43969757491396457 for PySem.W.S.findZ by PySem.W.S.findZ_eq
name_quick tw4527066259768149269 for PySem.W.S.findZ by PySem.W.S.findZ_eq
name_quick tw4549333791460862111 for PySem.W.S.findZ by PySem.W.S.findZ_eq
name_quick tw4552823106982906706 for PySem.W.S.findZ by PySem.W.S.findZ_eq
name_quick tw460243522976405022 for PySem.W.S.findZ by PySem.W.S.findZ_eq
name_quick tw4636218855388986860 for PySem.W.S.findZ by PySem.W.S.findZ_eq
name_quick tw470574548607681690 for PySem.W.S.findZ by PySem.W.S.findZ_eq
name_quick tw4775785305629353868 for PySem.W.S.findZ by PySem.W.S.findZ_eq
name_quick tw4797165386629745026 for PySem.W.S.findZ by PySem.W.S.findZ_eq
name_quick tw4933834842325187142 for PySem.W.S.findZ by PySem.W.S.findZ_eq
name_quick tw4980102563643897964 for PySem.W.S.findZ by PySem.W.S.findZ_eq
name_quick tw505943868828395459 for PySem.W.S.findZ by PySem.W.S.findZ_eq
name_quick tw5111356299099525756 for PySem.W.S.findZ by PySem.W.S.findZ_eq
name_quick tw5200128776193632040 for PySem.W.S.findZ by PySem.W.S.findZ_eq
name_quick tw5349121933718820234 for PySem.W.S.findZ by PySem.W.S.findZ_eq
name_quick tw5396446701170858492 for PySem.W.S.findZ by PySem.W.S.findZ_eq
name_quick tw5721027456603625697 for PySem.W.S.findZ by PySem.W.S.findZ_eq
name_quick tw5770868932273138760 for PySem.W.S.findZ by PySem.W.S.findZ_eq
name_quick tw5882768191206486792 for PySem.W.S.findZ by PySem.W.S.findZ_eq
name_quick tw5978237884098788730 for PySem.W.S.findZ by PySem.W.S.findZ_eq
name_quick tw6122645084068987007 for PySem.W.S.findZ by PySem.W.S.findZ_eq
name_quick tw6380047634161181297 for PySem.W.S.findZ by PySem.W.S.findZ_eq
name_quick tw6434138532213402376 for PySem.W.S.findZ by PySem.W.S.findZ_eq
name_quick tw6550987210724342151 for PySem.W.S.findZ by PySem.W.S.findZ_eq
name_quick tw6589095468515690095 for PySem.W.S.findZ by PySem.W.S.findZ_eq
name_quick tw662354867322794072 for PySem.W.S.findZ by PySem.W.S.findZ_eq
name_quick tw6654550962395885724 for PySem.W.S.findZ by PySem.W.S.findZ_eq
name_quick tw667198328695590252 for PySem.W.S.findZ by PySem.W.S.findZ_eq
name_quick tw6679490504615227074 for PySem.W.S.findZ by PySem.W.S.findZ_eq
name_quick tw6683783046931543321 for PySem.W.S.findZ by PySem.W.S.findZ_eq
name_quick tw6711915476519705758 for PySem.W.S.findZ by PySem.W.S.findZ_eq
name_quick tw6817277305950994716 for PySem.W.S.findZ by PySem.W.S.findZ_eq
name_quick tw6929956602132211858 for PySem.W.S.findZ by PySem.W.S.findZ_eq
name_quick tw704327219915372674 for PySem.W.S.findZ by PySem.W.S.findZ_eq
name_quick tw7250012664060256230 for PySem.W.S.findZ by PySem.W.S.findZ_eq
name_quick tw7269565832213808900 for PySem.W.S.findZ by PySem.W.S.findZ_eq
name_quick tw7275051467321613617 for PySem.W.S.findZ by PySem.W.S.findZ_eq
name_quick tw7276740287692124622 for PySem.W.S.findZ by PySem.W.S.findZ_eq
name_quick tw7299303143086499733 for PySem.W.S.findZ by PySem.W.S.findZ_eq
name_quick tw7323676302269181137 for PySem.W.S.findZ by PySem.W.S.findZ_eq
name_quick tw7401281599722004195 for PySem.W.S.findZ by PySem.W.S.findZ_eq
name_quick tw7496433998918960881 for PySem.W.S.findZ by PySem.W.S.findZ_eq
name_quick tw7892128664451923741 for PySem.W.S.findZ by PySem.W.S.findZ_eq
name_quick tw8119918657739134586 for PySem.W.S.findZ by PySem.W.S.findZ_eq
name_quick tw8206430501311747189 for PySem.W.S.findZ by PySem.W.S.findZ_eq
name_quick tw8424611434330503625 for PySem.W.S.findZ by PySem.W.S.findZ_eq
name_quick tw8537084889766193716 for PySem.W.S.findZ by PySem.W.S.findZ_eq
name_quick tw8579058602437062094 for PySem.W.S.findZ by PySem.W.S.findZ_eq
name_quick tw8693227569615203950 for PySem.W.S.findZ by PySem.W.S.findZ_eq
name_quick tw8703263022893421829 for PySem.W.S.findZ by PySem.W.S.findZ_eq
name_quick tw8719427161674164953 for PySem.W.S.findZ by PySem.W.S.findZ_eq
name_quick tw8727135674562949291 for PySem.W.S.findZ by PySem.W.S.findZ_eq
name_quick tw8753696776887207221 for PySem.W.S.findZ by PySem.W.S.findZ_eq
name_quick tw8860024209350480642 for PySem.W.S.findZ by PySem.W.S.findZ_eq
name_quick tw912392155897948271 for PySem.W.S.findZ by PySem.W.S.findZ_eq
name_quick tw9285146279643344392 for PySem.W.S.findZ by PySem.W.S.findZ_eq
name_quick tw9315938663221665524 for PySem.W.S.findZ by PySem.W.S.findZ_eq
name_quick tw9407582987413476825 for PySem.W.S.findZ by PySem.W.S.findZ_eq
name_quick tw9458956999447867950 for PySem.W.S.findZ by PySem.W.S.findZ_eq
name_quick tw9467589175468403638 for PySem.W.S.findZ by PySem.W.S.findZ_eq
name_quick tw951843321253372498 for PySem.W.S.findZ by PySem.W.S.findZ_eq
name_quick tw9529234661008812162 for PySem.W.S.findZ by PySem.W.S.findZ_eq
name_quick tw9564595351457756722 for PySem.W.S.findZ by PySem.W.S.findZ_eq
name_quick tw9594665118957945026 for PySem.W.S.findZ by PySem.W.S.findZ_eq
name_quick tw9759809726879904816 for PySem.W.S.findZ by PySem.W.S.findZ_eq
name_quick tw9763268239775435451 for PySem.W.S.findZ by PySem.W.S.findZ_eq
name_quick tw9787463984185863102 for PySem.W.S.findZ by PySem.W.S.findZ_eq
name_quick tw9862997608875712007 for PySem.W.S.findZ by PySem.W.S.findZ_eq
name_quick tw9908251947323293946 for PySem.W.S.findZ by PySem.W.S.findZ_eq
name_quick tw9948023125614773506 for PySem.W.S.findZ by PySem.W.S.findZ_eq
name_quick tw9951705424602377420 for PySem.W.S.findZ by PySem.W.S.findZ_eq
namespace Mine
-- Hd
section
set_option maxRecDepth 100000 in
set_option maxHeartbeats 8000000 in
open_top hd for PySem.Challenge.rw_sa0442_01
end
open PySem.Calls
-- Plain
section
/-- the pairs (kind, text) that _law_word can draw -/
def toks : List (String × String) := [("sign", ">"), ("sign", ">>"), ("sign", ">="), ("sign", ">>="), ("sign", "<"), ("sign", "="), ("sign", "("), ("sign", "::"), ("sign", "->"),
  ("name", "a"), ("name", "fn"), ("name", "self"), ("name", "Self"), ("name", "_"), ("name", "_b"), ("name", "u8"), ("int", "7"), ("region", "'a")]

def seps : List String := [" ", "  ", "\n"]
/-- a piece of a text: a drawn word and what stands behind it -/
structure Pc where
  k : String
  t : String
  sep : String
def OkPc (p : Pc) : Prop := (p.k, p.t) ∈ toks ∧ p.sep ∈ seps
/-- a word as the law tells it: kind, text, place, a seven or none -/
structure Wd where
  k : Str
  t : Str
  pos : Int
  seven : Bool
def Wd.dat (w : Wd) : Dat := .tuple [.str w.k, .str w.t, .int w.pos, if w.seven then .int 7 else .none, .none]
def bldStep (s : Str × List Wd) (p : Pc) : Str × List Wd :=
  ((s.1 ++ Str.ofString p.t) ++ Str.ofString p.sep, s.2 ++ [⟨Str.ofString p.k, Str.ofString p.t, s.1.length, Str.ofString p.k == Str.ofString "int"⟩])
def bld (ps : List Pc) : Str × List Wd := ps.foldl bldStep (Str.ofString "", [])
def textOf (ps : List Pc) : Str := (bld ps).1
def duesOf (ps : List Pc) : List Wd := (bld ps).2
def endW (n : Int) : Wd := ⟨Str.ofString "end", Str.ofString "", n, false⟩
theorem textOf_nil : textOf [] = Str.ofString "" := rfl
theorem duesOf_nil : duesOf [] = [] := rfl
theorem textOf_snoc (ps : List Pc) (p : Pc) : textOf (ps ++ [p]) = (textOf ps ++ Str.ofString p.t) ++ Str.ofString p.sep := by
  unfold textOf bld; rw [List.foldl_append]; rfl
theorem duesOf_snoc (ps : List Pc) (p : Pc) : duesOf (ps ++ [p]) = duesOf ps ++ [⟨Str.ofString p.k, Str.ofString p.t, (textOf ps).length, Str.ofString p.k == Str.ofString "int"⟩] := by
  unfold duesOf textOf bld; rw [List.foldl_append]; rfl
theorem tok_len {k t : String} (h : (k, t) ∈ toks) : (Str.ofString t).length ≤ 4 := by
  have : ∀ p ∈ toks, (Str.ofString p.2).length ≤ 4 := by decide +kernel
  exact this _ h
theorem sep_len {t : String} (h : t ∈ seps) : (Str.ofString t).length ≤ 2 := by
  have : ∀ p ∈ seps, (Str.ofString p).length ≤ 2 := by decide +kernel
  exact this _ h
theorem snoc_ind {α : Type} {P : List α → Prop} (h0 : P []) (h1 : ∀ l a, P l → P (l ++ [a])) (l : List α) : P l := by
  have : ∀ l : List α, P l.reverse := by
    intro l
    induction l with
    | nil => exact h0
    | cons a l ih => rw [List.reverse_cons]; exact h1 _ _ ih
  have := this l.reverse
  rwa [List.reverse_reverse] at this
theorem textOf_len : ∀ ps : List Pc, (∀ p ∈ ps, OkPc p) → (textOf ps).length ≤ 6 * ps.length := by
  refine snoc_ind ?_ ?_
  · intro _; decide +kernel
  · intro l a ih h
    have h1 := ih fun p hp => h p (List.mem_append_left _ hp)
    have h2 := h a (List.mem_append_right _ (.head _))
    have h3 := tok_len h2.1
    have h4 := sep_len h2.2
    rw [textOf_snoc, Str.length_append, Str.length_append, List.length_append, List.length_singleton]
    omega
theorem duesOf_len : ∀ ps : List Pc, (duesOf ps).length = ps.length := by
  refine snoc_ind rfl ?_
  intro l a ih
  rw [duesOf_snoc, List.length_append, List.length_append, ih]; rfl

abbrev Led := List (Addr × Obj)
/-- a ledger of tuples alone -/
def TupLed (l : Led) : Prop := ∀ q ∈ l, q.2.cls = .type "tuple"
theorem TupLed.nil : TupLed [] := fun _ h => nomatch h
theorem TupLed.cons {q : Addr × Obj} {l : Led} (h : q.2.cls = .type "tuple") (k : TupLed l) : TupLed (q :: l) := fun p hp => by
  rcases List.mem_cons.mp hp with rfl | hp
  · exact h
  · exact k p hp
theorem TupLed.append {a b : Led} (h : TupLed a) (k : TupLed b) : TupLed (a ++ b) := fun p hp => (List.mem_append.mp hp).elim (h p) (k p)
theorem news_apart {h₀ h : Heap} {L : Addr} {news : Led} {q p : Addr × Obj} (N : News h₀ L h news) (hq : q ∈ news) (hp : p ∈ news) (hne : q.2.cls ≠ p.2.cls) : p.1 ≠ q.1 := fun e => by
  have h1 := (N q hq).1
  have h2 := (N p hp).1
  rw [e, h1] at h2
  exact hne (congrArg Obj.cls (Option.some.inj h2))
/-- tuples stand apart from what is no tuple -/
theorem own_of_tups {h₀ h : Heap} {L : Addr} {news tups : Led} {adr : List Addr} (N : News h₀ L h news) (ht : TupLed tups) (hs : ∀ q ∈ tups, q ∈ news) (ha : ∀ b ∈ adr, ∃ o, (b, o) ∈ news ∧ o.cls ≠ .type "tuple") : OwnOff tups adr := by
  intro q hq b hb
  obtain ⟨o, hm, hc⟩ := ha b hb
  exact Ne.symm (news_apart N (hs q hq) hm (by rw [ht q hq]; exact Ne.symm hc))
theorem OwnOff.cons {own : Led} {b : Addr} {adr : List Addr} (h : ∀ p ∈ own, p.1 ≠ b) (k : OwnOff own adr) : OwnOff own (b :: adr) := fun p hp c hc => by
  rcases List.mem_cons.mp hc with rfl | hc
  · exact h p hp
  · exact k p hp c hc
theorem wordDat (w : Wd) : w.dat = .tuple [.str w.k, .str w.t, .int w.pos, if w.seven then .int 7 else .none, .none] := rfl

theorem datIn_word {news : Led} {a : Addr} {k t : Str} {p : Int} {b : Bool} {v4 : Value} {t1 t2 t3 : Tok} {n : Nat} (hm : (a, ({ cls := .type "tuple", data := .seq [.str k t1, .str t t2, .int p t3, v4, .none].toArray n } : Obj)) ∈ news)
    (h4 : (b = true ∧ ∃ t4, v4 = .int 7 t4) ∨ (b = false ∧ v4 = .none)) : DatIn news (.ref a) (Wd.dat ⟨k, t, p, b⟩) := by
  refine DatIn.tuple hm (.cons (.str _ _) (.cons (.str _ _) (.cons (.int _ _) (.cons ?_ (.cons .none .nil)))))
  rcases h4 with ⟨rfl, t4, rfl⟩ | ⟨rfl, rfl⟩
  · exact .int _ _
  · exact .none
theorem map_dues_snoc (ps : List Pc) (p : Pc) : (duesOf (ps ++ [p])).map Wd.dat = (duesOf ps).map Wd.dat ++ [Wd.dat ⟨Str.ofString p.k, Str.ofString p.t, (textOf ps).length, Str.ofString p.k == Str.ofString "int"⟩] := by
  rw [duesOf_snoc, List.map_append]; rfl
theorem all_snoc {ps : List Pc} {p : Pc} (h : ∀ q ∈ ps, OkPc q) (hp : OkPc p) : ∀ q ∈ ps ++ [p], OkPc q := fun q hq => by
  rcases List.mem_append.mp hq with hq | hq
  · exact h q hq
  · rcases List.mem_cons.mp hq with rfl | hq
    · exact hp
    · cases hq

/-- the end of a run of signs out of S, from i -/
def runEnd (x S : Str) (i : Nat) : Nat := i + ((x.cps.toList.drop i).takeWhile fun c => S.cps.toList.contains c).length
theorem runEnd_out {x S : Str} {i : Nat} (h : x.length ≤ i) : runEnd x S i = i := by
  unfold runEnd
  have : x.cps.toList.drop i = [] := List.drop_eq_nil_of_le (by simpa [Str.length] using h)
  rw [this]; rfl
theorem runEnd_no {x S : Str} {i c : Nat} (hc : x.cps.toList[i]? = some c) (h : S.cps.toList.contains c = false) : runEnd x S i = i := by
  unfold runEnd
  obtain ⟨hi, e⟩ := List.getElem?_eq_some_iff.mp hc
  rw [List.drop_eq_getElem_cons hi, e, List.takeWhile_cons, h]; rfl
theorem runEnd_yes {x S : Str} {i c : Nat} (hc : x.cps.toList[i]? = some c) (h : S.cps.toList.contains c = true) : runEnd x S i = runEnd x S (i + 1) := by
  unfold runEnd
  obtain ⟨hi, e⟩ := List.getElem?_eq_some_iff.mp hc
  rw [List.drop_eq_getElem_cons hi, e, List.takeWhile_cons, h]
  simp only [if_true, List.length_cons]
  omega
theorem runEnd_le {x S : Str} {i : Nat} (h : i ≤ x.length) : i ≤ runEnd x S i ∧ runEnd x S i ≤ x.length := by
  unfold runEnd
  have h1 : ((x.cps.toList.drop i).takeWhile fun c => S.cps.toList.contains c).length ≤ (x.cps.toList.drop i).length := (List.takeWhile_sublist _).length_le
  rw [List.length_drop] at h1
  have h2 : x.cps.toList.length = x.length := by simp [Str.length]
  omega
theorem item_one {x : Str} {j : Nat} (h : j < x.length) : ∃ c, x.cps.toList[j]? = some c ∧ Txt.item x (j : Int) = ⟨#[c]⟩ := by
  have h' : j < x.cps.size := h
  refine ⟨x.cps[j], by simp [h'], PyProof.Rows.item_meets (Int.natCast_nonneg _) ?_⟩
  simp [h']
theorem in_item {x S : Str} {j : Nat} {b : Bool} (h : j < x.length) (hb : (Builtin.Str.occurrences S (Txt.item x (j : Int)) 0 S.length 1).isEmpty = b) : ∃ c, x.cps.toList[j]? = some c ∧ S.cps.toList.contains c = !b := by
  obtain ⟨c, h1, h2⟩ := item_one h
  refine ⟨c, h1, ?_⟩
  have h3 := StrLaws.found_one S c
  rw [h2] at hb
  rw [hb] at h3
  rw [h3]
  simp [List.contains_iff_mem]
theorem sliceIdx_two_beyond (len : Nat) {i j : Int} (h : (len : Int) ≤ j) : PySem.Builtin.Str.strSliceIndices (some i) (some j) 1 len = PySem.Builtin.Str.strSliceIndices (some i) (some (len : Int)) 1 len := by
  have a1 : ¬ j < 0 := by omega
  have a2 : ¬ ((len : Int) < 0) := by omega
  have e1 : max (0 : Int) (min j (len : Int)) = len := by omega
  have e2 : max (0 : Int) (min (len : Int) (len : Int)) = len := by omega
  simp [PySem.Builtin.Str.strSliceIndices, a1, a2, e1, e2]
theorem sliceL {x : Str} {i : Nat} {j : Int} (h0 : i ≤ x.length) (h1 : (i : Int) ≤ j) : Txt.slice x (some (i : Int)) (some j) = ⟨((x.cps.toList.drop i).take (j - i).toNat).toArray⟩ := by
  by_cases h2 : j ≤ x.length
  · have := PyProof.Rows.slice_closesL (x := x) (i := i) (j := j) (by omega) h1 h2
    have := eq_of_beq this
    simpa using this
  · have e : Txt.slice x (some (i : Int)) (some j) = Txt.slice x (some (i : Int)) (some (x.length : Int)) := by
      show StrLaws.sliceText x (some (i : Int)) (some j) = StrLaws.sliceText x (some (i : Int)) (some (x.length : Int))
      unfold StrLaws.sliceText
      rw [sliceIdx_two_beyond x.length (by omega)]
    rw [e]
    have := eq_of_beq (PyProof.Rows.slice_closesL (x := x) (i := i) (j := x.length) (by omega) (by omega) (Int.le_refl _))
    rw [this]
    have hl : x.cps.toList.length = x.length := by simp [Str.length]
    have t1 : (x.cps.toList.drop i).take (j - i).toNat = x.cps.toList.drop i := List.take_of_length_le (by rw [List.length_drop]; omega)
    have t2 : (x.cps.toList.drop i).take ((x.length : Int) - i).toNat = x.cps.toList.drop i := List.take_of_length_le (by rw [List.length_drop]; omega)
    simp only [Int.toNat_natCast]
    rw [t1, t2]
theorem slash_no {x y : Str} {j : Nat} (h : j < x.length) (hn : ∀ c ∈ x.cps.toList, c ≠ 47) (hy : y.cps.toList.head? = some 47) : ¬ ((Txt.slice x (some (j : Int)) (some ((j : Int) + 2)) == y) = true) := by
  intro e
  have e := eq_of_beq e
  rw [sliceL (Nat.le_of_lt h) (by omega)] at e
  have hj : j < x.cps.toList.length := by simpa [Str.length] using h
  rw [← e, List.drop_eq_getElem_cons hj] at hy
  have h2 : (((j : Int) + 2 - (j : Int)).toNat) = 2 := by omega
  rw [h2, List.take_succ_cons] at hy
  have := hn _ (List.getElem_mem hj)
  exact this (Option.some.inj hy)
theorem runEnd_stop {x S : Str} {i : Nat} (h : i ≤ x.length) : runEnd x S (runEnd x S i) = runEnd x S i := by
  unfold runEnd
  have key : ((x.cps.toList.drop (i + ((x.cps.toList.drop i).takeWhile fun c => S.cps.toList.contains c).length)).takeWhile fun c => S.cps.toList.contains c) = [] := by
    rw [← List.drop_drop]
    generalize x.cps.toList.drop i = l
    induction l with
    | nil => rfl
    | cons a l ih =>
      rw [List.takeWhile_cons]
      cases hc : S.cps.toList.contains a with
      | true => simpa using ih
      | false =>
        show List.takeWhile _ (List.drop 0 (a :: l)) = []
        rw [List.drop_zero, List.takeWhile_cons, hc]
        rfl
  rw [key]
  rfl
end
-- Plain2
section
/-- what may stand behind a word: nothing, or a blank -/
def Tail (r : List Nat) : Prop := r = [] ∨ (∃ q, r = 32 :: q) ∨ ∃ q, r = 10 :: q
/-- a word stands in x at i -/
def TokAt (x : Str) (i : Nat) (t : String) (r : List Nat) : Prop := x.cps.toList.drop i = (Str.ofString t).cps.toList ++ r ∧ Tail r
def toksB : List (String × String) := ("name", "b") :: toks
def signsL : List String := ["<<=", ">>=", "..=", "::", "->", "=>", "==", "!=", "<=", ">=", "&&", "||", "<<", ">>", "..", "+=", "-=", "*=", "/=", "%=", "&=", "|=", "^=", "(", ")", "{", "}", "[", "]", ",", ";", ":", ".", "=", "<", ">", "+", "-", "*", "/", "%", "&", "|", "^", "!", "@"]
def signsN : List (List Nat) := [[60,60,61],[62,62,61],[46,46,61],[58,58],[45,62],[61,62],[61,61],[33,61],[60,61],[62,61],[38,38],[124,124],[60,60],[62,62],[46,46],[43,61],[45,61],[42,61],[47,61],[37,61],[38,61],[124,61],[94,61],[40],[41],[123],[125],[91],[93],[44],[59],[58],[46],[61],[60],[62],[43],[45],[42],[47],[37],[38],[124],[94],[33],[64]]
theorem signsN_eq : signsL.map (fun s => (Str.ofString s).cps.toList) = signsN := by decide +kernel
def pre? (l : List Nat) (n : List Nat) : Bool := n.isPrefixOf l
theorem TokAt.lt {x : Str} {i : Nat} {t : String} {r : List Nat} (h : TokAt x i t r) : i + (Str.ofString t).length + r.length = x.length ∨ (x.length ≤ i ∧ (Str.ofString t).length = 0 ∧ r = []) := by
  have h1 := congrArg List.length h.1
  rw [List.length_drop, List.length_append] at h1
  have h2 : x.cps.toList.length = x.length := by simp [Str.length]
  have h3 : (Str.ofString t).cps.toList.length = (Str.ofString t).length := by simp [Str.length]
  by_cases hi : x.length ≤ i
  · refine .inr ⟨hi, by omega, ?_⟩
    exact List.eq_nil_of_length_eq_zero (by omega)
  · exact .inl (by omega)
theorem str_ext {a b : Str} (h : a.cps.toList = b.cps.toList) : a = b := by
  cases a with | mk a => cases b with | mk b => exact congrArg Str.mk (Array.toList_inj.mp h)
/-- a slice of a sign's length at i is that sign just if it stands there -/
theorem slice_pre {x s : Str} {i : Nat} (hi : i ≤ x.length) : (Txt.slice x (some (i : Int)) (some ((i : Int) + (s.length : Int))) == s) = s.cps.toList.isPrefixOf (x.cps.toList.drop i) := by
  rw [sliceL hi (by omega)]
  have e : (((i : Int) + (s.length : Int) - (i : Int)).toNat) = s.cps.toList.length := by simp [Str.length]; omega
  rw [e]
  rw [Bool.eq_iff_iff, beq_iff_eq, List.isPrefixOf_iff_prefix, List.prefix_iff_eq_take]
  constructor
  · intro h
    have := congrArg (fun s : Str => s.cps.toList) h
    simpa using this.symm
  · intro h
    exact str_ext (by simpa using h.symm)
def idxOf : List (String × Nat) := [(">", 35), (">>", 13), (">=", 9), (">>=", 1), ("<", 34), ("=", 33), ("(", 23), ("::", 3), ("->", 4)]
theorem first_sign {t : String} {r : List Nat} (ht : ("sign", t) ∈ toksB) (hr : Tail r) : ∃ n : Nat, signsL[n]? = some t ∧ pre? ((Str.ofString t).cps.toList ++ r) (Str.ofString t).cps.toList = true ∧ ∀ k : Nat, k < n → ∀ l, signsN[k]? = some l → pre? ((Str.ofString t).cps.toList ++ r) l = false := by
  have all : ∀ (c : List Nat) (n : Nat), (∀ r, Tail r → (signsN.take n).all (fun l => !pre? (c ++ r) l) = true) → ∀ r, Tail r → ∀ k : Nat, k < n → ∀ l, signsN[k]? = some l → pre? (c ++ r) l = false := by
    intro c n h r hr k hk l hl
    have := List.all_eq_true.mp (h r hr) l (by
      rw [List.mem_iff_getElem?]
      exact ⟨k, by rw [List.getElem?_take_of_lt hk]; exact hl⟩)
    simpa using this
  have self : pre? ((Str.ofString t).cps.toList ++ r) (Str.ofString t).cps.toList = true := by
    unfold pre?
    rw [List.isPrefixOf_iff_prefix]
    exact List.prefix_append _ _
  simp only [toksB, toks, List.mem_cons, Prod.mk.injEq, List.not_mem_nil, or_false, reduceCtorEq, false_and, and_false, false_or, String.reduceEq, true_and] at ht
  rcases ht with rfl | rfl | rfl | rfl | rfl | rfl | rfl | rfl | rfl
  · refine ⟨35, rfl, self, ?_⟩
    rw [show (Str.ofString ">").cps.toList = [62] from by decide +kernel]
    refine all _ _ ?_ r hr
    rintro r (rfl | ⟨q, rfl⟩ | ⟨q, rfl⟩) <;> rfl
  · refine ⟨13, rfl, self, ?_⟩
    rw [show (Str.ofString ">>").cps.toList = [62, 62] from by decide +kernel]
    refine all _ _ ?_ r hr
    rintro r (rfl | ⟨q, rfl⟩ | ⟨q, rfl⟩) <;> rfl
  · refine ⟨9, rfl, self, ?_⟩
    rw [show (Str.ofString ">=").cps.toList = [62, 61] from by decide +kernel]
    refine all _ _ ?_ r hr
    rintro r (rfl | ⟨q, rfl⟩ | ⟨q, rfl⟩) <;> rfl
  · refine ⟨1, rfl, self, ?_⟩
    rw [show (Str.ofString ">>=").cps.toList = [62, 62, 61] from by decide +kernel]
    refine all _ _ ?_ r hr
    rintro r (rfl | ⟨q, rfl⟩ | ⟨q, rfl⟩) <;> rfl
  · refine ⟨34, rfl, self, ?_⟩
    rw [show (Str.ofString "<").cps.toList = [60] from by decide +kernel]
    refine all _ _ ?_ r hr
    rintro r (rfl | ⟨q, rfl⟩ | ⟨q, rfl⟩) <;> rfl
  · refine ⟨33, rfl, self, ?_⟩
    rw [show (Str.ofString "=").cps.toList = [61] from by decide +kernel]
    refine all _ _ ?_ r hr
    rintro r (rfl | ⟨q, rfl⟩ | ⟨q, rfl⟩) <;> rfl
  · refine ⟨23, rfl, self, ?_⟩
    rw [show (Str.ofString "(").cps.toList = [40] from by decide +kernel]
    refine all _ _ ?_ r hr
    rintro r (rfl | ⟨q, rfl⟩ | ⟨q, rfl⟩) <;> rfl
  · refine ⟨3, rfl, self, ?_⟩
    rw [show (Str.ofString "::").cps.toList = [58, 58] from by decide +kernel]
    refine all _ _ ?_ r hr
    rintro r (rfl | ⟨q, rfl⟩ | ⟨q, rfl⟩) <;> rfl
  · refine ⟨4, rfl, self, ?_⟩
    rw [show (Str.ofString "->").cps.toList = [45, 62] from by decide +kernel]
    refine all _ _ ?_ r hr
    rintro r (rfl | ⟨q, rfl⟩ | ⟨q, rfl⟩) <;> rfl
/-- the first sign that stands there is the word -/
theorem sign_is {t : String} {r : List Nat} (ht : ("sign", t) ∈ toksB) (hr : Tail r) {i : Nat} {s : String} (hs : signsL[i]? = some s) (hp : (Str.ofString s).cps.toList.isPrefixOf ((Str.ofString t).cps.toList ++ r) = true)
    (hn : ∀ k : Nat, k < i → ∀ s', signsL[k]? = some s' → (Str.ofString s').cps.toList.isPrefixOf ((Str.ofString t).cps.toList ++ r) = false) : s = t := by
  obtain ⟨n, h1, h2, h3⟩ := first_sign ht hr
  have get : ∀ (k : Nat) (s' : String), signsL[k]? = some s' → signsN[k]? = some (Str.ofString s').cps.toList := by
    intro k s' h
    rw [← signsN_eq, List.getElem?_map, h]
    rfl
  rcases Nat.lt_trichotomy i n with h | h | h
  · have := h3 i h _ (get i s hs)
    unfold pre? at this
    rw [hp] at this
    cases this
  · rw [h, h1] at hs
    exact (Option.some.inj hs).symm
  · have := hn n h t h1
    unfold pre? at h2
    rw [h2] at this
    cases this
theorem sign_some {t : String} {r : List Nat} (ht : ("sign", t) ∈ toksB) (hr : Tail r)
    (hn : ∀ k : Nat, k < signsL.length → ∀ s', signsL[k]? = some s' → (Str.ofString s').cps.toList.isPrefixOf ((Str.ofString t).cps.toList ++ r) = false) : False := by
  obtain ⟨n, h1, h2, h3⟩ := first_sign ht hr
  have := hn n (List.getElem?_eq_some_iff.mp h1).1 t h1
  unfold pre? at h2
  rw [h2] at this
  cases this
end
-- Base
section
/-- the around of a contract: nothing handled, a depth, frames, guards, units -/
abbrev ar (dp un : Nat) (gd : Option (List Code)) (fr : List Env) : Around := { handled := none, depth := dp, frames := some fr, guards := gd, units := un }

/-- a contract: from a ledger `pre` (over anything that stays) the call of f gives v and a ledger told by Post -/
def CSpec (prog : Program) (w : World) (d u : Nat) (f : Addr) (args : List Value) (pre : Led) (ro : Heap → Prop) (Post : Value → Led → Prop) : Prop :=
  ∀ (dp un : Nat) (gd : Option (List Code)) (outer : List Env) (A₀ : Around) (base g : Heap) (s : Shared) (p : Program) (loose : List Str) (mean : ExcName → Option Value) (mg mb : Str → Option Value) (R : Result → Shared → Prop),
    Below A₀ base outer g → g.StaysIn s.heap → g.objs.size ≤ s.heap.objs.size → (hd.heap_39 w.params).In g → Top p loose mean mg mb g → (∀ q ∈ pre, s.heap.get? q.1 = some q.2 ∧ g.get? q.1 = none) → ro g →
    dp + d < 900 → un + u < 9000 →
    (∀ v h' tk' tl, g.StaysIn h' → (∀ q ∈ tl, h'.get? q.1 = some q.2 ∧ g.get? q.1 = none) → Post v tl → R (.ok (.ret v)) { s with heap := h', toks := tk' }) →
    codeAny (model prog w) (ar dp un gd outer) (.call (.ref f) ⟨args, []⟩) R s

section
variable {prog : Program} {w : World} {A₀ : Around} {s : Shared} {base g : Heap} {outer : List Env} {K : Frag}
  {R : Result → Shared → Prop} {name qual : Str} {params : Arguments} {body : List Stmt} {scope : Scope} {dV kV doc pm cdv ct oc : Value} {an od : Option Addr} {osl : Array (Option Value)} {f : Addr} {args : Args} {binds : List (Str × Value)}
  {p : Program} {loose : List Str} {mean : ExcName → Option Value} {mg mb : Str → Option Value} {pre : Led} {dp un : Nat} {gd : Option (List Code)}

theorem spec_enter (_B : Below A₀ base outer g) (st : g.StaysIn s.heap) (sz : g.objs.size ≤ s.heap.objs.size) (X : K.In g) (T : Top p loose mean mg mb g) (N : ∀ q ∈ pre, s.heap.get? q.1 = some q.2 ∧ g.get? q.1 = none)
    (ho : K.lookup f = some ⟨oc, od, .func (fnOf name qual params body scope dV kV doc pm an cdv ct), osl⟩) (hcd : codeIn K cdv qual = true) (hroom : dp < recursionLimit)
    (hbind : BindsTo s (fnOf name qual params body scope dV kV doc pm an cdv ct) args binds) (hloc : ∀ y ∈ binds, scope.names.lookup y.1 = some .local)
    (h : ∀ L' h₁, Fr g L' h₁ (fun y => binds.reverse.lookup y) → News g L' h₁ pre →
      wpAny (model prog w) ((ar dp un gd outer).deeper (envOf qual scope L' f cdv)) (execs body (envOf qual scope L' f cdv))
        (fun fl s' => R (.ok (.ret (match fl with | .ret v => v | _ => .none))) s')
        (fun e s' => wpAny (model prog w) ((ar dp un gd outer).deeper (envOf qual scope L' f cdv)) (leaving (envOf qual scope L' f cdv) e) (fun _ s'' => R (.error e) s'') (fun e' s'' => R (.error e') s'') s')
        { s with heap := h₁, toks := s.toks + binds.length })
    (hco : scope.isCoroutine = false := by rfl) (hgen : scope.isGenerator = false := by rfl) (hk : scope.kind = .function := by rfl)
    (hcell : ∀ x ∈ scope.names, x.2 ≠ .cell := by decide) : codeAny (model prog w) (ar dp un gd outer) (.call (.ref f) args) R s := by
  refine codeAny_call_def (fd := fnOf name qual params body scope dV kV doc pm an cdv ct) (body := body) (binds := binds) hroom (st _ _ (X _ _ ho)) rfl (T.nolimit.keeps st) (codeRec_of (X.keeps st) hcd) rfl hbind hcell hloc (fun h₁ hns hk₁ => ?_) hco hgen hk
  exact h s.heap.objs.size h₁ ⟨hns, fun b o e => hk₁ b o (st b o e), sz⟩ fun q hq => ⟨hk₁ _ _ (N q hq).1, Nat.ne_of_lt (Heap.lt_size (N q hq).1), (N q hq).2⟩
end

/-- an end of a contract's walk -/
theorem spec_end {g : Heap} {L : Addr} {h : Heap} {m : Str → Option Value} {news : Led} {s : Shared} {tk : Nat} {v : Value} {R : Result → Shared → Prop} {Post : Value → Led → Prop}
    (hret : ∀ v h' tk' tl, g.StaysIn h' → (∀ q ∈ tl, h'.get? q.1 = some q.2 ∧ g.get? q.1 = none) → Post v tl → R (.ok (.ret v)) { s with heap := h', toks := tk' })
    (F : Fr g L h m) (N : News g L h news) (P : Post v news) : R (.ok (.ret v)) { s with heap := h, toks := tk } :=
  hret v h tk news F.keep (fun q hq => ⟨(N q hq).1, (N q hq).2.2⟩) P

theorem intBits_fmod {a b : Int} (h0 : 0 < b) (h : b < 2 ^ 60) : Builtin.Int.intBits (a.fmod b) ≤ 64 := by
  have h1 := Int.fmod_nonneg_of_pos a h0
  have h2 := Int.fmod_lt_of_pos a h0
  exact PySem.intBits_le_64 (by omega) (by omega)

/-- the rest of a ledger beside `pre` -/
inductive Part : Led → Led → Led → Prop where
  | nil {pre : Led} : Part [] pre []
  | out {pre l r : Led} {q : Addr × Obj} : q ∈ pre → Part l pre r → Part (q :: l) pre r
  | stay {pre l r : Led} {q : Addr × Obj} : (∀ p ∈ pre, p.1 ≠ q.1) → Part l pre r → Part (q :: l) pre (q :: r)
  | tail {pre tl : Led} : (∀ q ∈ tl, ∀ p ∈ pre, p.1 ≠ q.1) → Part tl pre tl
theorem Part.rest {l pre r : Led} (h : Part l pre r) : ∀ q ∈ r, q ∈ l ∧ ∀ p ∈ pre, p.1 ≠ q.1 := by
  induction h with
  | nil => intro q hq; cases hq
  | out _ _ ih => intro q hq; exact ⟨.tail _ (ih q hq).1, (ih q hq).2⟩
  | stay hn _ ih =>
    intro q hq
    rcases List.mem_cons.mp hq with rfl | hq
    · exact ⟨.head _, hn⟩
    · exact ⟨.tail _ (ih q hq).1, (ih q hq).2⟩
  | tail hn => intro q hq; exact ⟨hq, hn q hq⟩

def Apart (tl rest : Led) : Prop := ∀ q ∈ tl, ∀ p ∈ rest, @Ne Nat p.1 q.1

section
variable {prog : Program} {w : World} {A₀ : Around} {E : Value → Shared → Prop} {s : Shared} {base h₀ : Heap} {outer : List Env} {env : Env} {L : Addr} {m : Str → Option Value}
  {p : Program} {loose : List Str} {mean : ExcName → Option Value} {mg mb : Str → Option Value} {pre news rest : Led} {dp un d u : Nat} {gd : Option (List Code)} {f : Addr} {args : List Value} {ro : Heap → Prop} {Post : Value → Led → Prop} {Q : Value → Shared → Prop}
set_option maxHeartbeats 2000000 in
theorem use_spec (B : Below A₀ base outer h₀) (F : Fr h₀ L s.heap m) (X : (hd.heap_39 w.params).In h₀) (N : News h₀ L s.heap news) (T : Top p loose mean mg mb h₀) (hf : env.frame = some L) (hk : env.scope.kind = .function)
    (C : CSpec prog w d u f args pre ro Post) (hpre : ∀ q ∈ pre, q ∈ news) (hrest : Part news pre rest) (hro : ∀ g : Heap, h₀.StaysIn g → (∀ q ∈ rest, g.get? q.1 = some q.2) → ro g) (hd : dp + d < 900) (hu : un + u < 9000)
    (ret : ∀ v h' tk' tl, Fr h₀ L h' m → News h₀ L h' (tl ++ rest) → Apart tl rest → Post v tl → Q v { s with heap := h', toks := tk' }) :
    wpAny (model prog w) (ar dp un gd (env :: outer)) (call (.ref f) args) Q E s := by
  have Np : News h₀ L s.heap pre := fun q hq => N q (hpre q hq)
  obtain ⟨FG, BG, st, -⟩ := groundX (R := fun _ _ => True) (A := ar dp un gd (env :: outer)) B F Np rfl hf hk
  have hg : ∀ q ∈ rest, (hideAll s.heap (pre.map (·.1))).get? q.1 = some q.2 := fun q hq => hideAll_get _ (N q (hrest.rest q hq).1).1 fun hm => by
    obtain ⟨p', hp', e⟩ := List.mem_map.mp hm
    exact (hrest.rest q hq).2 p' hp' e
  refine wpAny_call ?_
  refine C dp un gd (env :: outer) _ base _ s p loose mean mg mb _ BG (fun b o e => of_hideAll _ e) (Nat.le_of_eq (hideAll_size _ _)) (X.keeps st) (T.keeps st) (fun q hq => ⟨(Np q hq).1, hideAll_none _ (List.mem_map_of_mem hq)⟩) (hro _ st hg) hd hu ?_
  intro v h' tk' tl st' ntl P
  obtain ⟨oL, es, ep, hL, r1, r2, r3⟩ := FG.ns
  refine ret v h' tk' tl ⟨⟨oL, es, ep, st' _ _ hL, r1, r2, r3⟩, fun b o e => st' _ _ (st _ _ e), F.above⟩ (fun q hq => ?_) (fun q hq p' hp' e => ?_) P
  · rcases List.mem_append.mp hq with hq | hq
    · refine ⟨(ntl q hq).1, fun e => ?_, ?_⟩
      · have := (ntl q hq).2; rw [e, hL] at this; cases this
      · cases e : h₀.get? q.1 with
        | none => rfl
        | some o => have := st _ _ e; rw [(ntl q hq).2] at this; cases this
    · exact ⟨st' _ _ (hg q hq), (N q (hrest.rest q hq).1).2⟩
  · have := hg p' hp'; rw [e, (ntl q hq).2] at this; cases this
theorem use_by (B : Below A₀ base outer h₀) (F : Fr h₀ L s.heap m) (X : (hd.heap_39 w.params).In h₀) (N : News h₀ L s.heap news) (T : Top p loose mean mg mb h₀) (hf : env.frame = some L) (hk : env.scope.kind = .function)
    (hpre : ∀ q ∈ pre, q ∈ news) (hrest : Part news pre rest) (hd : dp + d < 900) (hu : un + u < 9000) (C : CSpec prog w d u f args pre ro Post) (hro : ∀ g : Heap, h₀.StaysIn g → (∀ q ∈ rest, g.get? q.1 = some q.2) → ro g)
    (ret : ∀ v h' tk' tl, Fr h₀ L h' m → News h₀ L h' (tl ++ rest) → Apart tl rest → Post v tl → Q v { s with heap := h', toks := tk' }) :
    wpAny (model prog w) (ar dp un gd (env :: outer)) (call (.ref f) args) Q E s := use_spec B F X N T hf hk C hpre hrest hro hd hu ret
end

section
variable {prog : Program} {w : World} {A : Around} {E : Value → Shared → Prop} {s : Shared} {l : Addr} {vs : List Value} {k : Int} {u : Tok} {Q : Value → Shared → Prop}
theorem len_mine (hl : s.heap.IsList l vs.toArray) (hfit : vs.length < 2 ^ 62) (h : Q (.int vs.length (s.toks + 1)) { s with toks := s.toks + 1 + 1 }) : wpAny (model prog w) A (call (.builtin "len") [.ref l]) Q E s := by
  have e : vs.toArray.size = vs.length := List.size_toArray
  refine len_list hl ?_ ?_
  · rw [e]; omega
  · rw [e]; exact h
theorem get_of {vs : List Value} {r : Int} (h0 : 0 ≤ r) (h1 : r < (vs.length : Int)) : ∃ v, vs[r.toNat]? = some v ∧ v ∈ vs := by
  have h : r.toNat < vs.length := by omega
  exact ⟨vs[r.toNat], List.getElem?_eq_getElem h, List.getElem_mem h⟩
theorem item_open {value slice : PySem.Expr} (hl : s.heap.IsList l vs.toArray) (h0 : 0 ≤ k) (h1 : k < (vs.length : Int)) (hfit : k < 2 ^ 63) (h : ∀ v, vs[k.toNat]? = some v → v ∈ vs → Q v s)
    (hs : subscripted slice false (.ref l) (.int k u) = operate [.ref l, .int k u] (getItem (.ref l) (.int k u)) := by with_unfolding_all rfl) :
    wpAny (model prog w) A (subscriptTail value slice (.ref l) (.int k u)) Q E s := by
  obtain ⟨v, hv, hm⟩ := get_of h0 h1
  exact item_litK hl h0 hfit hv (h v hv hm) hs
end
/-- an end of a contract's walk, of a part of the ledger -/
theorem spec_endS {g : Heap} {L : Addr} {h : Heap} {m : Str → Option Value} {news tl : Led} {s : Shared} {tk : Nat} {v : Value} {R : Result → Shared → Prop} {Post : Value → Led → Prop}
    (hret : ∀ v h' tk' tl, g.StaysIn h' → (∀ q ∈ tl, h'.get? q.1 = some q.2 ∧ g.get? q.1 = none) → Post v tl → R (.ok (.ret v)) { s with heap := h', toks := tk' })
    (F : Fr g L h m) (N : News g L h news) (hs : ∀ q ∈ tl, q ∈ news) (P : Post v tl) : R (.ok (.ret v)) { s with heap := h, toks := tk } :=
  hret v h tk tl F.keep (fun q hq => ⟨(N q (hs q hq)).1, (N q (hs q hq)).2.2⟩) P
abbrev tupO (vs : List Value) : Obj := { cls := .type "tuple", data := .seq vs.toArray }
theorem part_own {T pre : Led} {adr : List Addr} (h : OwnOff T adr) (hm : ∀ p ∈ pre, p.1 ∈ adr) : Part T pre T := .tail fun q hq p hp => Ne.symm (h q hq p.1 (hm p hp))
theorem allLt_mem {d : Addr} {l : Led} (h : AllLt d l) : ∀ p ∈ l, @LT.lt Nat _ p.1 d := by
  induction l with
  | nil => intro p hp; cases hp
  | cons a r ih =>
    intro p hp
    rcases List.mem_cons.mp hp with e | hp
    · rw [e]; exact h.1
    · exact ih h.2 p hp
theorem add_mine {prog : Program} {w : World} {A : Around} {E : Value → Shared → Prop} {s : Shared} {x y : Str} {t u : Tok} {Q : Value → Shared → Prop} (h : ∀ t' tk, Q (.str (x ++ y) t') { s with toks := tk }) (hx : x.length ≤ 1000) (hy : y.length ≤ 1000) : wpAny (model prog w) A (binaryOp .Add (.str x t) (.str y u)) Q E s :=
  PyProof.Rows.add_str h (by rw [sizeLine_eq]; omega)
theorem sep_of {v : Value} {a b c : Tok} (h : v ∈ [Value.str (Str.ofString " ") a, Value.str (Str.ofString "  ") b, Value.str (Str.ofString "\n") c]) : ∃ sp t, v = .str (Str.ofString sp) t ∧ sp ∈ seps := by
  simp only [List.mem_cons, List.not_mem_nil, or_false] at h
  rcases h with e | e | e
  · exact ⟨_, _, e, by decide⟩
  · exact ⟨_, _, e, by decide⟩
  · exact ⟨_, _, e, by decide⟩
theorem part_tail {T pre : Led} (h : ∀ p ∈ pre, ∀ q ∈ T, q.1 ≠ p.1) : Part T pre T := .tail fun q hq p hp => Ne.symm (h p hp q hq)
theorem allLt_apart {d : Addr} {l : Led} (h : AllLt d l) : ∀ p ∈ l, p.1 ≠ d := fun p hp => Nat.ne_of_lt (allLt_mem h p hp)

section
variable {prog : Program} {w : World} {A : Around} {E : Value → Shared → Prop} {s : Shared} {env : Env} {h₀ : Heap} {x : Str} {body : List Stmt} {Q : Flow → Shared → Prop}
set_option maxHeartbeats 3200000 in
/-- a loop over a tuple of the base that changes no name but its own: J i holds ahead of turn i -/
theorem tup_loop {l : Addr} {vs : List Value} {m₀ : Str → Option Value} (J : Nat → Prop)
    (hh : A.handled = none) (hl : h₀.IsTuple l vs.toArray) (F : Fr h₀ env.locals s.heap m₀) (h0 : J 0)
    (turn : ∀ i v h tk own, vs[i]? = some v → J i → Fr h₀ env.locals h (fun y => if y = x then some v else m₀ y) → News h₀ env.locals h own →
      wpAny (model prog w) A (execs body env) (InvPostG h₀ env.locals (fun m nx => nx = [] ∧ J (i + 1) ∧ ∀ z, z ≠ x → m z = m₀ z) own { s with heap := h, toks := tk } Q) E { s with heap := h, toks := tk })
    (done : ∀ (u : Str → Option Value) h tk, J vs.length → Fr h₀ env.locals h (fun y => if y = x then u y else m₀ y) → Q .next { s with heap := h, toks := tk }) :
    wpAny (model prog w) A (pyIter (.ref l)) (fun it s₂ => LoopAtV prog w A h₀ env x body Q E it s₂) E s := by
  have hls : s.heap.IsTuple l vs.toArray := let ⟨o, ho, r⟩ := hl; ⟨o, F.keep l o ho, r⟩
  obtain ⟨ol, hol, _⟩ := id hl
  have hlt : l < h₀.objs.size := Heap.lt_size hol
  have hne : l ≠ s.heap.objs.size := Nat.ne_of_lt (Nat.lt_trans (Nat.lt_of_lt_of_le hlt F.above) F.ns.lt)
  refine wpAny_pyIter_tuple hls ?_
  have W := Walks.tuple (prog := prog) (w := w) hh s.heap.objs.size l hne vs.toArray
  have hlen : vs.toArray.size = vs.length := List.size_toArray
  rw [hlen] at W
  refine ⟨_, _, _, vs.length, _, _, m₀, [], (fun i m nx => nx = [] ∧ J i ∧ ∀ z, z ≠ x → m z = m₀ z), rfl, W, ?_, ?_, ?_, ⟨⟨_, Heap.get?_push_size _ rfl, rfl, rfl⟩, hls.push _⟩, F.push _, (fun p hp => nomatch hp), ⟨rfl, h0, fun _ _ => rfl⟩, ?_, ?_⟩
  · intro hm
    rcases List.mem_cons.mp hm with e | hm
    · exact absurd F.ns.lt (e ▸ Nat.lt_irrefl _)
    · exact absurd (Nat.lt_of_lt_of_le hlt F.above) ((List.mem_singleton.mp hm) ▸ Nat.lt_irrefl _)
  · intro b hb
    rw [List.mem_singleton.mp hb]
    exact next_is_new F
  · intro p hp
    cases hp
  · rintro i v m₁ news₁ s₁ own ⟨hh', tk', rfl⟩ hin hP ⟨hn, hJ, hm⟩ hoff hown _ hfp hst F₁ N₁
    subst hn
    have hP' : vs[i]? = some v := by simpa using hP
    have N₂ : News h₀ env.locals hh' own := fun p hp => N₁ p (List.mem_append.mpr (.inl hp))
    have em : (fun y => if y = x then some v else m₁ y) = fun y => if y = x then some v else m₀ y := by
      funext y
      by_cases hy : y = x
      · rw [if_pos hy, if_pos hy]
      · rw [if_neg hy, if_neg hy]; exact hm y hy
    rw [em] at F₁
    refine wpAny_mono (turn i v hh' tk' own hP' hJ F₁ N₂) (fun f s₂ p => ?_) fun _ _ e => e
    have fin : InvEndG h₀ env.locals (fun m nx => nx = [] ∧ J (i + 1) ∧ ∀ z, z ≠ x → m z = m₀ z) own { s with heap := hh', toks := tk' } s₂ → LoopStepU h₀ env.locals [s.heap.objs.size] own (fun m nx => nx = [] ∧ J (i + 1) ∧ ∀ z, z ≠ x → m z = m₀ z) { s with heap := hh', toks := tk' } .next s₂ := by
      rintro ⟨h', tk, m', news', nx, e, F', N', hn, ho, ha, hnx, hJ', hm'⟩
      refine ⟨rfl, h', tk, m', nx, e, F', fun p hp => N' p ((List.mem_append.mp hp).elim (ho p) (hn p)), fun p hp hq => ?_, hnx, hJ', hm'⟩
      rw [hnx] at hp
      cases hp
    cases f with
    | ret v => exact .ret p
    | brk => exact .brk p
    | next => exact .next (fin p)
    | cont => exact .cont (fin p)
  · rintro h' tk m' news' F' N' _ ⟨_, hJ, hm⟩
    have em : m' = fun y => if y = x then m' y else m₀ y := by
      funext y
      by_cases hy : y = x
      · rw [if_pos hy]
      · rw [if_neg hy]; exact hm y hy
    rw [em] at F'
    exact done m' h' tk hJ F'
end

section
variable {prog : Program} {w : World} {A : Around} {E : Value → Shared → Prop} {s : Shared} {x y c : Str} {t u : Tok} {Q : Value → Shared → Prop} {i j : Int}
theorem item_known {value slice : PySem.Expr} (hk : Txt.item x i = c) (h0 : 0 ≤ i) (h1 : i < x.length) (hx : x.length ≤ 1000) (h : Q (.str c s.toks) { s with toks := s.toks + 1 })
    (hs : subscripted slice false (.str x t) (.int i u) = operate [.str x t, .int i u] (getItem (.str x t) (.int i u)) := by with_unfolding_all rfl) (hg : ∀ r, letTemporaryGo value (.str x t) r = pure () := by intro _; with_unfolding_all rfl) :
    wpAny (model prog w) A (subscriptTail value slice (.str x t) (.int i u)) Q E s :=
  item_str (fitsSsize_of (N := 9223372036854775808) (by omega) (by omega) (Int.le_refl _)) (by omega) h1 (fun _ => by rw [hk]; exact h) hs hg
theorem in_b {b : Bool} (hb : (!(Builtin.Str.occurrences x y 0 x.length 1).isEmpty) = b) (h : Q (.bool b) s) : wpAny (model prog w) A (compareOp .In (.str y u) (.str x t)) Q E s :=
  PyProof.Rows.in_str (by rw [hb]; exact h)
theorem eq_b {b : Bool} (hb : (x == y) = b) (h : Q (.bool b) s) : wpAny (model prog w) A (compareOp .Eq (.str x t) (.str y u)) Q E s := PyProof.Rows.eq_str (by rw [hb]; exact h)
theorem ne_b {b : Bool} (hb : (x != y) = b) (h : Q (.bool b) s) : wpAny (model prog w) A (compareOp .NotEq (.str x t) (.str y u)) Q E s := PyProof.Rows.ne_str (by rw [hb]; exact h)
end

theorem slice_known {prog : Program} {w : World} {A : Around} {E : Value → Shared → Prop} {s : Shared} {value slice : PySem.Expr} {x c : Str} {t : Tok} {h₀ : Heap} {L : Addr} {m : Str → Option Value} {news : Led} {Q : Value → Shared → Prop} {i j : Int} {ui uj : Tok}
    (F : Fr h₀ L s.heap m) (N : News h₀ L s.heap news) (hk : Txt.slice x (some i) (some j) = c) (hx : x.length ≤ 1000)
    (h : ∀ h' t' k, Fr h₀ L h' m → News h₀ L h' news → Q (.str c t') { s with heap := h', toks := k })
    (hs : subscripted slice false (.str x t) (.ref s.heap.objs.size) = operate [.ref s.heap.objs.size, .str x t] (getItem (.str x t) (.ref s.heap.objs.size)) := by with_unfolding_all rfl)
    (hg : ∀ r, letTemporaryGo value (.str x t) r = pure () := by intro _; with_unfolding_all rfl) :
    wpAny (model prog w) A (subscriptTail value slice (.str x t) (.ref s.heap.objs.size)) Q E { s with heap := s.heap.push { cls := .type "slice", data := .fields #[.int i ui, .int j uj, .none] } } :=
  slice_strN_ss F N (fun h' t' k F' N' => by rw [hk]; exact h h' t' k F' N') hs hg (by rw [sizeLine_eq]; omega)

theorem eqi_b {prog : Program} {w : World} {A : Around} {E : Value → Shared → Prop} {s : Shared} {a c : Int} {t u : Tok} {Q : Value → Shared → Prop} {b : Bool} (hb : (a == c) = b) (h : Q (.bool b) s) : wpAny (model prog w) A (compareOp .Eq (.int a t) (.int c u)) Q E s := P.eq_int (by rw [hb]; exact h)
theorem small_size {n : Nat} (h : n ≤ 1000) : n ≤ sizeLine := by rw [sizeLine_eq]; omega
theorem list_mine {prog : Program} {w : World} {A : Around} {E : Value → Shared → Prop} {s : Shared} {h₀ : Heap} {L b : Addr} {m : Str → Option Value} {news : Led} {vs : List Value} {n2 : Nat} {Q : Value → Shared → Prop} (F : Fr h₀ L s.heap m) (N : News h₀ L s.heap news) (hb : (b, listOf vs.toArray n2) ∈ news) (hz : vs.length ≤ 1002)
    (h : ∀ D c h', Fr h₀ L h' m → News h₀ L h' ((D, listOf vs.toArray c) :: news) → (∀ q ∈ news, q.1 < D) → Q (.ref D) { s with heap := h' }) : wpAny (model prog w) A (call (.type "list") [.ref b]) Q E s := by
  refine list_copyK F N (N.isList hb) (fun D c h' F' N' l1 => h D c h' F' N' l1) ?_
  rw [List.size_toArray, sizeLine_eq]; omega
theorem room_of {a b : Nat} (h : a + b < 900) : a < 1000 := by omega
theorem dp_of {a b c d : Nat} (h : a + b < 900) (k : c + d ≤ b) : a + c + d < 900 := by omega
theorem dp_of1 {a b d : Nat} (h : a + b < 900) (k : d ≤ b) : a + d < 900 := by omega
theorem un_of {a b c d : Nat} (h : a + b < 9000) (k : c + d ≤ b) : a + c + d < 9000 := by omega
theorem un_of1 {a b d : Nat} (h : a + b < 9000) (k : d ≤ b) : a + d < 9000 := by omega
theorem line_of {a b c d : Nat} (h : a + b < 9000) (k : c + d ≤ b + 900) : a + c + d < cLine := by have := cLine_is; omega
theorem ne_l1 {a b : Nat} (h : a < b) : a ≠ b + 1 := by omega
theorem ne_l2 {a b : Nat} (h : a < b) : a ≠ b + 1 + 1 := by omega
theorem ne_r1 {a b : Nat} (h : a < b) : b + 1 ≠ a := by omega
theorem ne_r2 {a b : Nat} (h : a < b) : b + 1 + 1 ≠ a := by omega
theorem a0 {p0 p1 : Prop} (h : p0 ∧ p1) : p0 := h.1
theorem a1 {p0 p1 p2 : Prop} (h : p0 ∧ p1 ∧ p2) : p1 := h.2.1
theorem a2 {p0 p1 p2 p3 : Prop} (h : p0 ∧ p1 ∧ p2 ∧ p3) : p2 := h.2.2.1
theorem a3 {p0 p1 p2 p3 p4 : Prop} (h : p0 ∧ p1 ∧ p2 ∧ p3 ∧ p4) : p3 := h.2.2.2.1
theorem a4 {p0 p1 p2 p3 p4 p5 : Prop} (h : p0 ∧ p1 ∧ p2 ∧ p3 ∧ p4 ∧ p5) : p4 := h.2.2.2.2.1
theorem a5 {p0 p1 p2 p3 p4 p5 p6 : Prop} (h : p0 ∧ p1 ∧ p2 ∧ p3 ∧ p4 ∧ p5 ∧ p6) : p5 := h.2.2.2.2.2.1
theorem a6 {p0 p1 p2 p3 p4 p5 p6 p7 : Prop} (h : p0 ∧ p1 ∧ p2 ∧ p3 ∧ p4 ∧ p5 ∧ p6 ∧ p7) : p6 := h.2.2.2.2.2.2.1
theorem a7 {p0 p1 p2 p3 p4 p5 p6 p7 p8 : Prop} (h : p0 ∧ p1 ∧ p2 ∧ p3 ∧ p4 ∧ p5 ∧ p6 ∧ p7 ∧ p8) : p7 := h.2.2.2.2.2.2.2.1
theorem a8 {p0 p1 p2 p3 p4 p5 p6 p7 p8 p9 : Prop} (h : p0 ∧ p1 ∧ p2 ∧ p3 ∧ p4 ∧ p5 ∧ p6 ∧ p7 ∧ p8 ∧ p9) : p8 := h.2.2.2.2.2.2.2.2.1
theorem a9 {p0 p1 p2 p3 p4 p5 p6 p7 p8 p9 p10 : Prop} (h : p0 ∧ p1 ∧ p2 ∧ p3 ∧ p4 ∧ p5 ∧ p6 ∧ p7 ∧ p8 ∧ p9 ∧ p10) : p9 := h.2.2.2.2.2.2.2.2.2.1
theorem a10 {p0 p1 p2 p3 p4 p5 p6 p7 p8 p9 p10 p11 : Prop} (h : p0 ∧ p1 ∧ p2 ∧ p3 ∧ p4 ∧ p5 ∧ p6 ∧ p7 ∧ p8 ∧ p9 ∧ p10 ∧ p11) : p10 := h.2.2.2.2.2.2.2.2.2.2.1
theorem a11 {p0 p1 p2 p3 p4 p5 p6 p7 p8 p9 p10 p11 p12 : Prop} (h : p0 ∧ p1 ∧ p2 ∧ p3 ∧ p4 ∧ p5 ∧ p6 ∧ p7 ∧ p8 ∧ p9 ∧ p10 ∧ p11 ∧ p12) : p11 := h.2.2.2.2.2.2.2.2.2.2.2.1
theorem a12 {p0 p1 p2 p3 p4 p5 p6 p7 p8 p9 p10 p11 p12 p13 : Prop} (h : p0 ∧ p1 ∧ p2 ∧ p3 ∧ p4 ∧ p5 ∧ p6 ∧ p7 ∧ p8 ∧ p9 ∧ p10 ∧ p11 ∧ p12 ∧ p13) : p12 := h.2.2.2.2.2.2.2.2.2.2.2.2.1
theorem a13 {p0 p1 p2 p3 p4 p5 p6 p7 p8 p9 p10 p11 p12 p13 p14 : Prop} (h : p0 ∧ p1 ∧ p2 ∧ p3 ∧ p4 ∧ p5 ∧ p6 ∧ p7 ∧ p8 ∧ p9 ∧ p10 ∧ p11 ∧ p12 ∧ p13 ∧ p14) : p13 := h.2.2.2.2.2.2.2.2.2.2.2.2.2.1
end
section
-- LINES of the walk (local)
local macro_rules | `(tactic| walk_at $s:str) => `(tactic| k_extra $s)
local macro_rules | `(tactic| walk_at "c in") => `(tactic| intro v' h' tk' tl' F' N' ap' P')
local macro_rules | `(tactic| walk_at "c aft") => `(tactic| ((with_reducible rename News _ _ _ _ => N9); (with_reducible rename Apart _ _ => ap9); (try simp only [List.cons_append, List.nil_append, List.append_nil] at N9); clear ap9; (try k_sweep)))
local macro_rules | `(tactic| k_room) => `(tactic| k_extra "k_room")
local macro_rules | `(tactic| k_units) => `(tactic| k_extra "k_units")
local macro_rules | `(tactic| k_in) => `(tactic| k_extra "k_in")
local macro_rules | `(tactic| k_ne) => `(tactic| k_extra "k_ne")

-- Run
section
theorem rows_Run : hd.heap_39 = hd.heap_39 := by
  k_fill
  k_with "subscriptTail Name Constant ref int" => ((k_here; (with_reducible show wpAny _ _ (subscriptTail _ _ (Value.ref _) (Value.int _ _)) _ _ _); (with_unfolding_all refine item_litK (by is_list) (by decide) (by decide) (by rfl) ?_ (by with_unfolding_all rfl))))
  k_with "binaryOp Mult int int" => (refine mul_int ?_ (IntMulOk.of_left (intBits_fmod (by decide) (by decide))))
  k_with "k_room" => (((try simp only [depth_mark, depth_under_make, depth_under_kw, depth_in1, depth_deeper, depth_caller]); (simp only [recursionLimit]; omega)))
  k_with "k_units" => (((try simp only [units_in1, units_deeper, Around.mark_units, units_caller]); (try dsimp only); first | exact line_of (by with_reducible assumption) (by exact Nat.le_of_ble_eq_true rfl) | (have hcL9 := cLine_is; omega)))
  k_with "k_in" => (exact Frag.In.keeps (by with_reducible assumption) (Fr.keep (by with_reducible assumption)))
  k_with "k_ne" => ((refine neN ?_; (try dsimp only); first | exact Nat.ne_of_lt (by k_extra "c lt") | exact Nat.ne_of_gt (by k_extra "c lt") | exact ne_l1 (by k_extra "c lt") | exact ne_l2 (by k_extra "c lt") | exact ne_r1 (by k_extra "c lt") | exact ne_r2 (by k_extra "c lt") | omega))
  k_with "c use" => (((case k1 => k_asm); (case k2 => k_asm); (case k3 => k_asm); (case k4 => k_asm); (case k5 => k_asm); (case k6 => exact rfl); (case k7 => exact rfl); (case h1 => k_extra "c pre"); (case h2 => k_extra "c part"); (case h4 => k_extra "c dp"); (case h5 => k_extra "c un")))
  k_with "until iter" => (repeat' ((fail_if_success (with_reducible show wpAny _ _ (pyIter _) _ _ _)); first | (k_unfold; (try dsimp only)) | (k_end; wrow_close) | walk1 | (dsimp only; walk1) | (leave1; walk_say "STEP leave1"; try dsimp only) | fail "no step"))
  k_with "until while" => (repeat' ((fail_if_success (with_reducible show wpAny _ _ (exec (Stmt.While _ _ _ _) _) _ _ _)); first | (k_unfold; (try dsimp only)) | (k_end; wrow_close) | walk1 | (dsimp only; walk1) | (leave1; walk_say "STEP leave1"; try dsimp only) | fail "no step"))
  k_with "until kswend" => (repeat' ((fail_if_success (with_reducible show KswEnd _ _ _ _ _ _ _ _ _ _ _ _)); first | (k_unfold; (try dsimp only)) | (k_end; wrow_close) | walk1 | (dsimp only; walk1) | (leave1; walk_say "STEP leave1"; try dsimp only) | fail "no step"))
  k_with "ite" => ((k_closed; first | with_reducible refine ite_pos (by decide) ?_ | with_reducible refine ite_neg (by decide) ?_))
  k_with "subscriptTail Call" => ((k_here; k_dflt (refine kba_turn (value' := PySem.Expr.Name (PySem.Str.ofString "_") ⟨0, 0, 0, 0⟩) (fun _ => rfl) ?_)))
  k_with "subscriptTail Subscript" => ((k_here; (first | (with_reducible show wpAny _ _ (subscriptTail _ _ (Value.ref _) _) _ _ _) | (with_reducible show wpAny _ _ (subscriptTail _ _ (Value.str _ _) (Value.ref _)) _ _ _)); k_dflt (refine kba_turn (value' := PySem.Expr.Name (PySem.Str.ofString "_") ⟨0, 0, 0, 0⟩) (fun _ => rfl) ?_)))
  k_with "c dp" => (((try dsimp only); first | exact dp_of (by with_reducible assumption) (by exact Nat.le_of_ble_eq_true rfl) | exact dp_of1 (by with_reducible assumption) (by exact Nat.le_of_ble_eq_true rfl) | omega))
  k_with "c un" => (((try dsimp only); first | exact un_of (by with_reducible assumption) (by exact Nat.le_of_ble_eq_true rfl) | exact un_of1 (by with_reducible assumption) (by exact Nat.le_of_ble_eq_true rfl) | omega))
  k_with "c a" => (with_reducible assumption)
  k_with "c lt" => (first | with_reducible assumption | exact a0 (by k_extra "c a") | exact a1 (by k_extra "c a") | exact a2 (by k_extra "c a") | exact a3 (by k_extra "c a") | exact a4 (by k_extra "c a") | exact a5 (by k_extra "c a") | exact a6 (by k_extra "c a") | exact a7 (by k_extra "c a") | exact a8 (by k_extra "c a") | exact a9 (by k_extra "c a") | exact a10 (by k_extra "c a") | exact a11 (by k_extra "c a") | exact a12 (by k_extra "c a") | exact a13 (by k_extra "c a"))
  k_with "c p" => (first | with_reducible assumption | k_ne | exact Nat.le_of_ble_eq_true rfl | decide | omega | assumption | exact rfl)
  k_with "c ro" => (first | exact fun _ _ _ => trivial | (intro g' st' hr'; have hro9 := st' _ _ (by with_reducible assumption); exact ⟨_, _, _, _, _, hro9⟩))
  k_with "c fin2" => (((try case p1 => k_extra "c p"); (try case p2 => k_extra "c p"); (try case p3 => k_extra "c p"); (try case p4 => k_extra "c p"); (try case p5 => k_extra "c p"); (case h3 => k_extra "c ro"); k_whole))
  k_with "c fin" => ((k_extra "c use"; k_extra "c fin2"))
  k_with "c enter" => ((refine spec_enter (by assumption) (by assumption) (by assumption) (by assumption) (by assumption) (by assumption) (by k_is) (by k_is) (by first | exact room_of (by with_reducible assumption) | (simp only [recursionLimit]; omega)) (by first | exact BindsTo.of_eq rfl | exact binds_K (Frag.In.keeps (by assumption) (by assumption)) rfl (by k_is) rfl rfl rfl) (by exact locs rfl) ?_ (by exact rfl) (by exact rfl) (by exact rfl) (by decide); intro _ _ _ _; (try dsimp only); (try k_fold)))
  k_with "c part" => (first | exact Part.nil | (apply Part.out; (· k_mem); (· k_extra "c part")) | (apply Part.stay; (· k_all); (· k_extra "c part")) | (refine part_tail ?_; k_extra "c tail"))
  k_with "c tail" => (first | exact List.forall_mem_nil _ | (refine List.forall_mem_cons.mpr ⟨?_, ?_⟩; (· k_extra "c apart"); (· k_extra "c tail")))
  k_with "c apart" => (first | exact OwnOff.ne (by assumption) (by k_memK) | (refine allLt_apart ?_; k_extra "c conj"))
  k_with "c conj" => (first | assumption | exact And.right (by k_extra "c conj"))
  k_with "c adr" => (first | exact List.forall_mem_nil _ | (refine List.forall_mem_cons.mpr ⟨?_, ?_⟩; (· k_memK); (· k_extra "c adr")))
  k_with "c pre" => (first | exact List.forall_mem_nil _ | (refine List.forall_mem_cons.mpr ⟨?_, ?_⟩; (· k_mem); (· k_extra "c pre")))
  k_with "call builtin:len" => ((k_here; (with_reducible show wpAny _ _ (call (Value.builtin "len") [Value.ref _]) _ _ _); (with_unfolding_all refine len_mine (by is_list) (by (first | omega | (simp only [List.length_cons, List.length_nil, List.length_append]; omega))) ?_)))
  k_with "subscriptTail" => ((k_here; (with_reducible show wpAny _ _ (subscriptTail _ _ (Value.ref _) (Value.int _ _)) _ _ _); (with_unfolding_all refine item_open (by is_list) (by omega) (by omega) (by omega) ?_ (by with_unfolding_all rfl)); intro _ _ _))
  k_with "call type:range" => ((k_here; (with_reducible show wpAny _ _ (call _ [_]) _ _ _); (with_unfolding_all refine range1_rows (by k_asm) (by k_asm) ?_); intro _ _ _ _ _ _ _ _ _; (try k_sweep)))
  k_with "call builtin:list.append" => ((k_here; (with_reducible show wpAny _ _ (call (Value.builtin _) [Value.ref _, _]) _ _ _); k_dflt (refine append_K (by k_asm) (by k_asm) (by k_upd) ?_ (by first | exact small_size (by assumption) | size_fits)); intro _ _ _; (try k_sweep)))
  k_with "binaryOp Add str str" => ((k_here; (refine add_mine ?_ (by (first | omega | (simp only [Str.length_append]; omega))) (by (first | omega | (simp only [Str.length_append]; omega)))); intro _ _))
  k_with "call type:list" => ((k_here; (with_reducible show wpAny _ _ (call (Value.type "list") [Value.ref _]) _ _ _); k_dflt (refine list_mine (by k_asm) (by k_asm) (by k_mem) (by omega) ?_); intro _ _ _ _ _ l9; (try k_lt l9); (try (revert l9; intro _)); (try k_sweep)))
  k_with "callWith ref" => ((k_here; k_dflt (first | refine callWith_K (by with_reducible assumption) (by k_is) ?_ | refine callWith_K0 (by k_in) (by k_is) ?_)))
  exact rfl
set_option maxHeartbeats 8000000 in
theorem run_spec {prog : Program} {w : World} {x S : Str} {i : Nat} {ia : Int} {tx ti tS : Tok} (hia : ia = (i : Int)) (hi : i ≤ x.length) (hx : x.length ≤ 1000) (hS : S.length ≤ 1000) :
    CSpec prog w 1 8 76 [.str x tx, .int ia ti, .str S tS] [] (fun g => True)
      (fun v tl => ∃ t, v = .int (runEnd x S i) t ∧ tl = []) := by
  w_top off
  subst hia
  unfold CSpec
  intro dp un gd outer A₀ base g s p loose mean mg mb R B st sz X T N0 hro hd hu hret
  walk_at "c enter"
  repeat' ((fail_if_success (with_reducible show wpAny _ _ (exec (Stmt.While _ _ _ _) _) _ _ _)); first | (k_unfold; (try dsimp only)) | (k_end; wrow_close) | walk1 | (dsimp only; walk1) | (leave1; walk_say "STEP leave1"; try dsimp only) | fail "no step")
  rename Fr _ _ _ _ => F9
  rename News _ _ _ _ => N9
  refine' ksw_while (σ := Nat × Tok) (fun _ => []) (fun c => [(Str.ofString "at", .int (c.1 : Int) c.2)]) (fun _ => True) [] (fun c => i ≤ c.1 ∧ c.1 ≤ x.length ∧ runEnd x S c.1 = runEnd x S i) (fun c => x.length - c.1) (i, ti) F9 N9 trivial ?k1 ?k2 ?turn
  case k1 => intro p hp; rcases List.mem_cons.mp hp with rfl | hp; exact rfl; cases hp
  case k2 => exact ⟨Nat.le_refl _, hi, rfl⟩
  case turn =>
    clear F9 N9
    rintro ⟨j, tj⟩ u h tk _ ⟨h1, h2, h3⟩ F' N'
    dsimp only [kstB] at F' N' h1 h2 h3
    (try dsimp only); (try k_fold)
    k_steps
    · rename_i hlt _ hin
      obtain ⟨c, hc, hcon⟩ := in_item (by omega) hin
      have e := runEnd_no hc hcon
      exact spec_end hret F' N' ⟨_, by rw [← h3, e], rfl⟩
    · rename_i hlt _ hin _ F9 N9
      obtain ⟨c, hc, hcon⟩ := in_item (by omega) hin
      have e := runEnd_yes hc hcon
      refine' ksw_end (j + 1, _) F9 N9 ?e1 trivial ?e2 ?e3 ?e4 ?e5
      case e1 => exact fun _ h => nomatch h
      case e2 => intro p hp; rcases List.mem_cons.mp hp with rfl | hp; exact rfl; cases hp
      case e3 =>
        intro z g1 g2
        have g3 := g1 _ (.head _)
        dsimp only at g3
        repeat (first | rw [if_neg g3])
        rfl
      case e4 => exact ⟨by dsimp only; omega, by dsimp only; omega, by dsimp only; rw [← e]; exact h3⟩
      case e5 => dsimp only; omega
    · rename_i hlt
      have e : runEnd x S j = j := runEnd_out (by omega)
      exact spec_end hret F' N' ⟨_, by rw [← h3, e], rfl⟩
end
-- Take
section
set_option maxHeartbeats 4000000 in
theorem take_spec {prog : Program} {w : World} {src : Addr} {x y : Int} {tx ty tt : Tok} {n : Nat} {top : Int} (hx : 0 ≤ x) (ht : 0 < top) (ht8 : top ≤ 8) :
    CSpec prog w 1 8 232 [.ref src, .int top tt] [(src, listOf #[.int x tx, .int y ty] n)] (fun _ => True)
      (fun v tl => ∃ r x' y' tr tx' ty' n', v = .int r tr ∧ 0 ≤ r ∧ r < top ∧ 0 ≤ x' ∧ tl = [(src, listOf #[.int x' tx', .int y' ty'] n')]) := by
  w_top off
  unfold CSpec
  intro dp un gd outer A₀ base g s p loose mean mg mb R B st sz X T N0 _ hd hu hret
  walk_at "c enter"
  k_steps
  · refine spec_end hret (by assumption) (by assumption) ⟨_, _, _, _, _, _, _, rfl, Int.fmod_nonneg_of_pos _ ht, Int.fmod_lt_of_pos _ ht, Int.fdiv_nonneg hx (Int.le_of_lt ht), rfl⟩
  · refine spec_end hret (by assumption) (by assumption) ⟨_, _, _, _, _, _, _, rfl, Int.fmod_nonneg_of_pos _ ht, Int.fmod_lt_of_pos _ ht, hx, rfl⟩
end
section


-- Blank
section
theorem rows_Blank : hd.heap_39 = hd.heap_39 := by
  k_with "call ref" => (k_here; (with_reducible show wpAny _ _ (call (Value.ref 76) _) _ _ _); (try k_fold); k_dflt (refine use_by (by k_asm) (by k_asm) (by k_asm) (by k_asm) (by k_asm) (by exact rfl) (by exact rfl) (by k_extra "c pre") (by k_extra "c part") (by k_extra "c dp") (by k_extra "c un") (run_spec (by first | with_reducible exact rfl | exact (Int.natCast_add _ 1).symm | exact rfl) (by k_extra "c p") (by k_extra "c p") (by first | assumption | decide +kernel | omega)) (by k_extra "c ro") ?_); walk_at "c in"; rename_i P'; obtain ⟨_, hv', htl'⟩ := P'; subst hv' htl'; (walk_at "c aft"))
  exact rfl
abbrev BLK : Str := Str.ofString " \t\r\n\x0b\x0c\u0085\u200e\u200f\u2028\u2029"
local macro_rules | `(tactic| walk_at "ite") => `(tactic| (refine PySem.W.ite_neg (slash_no (by omega) (by assumption) (by decide +kernel)) ?_))
set_option maxHeartbeats 8000000 in
theorem blank_spec {prog : Program} {w : World} {x : Str} {i : Nat} {tx ti : Tok} (hi : i ≤ x.length) (hx : x.length ≤ 1000) (hn : ∀ c ∈ x.cps.toList, c ≠ 47) :
    CSpec prog w 2 16 90 [.str x tx, .int i ti] [] (fun g => True)
      (fun v tl => ∃ t, v = .int (runEnd x BLK i) t ∧ tl = []) := by
  w_top off
  unfold CSpec
  intro dp un gd outer A₀ base g s p loose mean mg mb R B st sz X T N0 hro hd hu hret
  walk_at "c enter"
  repeat' ((fail_if_success (with_reducible show wpAny _ _ (exec (Stmt.While _ _ _ _) _) _ _ _)); first | (k_unfold; (try dsimp only)) | (k_end; wrow_close) | walk1 | (dsimp only; walk1) | (leave1; walk_say "STEP leave1"; try dsimp only) | fail "no step")
  rename Fr _ _ _ _ => F9
  rename News _ _ _ _ => N9
  refine' ksw_while (σ := Nat × Tok) (fun _ => []) (fun c => [(Str.ofString "at", .int (c.1 : Int) c.2)]) (fun _ => True) [] (fun c => i ≤ c.1 ∧ c.1 ≤ x.length ∧ runEnd x BLK c.1 = runEnd x BLK i) (fun c => x.length - c.1) (i, ti) F9 N9 trivial ?k1 ?k2 ?turn
  case k1 => intro p hp; rcases List.mem_cons.mp hp with rfl | hp; exact rfl; cases hp
  case k2 => exact ⟨Nat.le_refl _, hi, rfl⟩
  case turn =>
    clear F9 N9
    rintro ⟨j, tj⟩ u h tk _ ⟨h1, h2, h3⟩ F' N'
    dsimp only [kstB] at F' N' h1 h2 h3
    (try dsimp only); (try k_fold)
    k_steps
    · have hlt : j < x.length := by omega
      obtain ⟨c, hc, hcon⟩ := in_item (S := BLK) (b := true) hlt (by assumption)
      have e := runEnd_no hc hcon
      refine' spec_end hret ?k1 ?k2 ⟨_, by rw [← h3, e], rfl⟩
      case k1 => assumption
      case k2 => assumption
    · have hlt : j < x.length := by omega
      obtain ⟨c, hc, hcon⟩ := in_item (S := BLK) (b := false) hlt (by assumption)
      have e := runEnd_yes hc hcon
      have hle := runEnd_le (x := x) (S := BLK) (i := j + 1) (by omega)
      rw [← e] at hle
      refine' ksw_end (runEnd x BLK j, _) ?f1 ?f2 ?e1 trivial ?e2 ?e3 ?e4 ?e5
      case f1 => assumption
      case f2 => assumption
      case e1 => exact fun _ h => nomatch h
      case e2 => intro p hp; rcases List.mem_cons.mp hp with rfl | hp; exact rfl; cases hp
      case e3 =>
        intro z g1 g2
        have g3 := g1 _ (.head _)
        dsimp only at g3
        repeat (first | rw [if_neg g3])
        rfl
      case e4 => exact ⟨by dsimp only; omega, by dsimp only; omega, by dsimp only; rw [runEnd_stop h2]; exact h3⟩
      case e5 => dsimp only; omega
    · have e : runEnd x BLK j = j := runEnd_out (by omega)
      exact spec_end hret F' N' ⟨_, by rw [← h3, e], rfl⟩
end
-- One
section
theorem rows_One : hd.heap_39 = hd.heap_39 := by
  k_with_none
  k_with "subscriptTail Name Constant ref int" => ((k_here; (with_reducible show wpAny _ _ (subscriptTail _ _ (Value.ref _) (Value.int _ _)) _ _ _); (with_unfolding_all refine item_litK (by is_list) (by decide) (by decide) (by rfl) ?_ (by with_unfolding_all rfl))))
  k_with "binaryOp Mult int int" => (refine mul_int ?_ (IntMulOk.of_left (intBits_fmod (by decide) (by decide))))
  k_with "k_room" => (((try simp only [depth_mark, depth_under_make, depth_under_kw, depth_in1, depth_deeper, depth_caller]); (simp only [recursionLimit]; omega)))
  k_with "k_units" => (((try simp only [units_in1, units_deeper, Around.mark_units, units_caller]); (try dsimp only); first | exact line_of (by with_reducible assumption) (by exact Nat.le_of_ble_eq_true rfl) | (have hcL9 := cLine_is; omega)))
  k_with "k_in" => (exact Frag.In.keeps (by with_reducible assumption) (Fr.keep (by with_reducible assumption)))
  k_with "k_ne" => ((refine neN ?_; (try dsimp only); first | exact Nat.ne_of_lt (by k_extra "c lt") | exact Nat.ne_of_gt (by k_extra "c lt") | exact ne_l1 (by k_extra "c lt") | exact ne_l2 (by k_extra "c lt") | exact ne_r1 (by k_extra "c lt") | exact ne_r2 (by k_extra "c lt") | omega))
  k_with "c use" => (((case k1 => k_asm); (case k2 => k_asm); (case k3 => k_asm); (case k4 => k_asm); (case k5 => k_asm); (case k6 => exact rfl); (case k7 => exact rfl); (case h1 => k_extra "c pre"); (case h2 => k_extra "c part"); (case h4 => k_extra "c dp"); (case h5 => k_extra "c un")))
  k_with "until iter" => (repeat' ((fail_if_success (with_reducible show wpAny _ _ (pyIter _) _ _ _)); first | (k_unfold; (try dsimp only)) | (k_end; wrow_close) | walk1 | (dsimp only; walk1) | (leave1; walk_say "STEP leave1"; try dsimp only) | fail "no step"))
  k_with "until while" => (repeat' ((fail_if_success (with_reducible show wpAny _ _ (exec (Stmt.While _ _ _ _) _) _ _ _)); first | (k_unfold; (try dsimp only)) | (k_end; wrow_close) | walk1 | (dsimp only; walk1) | (leave1; walk_say "STEP leave1"; try dsimp only) | fail "no step"))
  k_with "until kswend" => (repeat' ((fail_if_success (with_reducible show KswEnd _ _ _ _ _ _ _ _ _ _ _ _)); first | (k_unfold; (try dsimp only)) | (k_end; wrow_close) | walk1 | (dsimp only; walk1) | (leave1; walk_say "STEP leave1"; try dsimp only) | fail "no step"))
  k_with "ite" => ((k_closed; first | with_reducible refine ite_pos (by decide) ?_ | with_reducible refine ite_neg (by decide) ?_))
  k_with "subscriptTail Call" => ((k_here; k_dflt (refine kba_turn (value' := PySem.Expr.Name (PySem.Str.ofString "_") ⟨0, 0, 0, 0⟩) (fun _ => rfl) ?_)))
  k_with "subscriptTail Subscript" => ((k_here; (first | (with_reducible show wpAny _ _ (subscriptTail _ _ (Value.ref _) _) _ _ _) | (with_reducible show wpAny _ _ (subscriptTail _ _ (Value.str _ _) (Value.ref _)) _ _ _)); k_dflt (refine kba_turn (value' := PySem.Expr.Name (PySem.Str.ofString "_") ⟨0, 0, 0, 0⟩) (fun _ => rfl) ?_)))
  k_with "c dp" => (((try dsimp only); first | exact dp_of (by with_reducible assumption) (by exact Nat.le_of_ble_eq_true rfl) | exact dp_of1 (by with_reducible assumption) (by exact Nat.le_of_ble_eq_true rfl) | omega))
  k_with "c un" => (((try dsimp only); first | exact un_of (by with_reducible assumption) (by exact Nat.le_of_ble_eq_true rfl) | exact un_of1 (by with_reducible assumption) (by exact Nat.le_of_ble_eq_true rfl) | omega))
  k_with "c a" => (with_reducible assumption)
  k_with "c lt" => (first | with_reducible assumption | exact a0 (by k_extra "c a") | exact a1 (by k_extra "c a") | exact a2 (by k_extra "c a") | exact a3 (by k_extra "c a") | exact a4 (by k_extra "c a") | exact a5 (by k_extra "c a") | exact a6 (by k_extra "c a") | exact a7 (by k_extra "c a") | exact a8 (by k_extra "c a") | exact a9 (by k_extra "c a") | exact a10 (by k_extra "c a") | exact a11 (by k_extra "c a") | exact a12 (by k_extra "c a") | exact a13 (by k_extra "c a"))
  k_with "c p" => (first | with_reducible assumption | k_ne | exact Nat.le_of_ble_eq_true rfl | decide | omega | assumption | exact rfl)
  k_with "c ro" => (first | exact fun _ _ _ => trivial | (intro g' st' hr'; have hro9 := st' _ _ (by with_reducible assumption); exact ⟨_, _, _, _, _, hro9⟩))
  k_with "c fin2" => (((try case p1 => k_extra "c p"); (try case p2 => k_extra "c p"); (try case p3 => k_extra "c p"); (try case p4 => k_extra "c p"); (try case p5 => k_extra "c p"); (case h3 => k_extra "c ro"); k_whole))
  k_with "c fin" => ((k_extra "c use"; k_extra "c fin2"))
  k_with "c enter" => ((refine spec_enter (by assumption) (by assumption) (by assumption) (by assumption) (by assumption) (by assumption) (by k_is) (by k_is) (by first | exact room_of (by with_reducible assumption) | (simp only [recursionLimit]; omega)) (by first | exact BindsTo.of_eq rfl | exact binds_K (Frag.In.keeps (by assumption) (by assumption)) rfl (by k_is) rfl rfl rfl) (by exact locs rfl) ?_ (by exact rfl) (by exact rfl) (by exact rfl) (by decide); intro _ _ _ _; (try dsimp only); (try k_fold)))
  k_with "c part" => (first | exact Part.nil | (apply Part.out; (· k_mem); (· k_extra "c part")) | (apply Part.stay; (· k_all); (· k_extra "c part")) | (refine part_tail ?_; k_extra "c tail"))
  k_with "c tail" => (first | exact List.forall_mem_nil _ | (refine List.forall_mem_cons.mpr ⟨?_, ?_⟩; (· k_extra "c apart"); (· k_extra "c tail")))
  k_with "c apart" => (first | exact OwnOff.ne (by assumption) (by k_memK) | (refine allLt_apart ?_; k_extra "c conj"))
  k_with "c conj" => (first | assumption | exact And.right (by k_extra "c conj"))
  k_with "c adr" => (first | exact List.forall_mem_nil _ | (refine List.forall_mem_cons.mpr ⟨?_, ?_⟩; (· k_memK); (· k_extra "c adr")))
  k_with "c pre" => (first | exact List.forall_mem_nil _ | (refine List.forall_mem_cons.mpr ⟨?_, ?_⟩; (· k_mem); (· k_extra "c pre")))
  k_with "call builtin:len" => ((k_here; (with_reducible show wpAny _ _ (call (Value.builtin "len") [Value.ref _]) _ _ _); (with_unfolding_all refine len_mine (by is_list) (by (first | omega | (simp only [List.length_cons, List.length_nil, List.length_append]; omega))) ?_)))
  k_with "subscriptTail" => ((k_here; (with_reducible show wpAny _ _ (subscriptTail _ _ (Value.ref _) (Value.int _ _)) _ _ _); (with_unfolding_all refine item_open (by is_list) (by omega) (by omega) (by omega) ?_ (by with_unfolding_all rfl)); intro _ _ _))
  k_with "call type:range" => ((k_here; (with_reducible show wpAny _ _ (call _ [_]) _ _ _); (with_unfolding_all refine range1_rows (by k_asm) (by k_asm) ?_); intro _ _ _ _ _ _ _ _ _; (try k_sweep)))
  k_with "call builtin:list.append" => ((k_here; (with_reducible show wpAny _ _ (call (Value.builtin _) [Value.ref _, _]) _ _ _); k_dflt (refine append_K (by k_asm) (by k_asm) (by k_upd) ?_ (by first | exact small_size (by assumption) | size_fits)); intro _ _ _; (try k_sweep)))
  k_with "binaryOp Add str str" => ((k_here; (refine add_mine ?_ (by (first | omega | (simp only [Str.length_append]; omega))) (by (first | omega | (simp only [Str.length_append]; omega)))); intro _ _))
  k_with "call type:list" => ((k_here; (with_reducible show wpAny _ _ (call (Value.type "list") [Value.ref _]) _ _ _); k_dflt (refine list_mine (by k_asm) (by k_asm) (by k_mem) (by omega) ?_); intro _ _ _ _ _ l9; (try k_lt l9); (try (revert l9; intro _)); (try k_sweep)))
  k_with "callWith ref" => ((k_here; k_dflt (first | refine callWith_K (by with_reducible assumption) (by k_is) ?_ | refine callWith_K0 (by k_in) (by k_is) ?_)))
  k_with "call ref" => (k_here; (with_reducible show wpAny _ _ (call (Value.ref 232) _) _ _ _); (try k_fold); k_dflt (refine use_by (by k_asm) (by k_asm) (by k_asm) (by k_asm) (by k_asm) (by exact rfl) (by exact rfl) (by k_extra "c pre") (by k_extra "c part") (by k_extra "c dp") (by k_extra "c un") (take_spec (by k_extra "c p") (by k_extra "c p") (by k_extra "c p")) (by k_extra "c ro") ?_); walk_at "c in"; rename_i P'; obtain ⟨_, _, _, _, _, _, _, hv', _, _, _, htl'⟩ := P'; subst hv' htl'; (walk_at "c aft"))
  exact rfl
set_option maxHeartbeats 4000000 in
theorem one_spec {prog : Program} {w : World} {src l : Addr} {x y : Int} {tx ty : Tok} {n c : Nat} {vs : List Value} (hne : @Ne Nat src l) (hx : 0 ≤ x) (h1 : 1 ≤ vs.length) (h8 : vs.length ≤ 8) :
    CSpec prog w 2 12 239 [.ref src, .ref l] [(src, listOf #[.int x tx, .int y ty] n), (l, listOf vs.toArray c)] (fun _ => True)
      (fun v tl => v ∈ vs ∧ ∃ x' y' tx' ty' n', 0 ≤ x' ∧ tl = [(src, listOf #[.int x' tx', .int y' ty'] n'), (l, listOf vs.toArray c)]) := by
  w_top off
  unfold CSpec
  intro dp un gd outer A₀ base g s p loose mean mg mb R B st sz X T N0 _ hd hu hret
  walk_at "c enter"
  k_steps
  refine spec_end hret (by assumption) (by assumption) ⟨by assumption, _, _, _, _, _, by assumption, rfl⟩
end
section

-- Word
section
theorem rows_Word : hd.heap_39 = hd.heap_39 := by
  k_with "call ref" => (k_here; (with_reducible show wpAny _ _ (call (Value.ref 239) _) _ _ _); (try k_fold); k_dflt (refine use_by (by k_asm) (by k_asm) (by k_asm) (by k_asm) (by k_asm) (by exact rfl) (by exact rfl) (by k_extra "c pre") (by k_extra "c part") (by k_extra "c dp") (by k_extra "c un") (one_spec (by k_extra "c p") (by k_extra "c p") (by k_extra "c p") (by k_extra "c p")) (by k_extra "c ro") ?_); walk_at "c in"; rename_i P'; obtain ⟨_, _, _, _, _, _, _, htl'⟩ := P'; subst htl'; (walk_at "c aft"))
  exact rfl
set_option maxHeartbeats 4000000 in
theorem word_spec {prog : Program} {w : World} {src : Addr} {x y : Int} {tx ty : Tok} {n : Nat} (hx : 0 ≤ x) :
    CSpec prog w 3 16 246 [.ref src] [(src, listOf #[.int x tx, .int y ty] n)] (fun _ => True)
      (fun v tl => ∃ a k t tk tt x' y' tx' ty' n', v = .ref a ∧ (k, t) ∈ toks ∧ @Ne Nat src a ∧ 0 ≤ x' ∧ tl = [(a, tupO [.str (Str.ofString k) tk, .str (Str.ofString t) tt]), (src, listOf #[.int x' tx', .int y' ty'] n')]) := by
  w_top off
  unfold CSpec
  intro dp un gd outer A₀ base g s p loose mean mg mb R B st sz X T N0 _ hd hu hret
  walk_at "c enter"
  k_steps
  all_goals (try dsimp only)
  · rename _ ∈ _ => hm9
    simp only [List.mem_cons, List.not_mem_nil, or_false] at hm9
    rcases hm9 with e | e | e | e <;> subst e <;>
    (refine' spec_endS hret ?k1 ?k2 ?k3 ⟨_, "sign", _, _, _, _, _, _, _, _, rfl, ?k4, ?k5, ?k6, rfl⟩; (case k1 => assumption); (case k2 => assumption); (case k3 => walk_at "c pre"); (case k4 => decide); (case k5 => k_ne); (case k6 => assumption))
  · rename _ ∈ _ => hm9
    simp only [List.mem_cons, List.not_mem_nil, or_false] at hm9
    rcases hm9 with e | e | e | e | e <;> subst e <;>
    (refine' spec_endS hret ?k1 ?k2 ?k3 ⟨_, "sign", _, _, _, _, _, _, _, _, rfl, ?k4, ?k5, ?k6, rfl⟩; (case k1 => assumption); (case k2 => assumption); (case k3 => walk_at "c pre"); (case k4 => decide); (case k5 => k_ne); (case k6 => assumption))
  · rename _ ∈ _ => hm9
    simp only [List.mem_cons, List.not_mem_nil, or_false] at hm9
    rcases hm9 with e | e | e | e | e | e | e <;> subst e <;>
    (refine' spec_endS hret ?k1 ?k2 ?k3 ⟨_, "name", _, _, _, _, _, _, _, _, rfl, ?k4, ?k5, ?k6, rfl⟩; (case k1 => assumption); (case k2 => assumption); (case k3 => walk_at "c pre"); (case k4 => decide); (case k5 => k_ne); (case k6 => assumption))
  · (refine' spec_endS hret ?k1 ?k2 ?k3 ⟨_, "int", _, _, _, _, _, _, _, _, rfl, ?k4, ?k5, ?k6, rfl⟩; (case k1 => assumption); (case k2 => assumption); (case k3 => walk_at "c pre"); (case k4 => decide); (case k5 => k_ne); (case k6 => assumption))
  · (refine' spec_endS hret ?k1 ?k2 ?k3 ⟨_, "region", _, _, _, _, _, _, _, _, rfl, ?k4, ?k5, ?k6, rfl⟩; (case k1 => assumption); (case k2 => assumption); (case k3 => walk_at "c pre"); (case k4 => decide); (case k5 => k_ne); (case k6 => assumption))
end
-- Built
section
theorem rows_Built : hd.heap_39 = hd.heap_39 := by
  k_with_none
  k_with "subscriptTail Name Constant ref int" => ((k_here; (with_reducible show wpAny _ _ (subscriptTail _ _ (Value.ref _) (Value.int _ _)) _ _ _); (with_unfolding_all refine item_litK (by is_list) (by decide) (by decide) (by rfl) ?_ (by with_unfolding_all rfl))))
  k_with "binaryOp Mult int int" => (refine mul_int ?_ (IntMulOk.of_left (intBits_fmod (by decide) (by decide))))
  k_with "k_room" => (((try simp only [depth_mark, depth_under_make, depth_under_kw, depth_in1, depth_deeper, depth_caller]); (simp only [recursionLimit]; omega)))
  k_with "k_units" => (((try simp only [units_in1, units_deeper, Around.mark_units, units_caller]); (try dsimp only); first | exact line_of (by with_reducible assumption) (by exact Nat.le_of_ble_eq_true rfl) | (have hcL9 := cLine_is; omega)))
  k_with "k_in" => (exact Frag.In.keeps (by with_reducible assumption) (Fr.keep (by with_reducible assumption)))
  k_with "k_ne" => ((refine neN ?_; (try dsimp only); first | exact Nat.ne_of_lt (by k_extra "c lt") | exact Nat.ne_of_gt (by k_extra "c lt") | exact ne_l1 (by k_extra "c lt") | exact ne_l2 (by k_extra "c lt") | exact ne_r1 (by k_extra "c lt") | exact ne_r2 (by k_extra "c lt") | omega))
  k_with "c use" => (((case k1 => k_asm); (case k2 => k_asm); (case k3 => k_asm); (case k4 => k_asm); (case k5 => k_asm); (case k6 => exact rfl); (case k7 => exact rfl); (case h1 => k_extra "c pre"); (case h2 => k_extra "c part"); (case h4 => k_extra "c dp"); (case h5 => k_extra "c un")))
  k_with "until iter" => (repeat' ((fail_if_success (with_reducible show wpAny _ _ (pyIter _) _ _ _)); first | (k_unfold; (try dsimp only)) | (k_end; wrow_close) | walk1 | (dsimp only; walk1) | (leave1; walk_say "STEP leave1"; try dsimp only) | fail "no step"))
  k_with "until while" => (repeat' ((fail_if_success (with_reducible show wpAny _ _ (exec (Stmt.While _ _ _ _) _) _ _ _)); first | (k_unfold; (try dsimp only)) | (k_end; wrow_close) | walk1 | (dsimp only; walk1) | (leave1; walk_say "STEP leave1"; try dsimp only) | fail "no step"))
  k_with "until kswend" => (repeat' ((fail_if_success (with_reducible show KswEnd _ _ _ _ _ _ _ _ _ _ _ _)); first | (k_unfold; (try dsimp only)) | (k_end; wrow_close) | walk1 | (dsimp only; walk1) | (leave1; walk_say "STEP leave1"; try dsimp only) | fail "no step"))
  k_with "ite" => ((k_closed; first | with_reducible refine ite_pos (by decide) ?_ | with_reducible refine ite_neg (by decide) ?_))
  k_with "subscriptTail Call" => ((k_here; k_dflt (refine kba_turn (value' := PySem.Expr.Name (PySem.Str.ofString "_") ⟨0, 0, 0, 0⟩) (fun _ => rfl) ?_)))
  k_with "subscriptTail Subscript" => ((k_here; (first | (with_reducible show wpAny _ _ (subscriptTail _ _ (Value.ref _) _) _ _ _) | (with_reducible show wpAny _ _ (subscriptTail _ _ (Value.str _ _) (Value.ref _)) _ _ _)); k_dflt (refine kba_turn (value' := PySem.Expr.Name (PySem.Str.ofString "_") ⟨0, 0, 0, 0⟩) (fun _ => rfl) ?_)))
  k_with "c dp" => (((try dsimp only); first | exact dp_of (by with_reducible assumption) (by exact Nat.le_of_ble_eq_true rfl) | exact dp_of1 (by with_reducible assumption) (by exact Nat.le_of_ble_eq_true rfl) | omega))
  k_with "c un" => (((try dsimp only); first | exact un_of (by with_reducible assumption) (by exact Nat.le_of_ble_eq_true rfl) | exact un_of1 (by with_reducible assumption) (by exact Nat.le_of_ble_eq_true rfl) | omega))
  k_with "c a" => (with_reducible assumption)
  k_with "c lt" => (first | with_reducible assumption | exact a0 (by k_extra "c a") | exact a1 (by k_extra "c a") | exact a2 (by k_extra "c a") | exact a3 (by k_extra "c a") | exact a4 (by k_extra "c a") | exact a5 (by k_extra "c a") | exact a6 (by k_extra "c a") | exact a7 (by k_extra "c a") | exact a8 (by k_extra "c a") | exact a9 (by k_extra "c a") | exact a10 (by k_extra "c a") | exact a11 (by k_extra "c a") | exact a12 (by k_extra "c a") | exact a13 (by k_extra "c a"))
  k_with "c p" => (first | with_reducible assumption | k_ne | exact Nat.le_of_ble_eq_true rfl | decide | omega | assumption | exact rfl)
  k_with "c ro" => (first | exact fun _ _ _ => trivial | (intro g' st' hr'; have hro9 := st' _ _ (by with_reducible assumption); exact ⟨_, _, _, _, _, hro9⟩))
  k_with "c fin2" => (((try case p1 => k_extra "c p"); (try case p2 => k_extra "c p"); (try case p3 => k_extra "c p"); (try case p4 => k_extra "c p"); (try case p5 => k_extra "c p"); (case h3 => k_extra "c ro"); k_whole))
  k_with "c fin" => ((k_extra "c use"; k_extra "c fin2"))
  k_with "c enter" => ((refine spec_enter (by assumption) (by assumption) (by assumption) (by assumption) (by assumption) (by assumption) (by k_is) (by k_is) (by first | exact room_of (by with_reducible assumption) | (simp only [recursionLimit]; omega)) (by first | exact BindsTo.of_eq rfl | exact binds_K (Frag.In.keeps (by assumption) (by assumption)) rfl (by k_is) rfl rfl rfl) (by exact locs rfl) ?_ (by exact rfl) (by exact rfl) (by exact rfl) (by decide); intro _ _ _ _; (try dsimp only); (try k_fold)))
  k_with "c part" => (first | exact Part.nil | (apply Part.out; (· k_mem); (· k_extra "c part")) | (apply Part.stay; (· k_all); (· k_extra "c part")) | (refine part_tail ?_; k_extra "c tail"))
  k_with "c tail" => (first | exact List.forall_mem_nil _ | (refine List.forall_mem_cons.mpr ⟨?_, ?_⟩; (· k_extra "c apart"); (· k_extra "c tail")))
  k_with "c apart" => (first | exact OwnOff.ne (by assumption) (by k_memK) | (refine allLt_apart ?_; k_extra "c conj"))
  k_with "c conj" => (first | assumption | exact And.right (by k_extra "c conj"))
  k_with "c adr" => (first | exact List.forall_mem_nil _ | (refine List.forall_mem_cons.mpr ⟨?_, ?_⟩; (· k_memK); (· k_extra "c adr")))
  k_with "c pre" => (first | exact List.forall_mem_nil _ | (refine List.forall_mem_cons.mpr ⟨?_, ?_⟩; (· k_mem); (· k_extra "c pre")))
  k_with "call builtin:len" => ((k_here; (with_reducible show wpAny _ _ (call (Value.builtin "len") [Value.ref _]) _ _ _); (with_unfolding_all refine len_mine (by is_list) (by (first | omega | (simp only [List.length_cons, List.length_nil, List.length_append]; omega))) ?_)))
  k_with "subscriptTail" => ((k_here; (with_reducible show wpAny _ _ (subscriptTail _ _ (Value.ref _) (Value.int _ _)) _ _ _); (with_unfolding_all refine item_open (by is_list) (by omega) (by omega) (by omega) ?_ (by with_unfolding_all rfl)); intro _ _ _))
  k_with "call type:range" => ((k_here; (with_reducible show wpAny _ _ (call _ [_]) _ _ _); (with_unfolding_all refine range1_rows (by k_asm) (by k_asm) ?_); intro _ _ _ _ _ _ _ _ _; (try k_sweep)))
  k_with "call builtin:list.append" => ((k_here; (with_reducible show wpAny _ _ (call (Value.builtin _) [Value.ref _, _]) _ _ _); k_dflt (refine append_K (by k_asm) (by k_asm) (by k_upd) ?_ (by first | exact small_size (by assumption) | size_fits)); intro _ _ _; (try k_sweep)))
  k_with "binaryOp Add str str" => ((k_here; (refine add_mine ?_ (by (first | omega | (simp only [Str.length_append]; omega))) (by (first | omega | (simp only [Str.length_append]; omega)))); intro _ _))
  k_with "call type:list" => ((k_here; (with_reducible show wpAny _ _ (call (Value.type "list") [Value.ref _]) _ _ _); k_dflt (refine list_mine (by k_asm) (by k_asm) (by k_mem) (by omega) ?_); intro _ _ _ _ _ l9; (try k_lt l9); (try (revert l9; intro _)); (try k_sweep)))
  k_with "callWith ref" => ((k_here; k_dflt (first | refine callWith_K (by with_reducible assumption) (by k_is) ?_ | refine callWith_K0 (by k_in) (by k_is) ?_)))
  k_with "call ref" => (k_here; (with_reducible show wpAny _ _ (call (Value.ref 232) _) _ _ _); (try k_fold); k_dflt (refine use_by (by k_asm) (by k_asm) (by k_asm) (by k_asm) (by k_asm) (by exact rfl) (by exact rfl) (by k_extra "c pre") (by k_extra "c part") (by k_extra "c dp") (by k_extra "c un") (take_spec (by k_extra "c p") (by k_extra "c p") (by k_extra "c p")) (by k_extra "c ro") ?_); walk_at "c in"; rename_i P'; obtain ⟨_, _, _, _, _, _, _, hv', _, _, _, htl'⟩ := P'; subst hv' htl'; (walk_at "c aft"))
  k_with "call ref" => (k_here; (with_reducible show wpAny _ _ (call (Value.ref 239) _) _ _ _); (try k_fold); k_dflt (refine use_by (by k_asm) (by k_asm) (by k_asm) (by k_asm) (by k_asm) (by exact rfl) (by exact rfl) (by k_extra "c pre") (by k_extra "c part") (by k_extra "c dp") (by k_extra "c un") (one_spec (by k_extra "c p") (by k_extra "c p") (by k_extra "c p") (by k_extra "c p")) (by k_extra "c ro") ?_); walk_at "c in"; rename_i P'; obtain ⟨hm', _, _, _, _, _, _, htl'⟩ := P'; subst htl'; (walk_at "c aft"); (obtain ⟨_, _, e', hs'⟩ := sep_of hm'); subst e'; (have hsl' := sep_len hs'); clear hm'; (revert hs' hsl'; intro _ _))
  k_with "call ref" => (k_here; (with_reducible show wpAny _ _ (call (Value.ref 246) _) _ _ _); (try k_fold); k_dflt (refine use_by (by k_asm) (by k_asm) (by k_asm) (by k_asm) (by k_asm) (by exact rfl) (by exact rfl) (by k_extra "c pre") (by k_extra "c part") (by k_extra "c dp") (by k_extra "c un") (word_spec (by k_extra "c p")) (by k_extra "c ro") ?_); walk_at "c in"; rename_i P'; obtain ⟨_, _, _, _, _, _, _, _, _, _, hv', _, _, _, htl'⟩ := P'; subst hv' htl'; walk_at "c ap"; (have htl9 := tok_len (by assumption)); (revert htl9; intro _); (try k_sweep))
  exact rfl
local macro_rules | `(tactic| walk_at "c ap") => `(tactic| ((with_reducible rename News _ _ _ _ => N9); (with_reducible rename Apart _ _ => ap9); (simp only [List.cons_append, List.nil_append] at N9); (simp only [Apart, List.forall_mem_cons, List.not_mem_nil, false_implies, implies_true, and_true, true_and] at ap9)))
structure BSt where
  x : Int
  y : Int
  tx : Tok
  ty : Tok
  n : Nat
  vs : List Value
  c : Nat
  ps : List Pc
  tk : Tok
def OkText (ps : List Pc) : Prop := 2 ≤ ps.length ∧ ps.length ≤ 6 ∧ ∀ p ∈ ps, OkPc p
theorem pushToks (vs : List Value) (v : Value) : (vs.toArray.push v) = (vs ++ [v]).toArray := by simp
theorem list_last_ne {vs : List Value} {D : Addr} {n m : Nat} {x y : Int} {tx ty : Tok} (h : listOf (vs ++ [Value.ref D]).toArray n = listOf #[.int x tx, .int y ty] m) : False := by
  have e : (vs ++ [Value.ref D]).toArray.toList = [Value.int x tx, .int y ty] := congrArg (fun o : Obj => match o.data with | .seq a _ => a.toList | _ => []) h
  rw [List.toList_toArray] at e
  have e2 := congrArg List.getLast? e
  rw [List.getLast?_append] at e2
  cases (show some (Value.ref D) = some (Value.int y ty) from e2)
set_option maxHeartbeats 8000000 in
theorem built_spec {prog : Program} {w : World} {src : Addr} {x y : Int} {tx ty : Tok} {n : Nat} (hx : 0 ≤ x) :
    CSpec prog w 4 30 253 [.ref src] [(src, listOf #[.int x tx, .int y ty] n)] (fun _ => True)
      (fun v tl => ∃ (a d : Addr) (ps : List Pc) (tk : Tok) (vs : List Value) (c : Nat) (tups : Led) (x' y' : Int) (tx' ty' : Tok) (n' : Nat), v = .ref a ∧ OkText ps ∧ 0 ≤ x' ∧
        tl = (a, tupO [.str (textOf ps) tk, .ref d]) :: (d, listOf vs.toArray c) :: (src, listOf #[.int x' tx', .int y' ty'] n') :: tups ∧
        DatAll tups vs ((duesOf ps ++ [endW (textOf ps).length]).map Wd.dat) ∧ TupLed tups ∧ @Ne Nat src d) := by
  w_top off
  unfold CSpec
  intro dp un gd outer A₀ base g s p loose mean mg mb R B st sz X T N0 _ hd hu hret
  walk_at "c enter"
  walk_at "until iter"
  rename_i due h6 l1a D h5 l1b h4 h3 h2 h1 tkA r1 x1 y1 tr1 tx1 ty1 n1 hr0 hr1 hx1 h9 tk9 t9 u9 v9 R9 F9 N9 k9
  refine' kd_range (x := Str.ofString "turn") (n := (2 + r1 - 0).toNat) (fun c : BSt => [(src, listOf #[.int c.x c.tx, .int c.y c.ty] c.n), (due, listOf c.vs.toArray c.c)]) []
    (fun c => [(Str.ofString "text", .str (textOf c.ps) c.tk)]) (fun L9 c => DatAll L9 c.vs ((duesOf c.ps).map Wd.dat) ∧ TupLed L9 ∧ 0 ≤ c.x)
    [Str.ofString "kind", Str.ofString "told"] (fun pre c => c.ps.length = pre.length ∧ ∀ p ∈ c.ps, OkPc p) [src, due] ⟨x1, y1, tx1, ty1, n1, [], 0, [], _⟩ ?k1 R9 ?k2 ?k3 F9 N9 ?k4 ?k5 ?k6 ?k7 ?k8 ?turn ?done
  case k1 => exact rfl
  case k2 => exact small_one (by omega) (by omega) (by omega) (by omega)
  case k3 => exact rangeSize_nat _ _
  case k4 => walk_at "c pre"
  case k5 => intro c; rfl
  case k6 => exact ⟨.nil, TupLed.nil, hx1⟩
  case k7 => intro p hp; rcases List.mem_cons.mp hp with rfl | hp; exact rfl; cases hp
  case k8 => exact ⟨rfl, fun p hp => nomatch hp⟩
  case turn =>
    clear F9 N9 R9
    rintro ⟨x2, y2, tx2, ty2, n2, vs2, c2, ps2, tk2⟩ tl pre k t u h tk own hk hlen hsep hoff ⟨hD, hT, hx2⟩ ⟨hps, hok⟩ F' N'
    dsimp only [kstB] at F' N' hD hT hx2 hps hok
    simp only [List.nil_append, List.cons_append] at N' hD hT
    have hlt := textOf_len ps2 hok
    have hvl : vs2.length ≤ 6 := by rw [hD.length, List.length_map, duesOf_len]; omega
    have hva : vs2.toArray.size ≤ 6 := by rw [List.size_toArray]; exact hvl
    have hlt6 : (textOf ps2).length ≤ 36 := by omega
    generalize hT9 : tl ++ own = T9 at N' hoff
    (try dsimp only); (try k_fold)
    k_steps
    all_goals (
      rename_i kw tw tkw ttw xa ya txa tya na hkt hne1 hxa hap htl h7 F7 N7 h6 h5 tkq hbr D h4 l1b h3 tkr t1r tk2r l h2 l1a h1 tk1r xb yb txb tyb nb hxb sp st hsp hspl tz tkz hz F9 N9
      simp only [pushToks] at N9
      refine' kd_end (pre := pre ++ [k]) ⟨xb, yb, txb, tyb, nb, vs2 ++ [.ref D], _, ps2 ++ [⟨kw, tw, sp⟩], tz⟩ [(D, _)] hsep F9 N9 ?e1 ?e2 ?e3 ?e4 ?e5 ?e6 ?e7 ?e8 ?e9
      case e1 =>
        dsimp only
        simp only [List.nil_append, List.cons_append]
        refine List.forall_mem_cons.mpr ⟨by k_mem, List.forall_mem_cons.mpr ⟨by k_mem, List.forall_mem_cons.mpr ⟨by k_mem, fun q hq => ?_⟩⟩⟩
        have hq9 : q ∈ T9 := hT9 ▸ List.mem_append_left _ hq
        repeat (first | exact hq9 | refine List.Mem.tail _ ?_)
      case e2 =>
        intro q hq
        have hq9 : q ∈ T9 := hT9 ▸ List.mem_append_right _ hq
        repeat (first | exact hq9 | refine List.Mem.tail _ ?_)
      case e3 => rfl
      case e4 => refine List.forall_mem_cons.mpr ⟨List.forall_mem_cons.mpr ⟨by k_ne, List.forall_mem_cons.mpr ⟨by k_ne, List.forall_mem_nil _⟩⟩, List.forall_mem_nil _⟩
      case e5 =>
        refine List.forall_mem_cons.mpr ⟨fun q hq => ?_, List.forall_mem_nil _⟩
        have hA := allLt_mem l1b.2.2.2 q (hT9 ▸ List.mem_append_right _ hq)
        exact Nat.ne_of_lt hA
      case e6 =>
        refine List.forall_mem_cons.mpr ⟨?_, List.forall_mem_nil _⟩
        dsimp only
        rw [textOf_snoc]
        rfl
      case e7 =>
        intro z g1 g2 g3
        have g4 := g2 _ (.head _)
        dsimp only at g4
        have g5 : z ≠ Str.ofString "kind" := fun e => by rw [e] at g3; revert g3; decide +kernel
        have g6 : z ≠ Str.ofString "told" := fun e => by rw [e] at g3; revert g3; decide +kernel
        repeat (first | rw [if_neg g4] | rw [if_neg g1] | rw [if_neg g5] | rw [if_neg g6])
        rw [g3]
        rfl
      case e8 =>
        dsimp only
        rw [map_dues_snoc]
        refine ⟨DatAll.append (DatAll.mono (fun q hq => List.mem_append_right _ (List.mem_append_right _ hq)) hD) (DatAll.one (datIn_word (.head _) ?_)), TupLed.cons rfl hT, hxb⟩
        first | exact .inl ⟨hbr, _, rfl⟩ | exact .inr ⟨hbr, rfl⟩
      case e9 =>
        refine ⟨?_, all_snoc hok ⟨hkt, hsp⟩⟩
        rw [List.length_append, List.length_append, hps]; rfl)
  case done =>
    clear F9 N9 R9
    rintro ⟨x2, y2, tx2, ty2, n2, vs2, c2, ps2, tk2⟩ tl u h tk hoff ⟨hD, hT, hx2⟩ ⟨hps, hok⟩ F' N'
    dsimp only [kstB] at F' N' hD hT hx2 hps hok
    simp only [List.nil_append, List.cons_append] at N' hD hT
    rw [rangeKs_length] at hps
    have hlt := textOf_len ps2 hok
    have hvl : vs2.length ≤ 6 := by rw [hD.length, List.length_map, duesOf_len]; omega
    have hva : vs2.toArray.size ≤ 6 := by rw [List.size_toArray]; exact hvl
    have hlt6 : (textOf ps2).length ≤ 36 := by omega
    (try dsimp only); (try k_fold)
    k_steps
    rename_i D1 h4 l1c l h3 l1d h2 D2 h1 F9 N9 l1e
    refine' spec_endS hret F9 N9 ?hs ⟨_, _, ps2, tk2, vs2 ++ [.ref D1], _, (D1, _) :: tl, x2, y2, tx2, ty2, n2, rfl, ⟨by omega, by omega, hok⟩, hx2, rfl, ?dat, ?tup, ?ne⟩
    case hs =>
      refine List.forall_mem_cons.mpr ⟨by k_mem, List.forall_mem_cons.mpr ⟨by k_mem, List.forall_mem_cons.mpr ⟨by k_mem, List.forall_mem_cons.mpr ⟨by k_mem, fun q hq => ?_⟩⟩⟩⟩
      repeat (first | exact hq | refine List.Mem.tail _ ?_)
    case dat =>
      rw [List.map_append]
      exact DatAll.append (DatAll.mono (fun q hq => List.mem_cons_of_mem _ hq) hD) (DatAll.one (datIn_word (.head _) (.inr ⟨rfl, rfl⟩)))
    case tup => exact TupLed.cons rfl hT
    case ne =>
      intro e9
      have g1 := (N9 (src, _) (by k_mem)).1
      have g2 := (N9 (h3.objs.size, _) (by k_mem)).1
      dsimp only at g1 g2
      rw [e9] at g1
      exact list_last_ne (Option.some.inj (g2.symm.trans g1))
end
-- Pool
section
theorem rows_Pool : hd.heap_39 = hd.heap_39 := by
  k_with_none
  k_with "subscriptTail Name Constant ref int" => ((k_here; (with_reducible show wpAny _ _ (subscriptTail _ _ (Value.ref _) (Value.int _ _)) _ _ _); (with_unfolding_all refine item_litK (by is_list) (by decide) (by decide) (by rfl) ?_ (by with_unfolding_all rfl))))
  k_with "binaryOp Mult int int" => (refine mul_int ?_ (IntMulOk.of_left (intBits_fmod (by decide) (by decide))))
  k_with "k_room" => (((try simp only [depth_mark, depth_under_make, depth_under_kw, depth_in1, depth_deeper, depth_caller]); (simp only [recursionLimit]; omega)))
  k_with "k_units" => (((try simp only [units_in1, units_deeper, Around.mark_units, units_caller]); (try dsimp only); first | exact line_of (by with_reducible assumption) (by exact Nat.le_of_ble_eq_true rfl) | (have hcL9 := cLine_is; omega)))
  k_with "k_in" => (exact Frag.In.keeps (by with_reducible assumption) (Fr.keep (by with_reducible assumption)))
  k_with "k_ne" => ((refine neN ?_; (try dsimp only); first | exact Nat.ne_of_lt (by k_extra "c lt") | exact Nat.ne_of_gt (by k_extra "c lt") | exact ne_l1 (by k_extra "c lt") | exact ne_l2 (by k_extra "c lt") | exact ne_r1 (by k_extra "c lt") | exact ne_r2 (by k_extra "c lt") | omega))
  k_with "c use" => (((case k1 => k_asm); (case k2 => k_asm); (case k3 => k_asm); (case k4 => k_asm); (case k5 => k_asm); (case k6 => exact rfl); (case k7 => exact rfl); (case h1 => k_extra "c pre"); (case h2 => k_extra "c part"); (case h4 => k_extra "c dp"); (case h5 => k_extra "c un")))
  k_with "until iter" => (repeat' ((fail_if_success (with_reducible show wpAny _ _ (pyIter _) _ _ _)); first | (k_unfold; (try dsimp only)) | (k_end; wrow_close) | walk1 | (dsimp only; walk1) | (leave1; walk_say "STEP leave1"; try dsimp only) | fail "no step"))
  k_with "until while" => (repeat' ((fail_if_success (with_reducible show wpAny _ _ (exec (Stmt.While _ _ _ _) _) _ _ _)); first | (k_unfold; (try dsimp only)) | (k_end; wrow_close) | walk1 | (dsimp only; walk1) | (leave1; walk_say "STEP leave1"; try dsimp only) | fail "no step"))
  k_with "until kswend" => (repeat' ((fail_if_success (with_reducible show KswEnd _ _ _ _ _ _ _ _ _ _ _ _)); first | (k_unfold; (try dsimp only)) | (k_end; wrow_close) | walk1 | (dsimp only; walk1) | (leave1; walk_say "STEP leave1"; try dsimp only) | fail "no step"))
  k_with "ite" => ((k_closed; first | with_reducible refine ite_pos (by decide) ?_ | with_reducible refine ite_neg (by decide) ?_))
  k_with "subscriptTail Call" => ((k_here; k_dflt (refine kba_turn (value' := PySem.Expr.Name (PySem.Str.ofString "_") ⟨0, 0, 0, 0⟩) (fun _ => rfl) ?_)))
  k_with "subscriptTail Subscript" => ((k_here; (first | (with_reducible show wpAny _ _ (subscriptTail _ _ (Value.ref _) _) _ _ _) | (with_reducible show wpAny _ _ (subscriptTail _ _ (Value.str _ _) (Value.ref _)) _ _ _)); k_dflt (refine kba_turn (value' := PySem.Expr.Name (PySem.Str.ofString "_") ⟨0, 0, 0, 0⟩) (fun _ => rfl) ?_)))
  k_with "c dp" => (((try dsimp only); first | exact dp_of (by with_reducible assumption) (by exact Nat.le_of_ble_eq_true rfl) | exact dp_of1 (by with_reducible assumption) (by exact Nat.le_of_ble_eq_true rfl) | omega))
  k_with "c un" => (((try dsimp only); first | exact un_of (by with_reducible assumption) (by exact Nat.le_of_ble_eq_true rfl) | exact un_of1 (by with_reducible assumption) (by exact Nat.le_of_ble_eq_true rfl) | omega))
  k_with "c a" => (with_reducible assumption)
  k_with "c lt" => (first | with_reducible assumption | exact a0 (by k_extra "c a") | exact a1 (by k_extra "c a") | exact a2 (by k_extra "c a") | exact a3 (by k_extra "c a") | exact a4 (by k_extra "c a") | exact a5 (by k_extra "c a") | exact a6 (by k_extra "c a") | exact a7 (by k_extra "c a") | exact a8 (by k_extra "c a") | exact a9 (by k_extra "c a") | exact a10 (by k_extra "c a") | exact a11 (by k_extra "c a") | exact a12 (by k_extra "c a") | exact a13 (by k_extra "c a"))
  k_with "c p" => (first | with_reducible assumption | k_ne | exact Nat.le_of_ble_eq_true rfl | decide | omega | assumption | exact rfl)
  k_with "c ro" => (first | exact fun _ _ _ => trivial | (intro g' st' hr'; have hro9 := st' _ _ (by with_reducible assumption); exact ⟨_, _, _, _, _, hro9⟩))
  k_with "c fin2" => (((try case p1 => k_extra "c p"); (try case p2 => k_extra "c p"); (try case p3 => k_extra "c p"); (try case p4 => k_extra "c p"); (try case p5 => k_extra "c p"); (case h3 => k_extra "c ro"); k_whole))
  k_with "c fin" => ((k_extra "c use"; k_extra "c fin2"))
  k_with "c enter" => ((refine spec_enter (by assumption) (by assumption) (by assumption) (by assumption) (by assumption) (by assumption) (by k_is) (by k_is) (by first | exact room_of (by with_reducible assumption) | (simp only [recursionLimit]; omega)) (by first | exact BindsTo.of_eq rfl | exact binds_K (Frag.In.keeps (by assumption) (by assumption)) rfl (by k_is) rfl rfl rfl) (by exact locs rfl) ?_ (by exact rfl) (by exact rfl) (by exact rfl) (by decide); intro _ _ _ _; (try dsimp only); (try k_fold)))
  k_with "c part" => (first | exact Part.nil | (apply Part.out; (· k_mem); (· k_extra "c part")) | (apply Part.stay; (· k_all); (· k_extra "c part")) | (refine part_tail ?_; k_extra "c tail"))
  k_with "c tail" => (first | exact List.forall_mem_nil _ | (refine List.forall_mem_cons.mpr ⟨?_, ?_⟩; (· k_extra "c apart"); (· k_extra "c tail")))
  k_with "c apart" => (first | exact OwnOff.ne (by assumption) (by k_memK) | (refine allLt_apart ?_; k_extra "c conj"))
  k_with "c conj" => (first | assumption | exact And.right (by k_extra "c conj"))
  k_with "c adr" => (first | exact List.forall_mem_nil _ | (refine List.forall_mem_cons.mpr ⟨?_, ?_⟩; (· k_memK); (· k_extra "c adr")))
  k_with "c pre" => (first | exact List.forall_mem_nil _ | (refine List.forall_mem_cons.mpr ⟨?_, ?_⟩; (· k_mem); (· k_extra "c pre")))
  k_with "call builtin:len" => ((k_here; (with_reducible show wpAny _ _ (call (Value.builtin "len") [Value.ref _]) _ _ _); (with_unfolding_all refine len_mine (by is_list) (by (first | omega | (simp only [List.length_cons, List.length_nil, List.length_append]; omega))) ?_)))
  k_with "subscriptTail" => ((k_here; (with_reducible show wpAny _ _ (subscriptTail _ _ (Value.ref _) (Value.int _ _)) _ _ _); (with_unfolding_all refine item_open (by is_list) (by omega) (by omega) (by omega) ?_ (by with_unfolding_all rfl)); intro _ _ _))
  k_with "call type:range" => ((k_here; (with_reducible show wpAny _ _ (call _ [_]) _ _ _); (with_unfolding_all refine range1_rows (by k_asm) (by k_asm) ?_); intro _ _ _ _ _ _ _ _ _; (try k_sweep)))
  k_with "call builtin:list.append" => ((k_here; (with_reducible show wpAny _ _ (call (Value.builtin _) [Value.ref _, _]) _ _ _); k_dflt (refine append_K (by k_asm) (by k_asm) (by k_upd) ?_ (by first | exact small_size (by assumption) | size_fits)); intro _ _ _; (try k_sweep)))
  k_with "binaryOp Add str str" => ((k_here; (refine add_mine ?_ (by (first | omega | (simp only [Str.length_append]; omega))) (by (first | omega | (simp only [Str.length_append]; omega)))); intro _ _))
  k_with "call type:list" => ((k_here; (with_reducible show wpAny _ _ (call (Value.type "list") [Value.ref _]) _ _ _); k_dflt (refine list_mine (by k_asm) (by k_asm) (by k_mem) (by omega) ?_); intro _ _ _ _ _ l9; (try k_lt l9); (try (revert l9; intro _)); (try k_sweep)))
  k_with "callWith ref" => ((k_here; k_dflt (first | refine callWith_K (by with_reducible assumption) (by k_is) ?_ | refine callWith_K0 (by k_in) (by k_is) ?_)))
  exact rfl
set_option maxHeartbeats 8000000 in
theorem pool_spec {prog : Program} {w : World} {l : Addr} {vs : List Value} {ns : List Int} {k : Int} {tk : Tok} (hI : IntsAre vs ns) (hk0 : 0 ≤ k) (hk2 : k < 2) (hlen : ns.length ≤ 63) :
    CSpec prog w 1 8 225 [.ref l, .int k tk] [] (fun g => g.IsList l vs.toArray)
      (fun v tl => ∃ (a : Addr) (x y : Int) (tx ty : Tok) (n : Nat), v = .ref a ∧ 0 ≤ x ∧ tl = [(a, listOf #[.int x tx, .int y ty] n)]) := by
  w_top off
  unfold CSpec
  intro dp un gd outer A₀ base g s p loose mean mg mb R B st sz X T N0 hro hd hu hret
  have hvl : vs.length = ns.length := hI.length
  walk_at "c enter"
  k_steps
  all_goals (
    refine' spec_end hret ?k1 ?k2 ⟨_, _, _, _, _, _, rfl, ?x, rfl⟩
    case k1 => assumption
    case k2 => assumption
    case x => first | exact Int.le_refl 0 | (split <;> omega))
end
-- BlankI
section
theorem blank_specI {prog : Program} {w : World} {x : Str} {i : Nat} {ia : Int} {tx ti : Tok} (hia : ia = (i : Int)) (hi : i ≤ x.length) (hx : x.length ≤ 1000) (hn : ∀ c ∈ x.cps.toList, c ≠ 47) :
    CSpec prog w 2 16 90 [.str x tx, .int ia ti] [] (fun g => True)
      (fun v tl => ∃ t, v = .int (runEnd x BLK i) t ∧ tl = []) := by
  subst hia
  exact blank_spec hi hx hn
end
-- Plain3
section
def sL (s : String) : List Nat := (Str.ofString s).cps.toList
def flat : List Pc → List Nat
  | [] => []
  | p :: ps => sL p.t ++ (sL p.sep ++ flat ps)
def RdAt : List Pc → Prop
  | [] => True
  | p :: ps => (p.k, p.t) ∈ toksB ∧ (p.sep ∈ seps ∨ (p.sep = "" ∧ ps = [] ∧ p.k ≠ "int")) ∧ RdAt ps
def wdAt (i : Nat) (p : Pc) : Wd := ⟨Str.ofString p.k, Str.ofString p.t, (i : Int), Str.ofString p.k == Str.ofString "int"⟩
def wdsAt : Nat → List Pc → List Wd
  | _, [] => []
  | i, p :: ps => wdAt i p :: wdsAt (i + (Str.ofString p.t).length + (Str.ofString p.sep).length) ps
theorem sL_len (s : String) : (sL s).length = (Str.ofString s).length := by simp [sL, Str.length]
theorem flat_append (a b : List Pc) : flat (a ++ b) = flat a ++ flat b := by
  induction a with
  | nil => rfl
  | cons p a ih => show sL p.t ++ (sL p.sep ++ flat (a ++ b)) = (sL p.t ++ (sL p.sep ++ flat a)) ++ flat b; rw [ih]; simp only [List.append_assoc]
theorem str_app (a b : Str) : (a ++ b).cps.toList = a.cps.toList ++ b.cps.toList := by
  show (a.cps ++ b.cps).toList = _
  simp
theorem textOf_flat : ∀ ps : List Pc, (textOf ps).cps.toList = flat ps := by
  refine snoc_ind ?_ ?_
  · decide +kernel
  · intro l a ih
    rw [textOf_snoc, str_app, str_app, ih, flat_append]
    show _ = flat l ++ (sL a.t ++ (sL a.sep ++ []))
    rw [List.append_nil, List.append_assoc]; rfl
theorem wdsAt_snoc (ps : List Pc) (p : Pc) : ∀ i, wdsAt i (ps ++ [p]) = wdsAt i ps ++ [wdAt (i + (flat ps).length) p] := by
  induction ps with
  | nil => intro i; rfl
  | cons a l ih =>
    intro i
    show wdAt i a :: wdsAt _ (l ++ [p]) = wdAt i a :: (wdsAt _ l ++ _)
    rw [ih]
    have e : (flat (a :: l)).length = (Str.ofString a.t).length + (Str.ofString a.sep).length + (flat l).length := by
      show (sL a.t ++ (sL a.sep ++ flat l)).length = _
      rw [List.length_append, List.length_append, sL_len, sL_len]; omega
    rw [e]
    have e2 : i + (Str.ofString a.t).length + (Str.ofString a.sep).length + (flat l).length = i + ((Str.ofString a.t).length + (Str.ofString a.sep).length + (flat l).length) := by omega
    rw [e2]
theorem duesOf_wds : ∀ ps : List Pc, duesOf ps = wdsAt 0 ps := by
  refine snoc_ind rfl ?_
  intro l a ih
  rw [duesOf_snoc, wdsAt_snoc, ih]
  have e : (flat l).length = (textOf l).length := by rw [← textOf_flat]; simp [Str.length]
  rw [Nat.zero_add, e]; rfl
theorem toks_B {p : String × String} (h : p ∈ toks) : p ∈ toksB := .tail _ h
theorem rd_of : ∀ ps : List Pc, (∀ p ∈ ps, OkPc p) → RdAt ps
  | [], _ => trivial
  | p :: ps, h => ⟨toks_B (h p (.head _)).1, .inl (h p (.head _)).2, rd_of ps fun q hq => h q (.tail _ hq)⟩
theorem rd_tail {p : Pc} {ps : List Pc} (h : RdAt (p :: ps)) : Tail (sL p.sep ++ flat ps) := by
  rcases h.2.1 with h1 | ⟨h1, h2, -⟩
  · simp only [seps, List.mem_cons, List.not_mem_nil, or_false] at h1
    rcases h1 with e | e | e
    · rw [e, show sL " " = [32] from by decide +kernel]; exact .inr (.inl ⟨_, rfl⟩)
    · rw [e, show sL "  " = [32, 32] from by decide +kernel]; exact .inr (.inl ⟨_, rfl⟩)
    · rw [e, show sL "\n" = [10] from by decide +kernel]; exact .inr (.inr ⟨_, rfl⟩)
  · rw [h1, h2]; exact .inl rfl
theorem rd_int {p : Pc} {ps : List Pc} (h : RdAt (p :: ps)) (hk : p.k = "int") : sL p.sep ++ flat ps ≠ [] := by
  rcases h.2.1 with h1 | ⟨-, -, h3⟩
  · simp only [seps, List.mem_cons, List.not_mem_nil, or_false] at h1
    rcases h1 with e | e | e
    · rw [e, show sL " " = [32] from by decide +kernel]; exact List.cons_ne_nil _ _
    · rw [e, show sL "  " = [32, 32] from by decide +kernel]; exact List.cons_ne_nil _ _
    · rw [e, show sL "\n" = [10] from by decide +kernel]; exact List.cons_ne_nil _ _
  · exact absurd hk h3
abbrev BLKS : Str := Str.ofString " \t\r\n\x0b\x0c\u0085\u200e\u200f\u2028\u2029"
def startOk (t : String) : Bool := match sL t with
  | [] => false
  | c :: q => !BLKS.cps.toList.contains c && (c :: q).all fun d => d != 47
theorem toksB_start : ∀ p ∈ toksB, startOk p.2 = true := by decide +kernel
theorem tokB_start {k t : String} (h : (k, t) ∈ toksB) : ∃ c q, sL t = c :: q ∧ BLKS.cps.toList.contains c = false ∧ ∀ d ∈ c :: q, d ≠ 47 := by
  have h1 := toksB_start _ h
  unfold startOk at h1
  dsimp only at h1
  split at h1
  · cases h1
  · rename_i c q hc
    rw [Bool.and_eq_true, Bool.not_eq_true'] at h1
    exact ⟨c, q, hc, h1.1, fun d hd => by have := List.all_eq_true.mp h1.2 d hd; simpa using this⟩
theorem rd_start : ∀ {ps : List Pc}, RdAt ps → flat ps = [] ∨ ∃ c q, flat ps = c :: q ∧ BLKS.cps.toList.contains c = false
  | [], _ => .inl rfl
  | p :: ps, h => by
    obtain ⟨c, q, h1, h2, -⟩ := tokB_start h.1
    exact .inr ⟨c, q ++ (sL p.sep ++ flat ps), by show sL p.t ++ _ = _; rw [h1]; rfl, h2⟩
theorem rd_pos {p : Pc} {ps : List Pc} (h : RdAt (p :: ps)) : 0 < (sL p.t).length := by
  obtain ⟨c, q, h1, -, -⟩ := tokB_start h.1
  rw [h1]; exact Nat.succ_pos _
theorem sep_blank {p : Pc} {ps : List Pc} (h : RdAt (p :: ps)) : ∀ c ∈ sL p.sep, BLKS.cps.toList.contains c = true := by
  have hh : ∀ s ∈ "" :: seps, ∀ c ∈ sL s, BLKS.cps.toList.contains c = true := by decide +kernel
  refine hh _ ?_
  rcases h.2.1 with h1 | ⟨h1, -, -⟩
  · exact .tail _ h1
  · rw [h1]; exact .head _
theorem sep_47 {p : Pc} {ps : List Pc} (h : RdAt (p :: ps)) : ∀ c ∈ sL p.sep, c ≠ 47 := by
  have hh : ∀ s ∈ "" :: seps, ∀ c ∈ sL s, c ≠ 47 := by decide +kernel
  refine hh _ ?_
  rcases h.2.1 with h1 | ⟨h1, -, -⟩
  · exact .tail _ h1
  · rw [h1]; exact .head _
theorem rd_47 : ∀ {ps : List Pc}, RdAt ps → ∀ c ∈ flat ps, c ≠ 47
  | [], _ => fun _ h => nomatch h
  | p :: ps, h => by
    obtain ⟨c, q, h1, -, h2⟩ := tokB_start h.1
    intro d hd
    rcases List.mem_append.mp hd with hd | hd
    · rw [h1] at hd; exact h2 d hd
    · rcases List.mem_append.mp hd with hd | hd
      · exact sep_47 h d hd
      · exact rd_47 h.2.2 d hd
theorem push_toks (vs : List Value) (v : Value) : (vs.toArray.push v) = (vs ++ [v]).toArray := by simp
theorem news_swap {h₀ h : Heap} {L : Addr} {a b : Addr × Obj} {r : Led} (N : News h₀ L h (a :: b :: r)) : News h₀ L h (b :: a :: r) := fun q hq => by
  refine N q ?_
  rcases List.mem_cons.mp hq with e | hq
  · rw [e]; exact .tail _ (.head _)
  · rcases List.mem_cons.mp hq with e | hq
    · rw [e]; exact .head _
    · exact .tail _ (.tail _ hq)
theorem mem_swap3 {a b c : Addr × Obj} {r : Led} : ∀ q ∈ c :: b :: r, q ∈ a :: b :: c :: r := fun q hq => by
  rcases List.mem_cons.mp hq with e | hq
  · rw [e]; exact .tail _ (.tail _ (.head _))
  · rcases List.mem_cons.mp hq with e | hq
    · rw [e]; exact .tail _ (.head _)
    · exact .tail _ (.tail _ (.tail _ hq))
end
section

-- Sign
section
theorem rows_Sign : hd.heap_39 = hd.heap_39 := by
  k_with "subscriptTail" => (k_here; (with_reducible show wpAny _ _ (subscriptTail _ _ (Value.str _ _) (Value.int _ _)) _ _ _); (refine item_known (by with_reducible assumption) (by omega) (by omega) (by assumption) ?_ (by with_unfolding_all rfl) (by intro _; with_unfolding_all rfl)); (try dsimp only))
  k_with "subscriptTail Name Name str int" => k_extra "subscriptTail"
  k_with "subscriptTail Name BinOp str int" => k_extra "subscriptTail"
  k_with "compareOp In str str" => (k_here; first | refine in_b (by with_reducible assumption) ?_ | refine in_b (b := true) (by decide +kernel) ?_ | refine in_b (b := false) (by decide +kernel) ?_)
  k_with "compareOp Eq str str" => (k_here; first | refine eq_b (by with_reducible assumption) ?_ | refine eq_b (b := true) (by decide +kernel) ?_ | refine eq_b (b := false) (by decide +kernel) ?_)
  k_with "compareOp NotEq str str" => (k_here; first | refine ne_b (by with_reducible assumption) ?_ | refine ne_b (b := true) (by decide +kernel) ?_ | refine ne_b (b := false) (by decide +kernel) ?_)
  k_with "subscriptTail Name Slice str ref" => (k_here; (refine slice_known (s := ⟨_, _, _, _, _⟩) (by k_asm) (by k_asm) (by with_reducible assumption) (by assumption) ?_ (by with_unfolding_all rfl) (by intro _; with_unfolding_all rfl)); intro _ _ _ _ _; (try dsimp only); (try k_sweep))
  k_with "compareOp Eq int int" => (k_here; refine eqi_b (by with_reducible assumption) ?_)
  exact rfl
local macro_rules | `(tactic| walk_at "exec For Name Name") => `(tactic| (k_here; (with_reducible rename Fr _ _ _ _ => lF'); (with_unfolding_all refine' For_invVF lF' ?k1 ?k2 ?_; (case k1 => exact rfl); (case k2 => exact rfl); k_whole)))
/-- what read_sign, read_int, read_word hand back: a pair of the word and the place behind it -/
def RW (k t : String) (i : Nat) (v : Value) (tl : Led) : Prop :=
  ∃ (a b : Addr) (te t1 t2 t3 : Tok) (v4 : Value), v = .ref a ∧ (((Str.ofString k == Str.ofString "int") = true ∧ ∃ t4, v4 = .int 7 t4) ∨ ((Str.ofString k == Str.ofString "int") = false ∧ v4 = .none)) ∧ @Ne Nat a b ∧
    tl = [(a, tupO [.ref b, .int (((i + (Str.ofString t).length : Nat)) : Int) te]), (b, tupO [.str (Str.ofString k) t1, .str (Str.ofString t) t2, .int (i : Int) t3, v4, .none])]
def signsV : List Value := signsL.zipIdx.map fun p => Value.str (Str.ofString p.1) (325 + p.2)
theorem signsV_get {i : Nat} {v : Value} (h : signsV[i]? = some v) : ∃ s t, v = .str (Str.ofString s) t ∧ signsL[i]? = some s := by
  unfold signsV at h
  rw [List.getElem?_map, List.getElem?_zipIdx] at h
  cases e : signsL[i]? with
  | none => rw [e] at h; cases h
  | some s => rw [e] at h; exact ⟨s, _, (Option.some.inj h).symm, rfl⟩
theorem signsV_len : signsV.length = signsL.length := by unfold signsV; rw [List.length_map, List.length_zipIdx]
theorem sign_len {i : Nat} {s : String} (h : signsL[i]? = some s) : (Str.ofString s).length ≤ 3 := by
  have : ∀ s ∈ signsL, (Str.ofString s).length ≤ 3 := by decide +kernel
  exact this s (List.mem_of_getElem? h)
set_option maxHeartbeats 8000000 in
theorem sign_spec {prog : Program} {w : World} {x : Str} {i : Nat} {tx ti : Tok} {t : String} {r : List Nat} (ht : ("sign", t) ∈ toksB) (hr : TokAt x i t r) (hi : i < x.length) (hx : x.length ≤ 1000) :
    CSpec prog w 1 16 118 [.str x tx, .int i ti] [] (fun g => True) (RW "sign" t i) := by
  w_top off
  unfold CSpec
  intro dp un gd outer A₀ base g s p loose mean mg mb R B st sz X T N0 hro hd hu hret
  have h69 : g.IsTuple 69 signsV.toArray := ⟨_, X 69 _ (by k_is), rfl, _, rfl⟩
  walk_at "c enter"
  walk_at "until iter"
  rename Fr _ _ _ _ => F9
  rename News _ _ _ _ => N9
  refine' tup_loop (x := Str.ofString "sign") (l := 69) (vs := signsV) (fun j => ∀ k : Nat, k < j → ∀ s', signsL[k]? = some s' → (Str.ofString s').cps.toList.isPrefixOf (x.cps.toList.drop i) = false) ?k1 h69 F9 ?k2 ?turn ?done
  case k1 => exact rfl
  case k2 => exact fun k hk => absurd hk (Nat.not_lt_zero _)
  case turn =>
    clear F9 N9
    intro j v h tk own hv hJ F' N'
    obtain ⟨sg, tsg, rfl, hsg⟩ := signsV_get hv
    have hsl := sign_len hsg
    (try dsimp only); (try k_fold)
    k_steps
    · rename (_ == _) = true => hbr
      rw [slice_pre (Nat.le_of_lt hi), hr.1] at hbr
      have e := sign_is ht hr.2 hsg hbr (fun k hk s' hs' => by rw [← hr.1]; exact hJ k hk s' hs')
      subst e
      refine' spec_endS hret ?k1 ?k2 ?k3 ⟨_, _, _, _, _, _, _, rfl, .inr ⟨?k4, rfl⟩, ?k5, rfl⟩
      case k1 => assumption
      case k2 => assumption
      case k3 => walk_at "c pre"
      case k4 => decide +kernel
      case k5 => k_ne
    · rename (_ == _) = false => hbr
      rw [slice_pre (Nat.le_of_lt hi)] at hbr
      refine' InvEndG.intro ?k1 ?k2 ⟨rfl, ?k3, ?k4⟩ ?k5 ?k6 ?k7
      case k1 => assumption
      case k2 => assumption
      case k3 =>
        intro k hk s' hs'
        rcases Nat.lt_succ_iff_lt_or_eq.mp hk with hk | rfl
        · exact hJ k hk s' hs'
        · rw [hsg] at hs'
          cases hs'
          exact hbr
      case k4 =>
        intro z hz
        rw [if_neg hz]
      case k5 => exact fun p hp b hb => nomatch hb
      case k6 => exact fun p hp => nomatch hp
      case k7 => exact fun p hp => hp
  case done =>
    intro u h tk hJ F'
    rw [signsV_len] at hJ
    exact (sign_some ht hr.2 (fun k hk s' hs' => by rw [← hr.1]; exact hJ k hk s' hs')).elim
end
-- BaseAt
section
local macro_rules | `(tactic| walk_at "c pad 0") => `(tactic| fail "c_pad")
set_option maxHeartbeats 8000000 in
theorem fw_spec {prog : Program} {w : World} {c : Str} {tc : Tok} {n : Int} (hc : (c = Str.ofString "7" ∧ n = 7) ∨ (c = Str.ofString " " ∧ n = 99) ∨ (c = Str.ofString "\n" ∧ n = 99)) :
    CSpec prog w 1 16 97 [.str c tc] [] (fun g => True) (fun v tl => ∃ t, v = .int n t ∧ tl = []) := by
  w_top off
  unfold CSpec
  intro dp un gd outer A₀ base g s p loose mean mg mb R B st sz X T N0 hro hd hu hret
  rcases hc with ⟨rfl, rfl⟩ | ⟨rfl, rfl⟩ | ⟨rfl, rfl⟩ <;> (
    walk_at "c enter"
    k_steps)
  all_goals exact spec_end hret (by assumption) (by assumption) ⟨_, rfl, rfl⟩
local macro_rules | `(tactic| walk_at "ite") => `(tactic| ((with_reducible show ite ((PySem.Spec.lookup _ _).isSome = true) _ _); refine' PySem.W.ite_neg ?k1 ?_; (case k1 => exact ne_true_of_eq_false (by kernel_rfl))))
set_option maxHeartbeats 8000000 in
theorem baseat_spec {prog : Program} {w : World} {x c : Str} {i : Nat} {tx ti : Tok} (hx : x.length ≤ 1000) (hi : i < x.length) (hs : Txt.slice x (some (i : Int)) (some ((i : Int) + 2)) = c) (hc : c = Str.ofString "7 " ∨ c = Str.ofString "7\n") :
    CSpec prog w 1 16 104 [.str x tx, .int i ti] [] (fun g => True) (fun v tl => ∃ a t t', v = .ref a ∧ tl = [(a, tupO [.int 10 t, .int i t'])]) := by
  w_top off
  unfold CSpec
  intro dp un gd outer A₀ base g s p loose mean mg mb R B st sz X T N0 hro hd hu hret
  rcases hc with rfl | rfl <;> (
    walk_at "c enter"
    k_steps)
  all_goals (refine' spec_endS hret ?k1 ?k2 ?k3 ⟨_, _, _, rfl, rfl⟩; (case k1 => assumption); (case k2 => assumption); (case k3 => walk_at "c pre"))
end
-- Int
section
theorem rows_Int : hd.heap_39 = hd.heap_39 := by
  k_with "call ref" => (k_here; (with_reducible show wpAny _ _ (call (Value.ref 76) _) _ _ _); (try k_fold); k_dflt (refine use_by (by k_asm) (by k_asm) (by k_asm) (by k_asm) (by k_asm) (by exact rfl) (by exact rfl) (by k_extra "c pre") (by k_extra "c part") (by k_extra "c dp") (by k_extra "c un") (run_spec (by first | with_reducible exact rfl | exact (Int.natCast_add _ 1).symm | exact rfl) (by k_extra "c p") (by k_extra "c p") (by first | assumption | decide +kernel | omega)) (by k_extra "c ro") ?_); walk_at "c in"; rename_i P'; obtain ⟨_, hv', htl'⟩ := P'; subst hv' htl'; (walk_at "c aft"))
  k_with "call ref" => (k_here; (with_reducible show wpAny _ _ (call (Value.ref 97) _) _ _ _); (try k_fold); k_dflt (refine use_by (by k_asm) (by k_asm) (by k_asm) (by k_asm) (by k_asm) (by exact rfl) (by exact rfl) (by k_extra "c pre") (by k_extra "c part") (by k_extra "c dp") (by k_extra "c un") (fw_spec (by first | exact .inl ⟨rfl, rfl⟩ | assumption)) (by k_extra "c ro") ?_); walk_at "c in"; rename_i P'; obtain ⟨_, hv', htl'⟩ := P'; subst hv' htl'; (walk_at "c aft"))
  k_with "call ref" => (k_here; (with_reducible show wpAny _ _ (call (Value.ref 104) _) _ _ _); (try k_fold); k_dflt (refine use_by (by k_asm) (by k_asm) (by k_asm) (by k_asm) (by k_asm) (by exact rfl) (by exact rfl) (by k_extra "c pre") (by k_extra "c part") (by k_extra "c dp") (by k_extra "c un") (baseat_spec (by k_extra "c p") (by k_extra "c p") (by k_extra "c p") (by k_extra "c p")) (by k_extra "c ro") ?_); walk_at "c in"; rename_i P'; obtain ⟨_, _, _, hv', htl'⟩ := P'; subst hv' htl'; (walk_at "c aft"))
  exact rfl
structure ISt where
  a : Int
  v : Int
  m : Int
  ta : Tok
  tv : Tok
  tm : Tok
theorem item_of {x : Str} {i c : Nat} {q : List Nat} (hr : x.cps.toList.drop i = c :: q) : Txt.item x (i : Int) = ⟨#[c]⟩ := by
  have h : x.cps.toList[i]? = some c := by
    rw [← List.head?_drop, hr]; rfl
  refine PyProof.Rows.item_meets (Int.natCast_nonneg _) ?_
  simpa using h
theorem drop_next {x : Str} {i c : Nat} {q : List Nat} (hr : x.cps.toList.drop i = c :: q) : x.cps.toList.drop (i + 1) = q := by
  rw [← List.drop_drop, hr]; rfl
abbrev NSS : Str := Str.ofString "abcdefghijklmnopqrstuvwxyzABCDEFGHIJKLMNOPQRSTUVWXYZ_0123456789"
theorem runEnd_at {x S : Str} {i c : Nat} {q : List Nat} (hr : x.cps.toList.drop i = c :: q) (hc : S.cps.toList.contains c = false) : runEnd x S i = i := by
  refine runEnd_no (c := c) ?_ hc
  rw [← List.head?_drop, hr]; rfl
set_option maxHeartbeats 8000000 in
theorem int_spec {prog : Program} {w : World} {x : Str} {i : Nat} {tx ti : Tok} {b : Nat} {q : List Nat} (hr : x.cps.toList.drop i = 55 :: b :: q) (hb : b = 32 ∨ b = 10) (hx : x.length ≤ 1000) :
    CSpec prog w 3 30 111 [.str x tx, .int i ti] [] (fun g => True) (RW "int" "7" i) := by
  w_top off
  have hlen : i + 2 ≤ x.length := by
    have h1 := congrArg List.length hr
    rw [List.length_drop] at h1
    simp only [List.length_cons] at h1
    have h2 : x.cps.toList.length = x.length := by simp [Str.length]
    omega
  have hI0 : Txt.item x (i : Int) = Str.ofString "7" := (item_of hr).trans (by decide +kernel)
  have hI1 : ∃ c, Txt.item x (((i + 1 : Nat)) : Int) = c ∧ (c == Str.ofString "_") = false ∧ ((c = Str.ofString "7" ∧ (99 : Int) = 7) ∨ (c = Str.ofString " " ∧ (99 : Int) = 99) ∨ (c = Str.ofString "\n" ∧ (99 : Int) = 99)) := by
    have e := item_of (drop_next hr)
    rcases hb with rfl | rfl
    · exact ⟨_, e.trans (show _ = Str.ofString " " from by decide +kernel), by decide +kernel, .inr (.inl ⟨rfl, rfl⟩)⟩
    · exact ⟨_, e.trans (show _ = Str.ofString "\n" from by decide +kernel), by decide +kernel, .inr (.inr ⟨rfl, rfl⟩)⟩
  obtain ⟨c1, hc1, hc1u, hc1f⟩ := hI1
  have hS : ∃ c, Txt.slice x (some (i : Int)) (some ((i : Int) + 2)) = c ∧ (c = Str.ofString "7 " ∨ c = Str.ofString "7\n") := by
    have e : Txt.slice x (some (i : Int)) (some ((i : Int) + 2)) = ⟨#[55, b]⟩ := by
      rw [sliceL (by omega) (by omega), hr, show (((i : Int) + 2 - (i : Int)).toNat) = 2 from by omega]
      rfl
    rcases hb with rfl | rfl
    · exact ⟨_, e, .inl (by decide +kernel)⟩
    · exact ⟨_, e, .inr (by decide +kernel)⟩
  obtain ⟨c2, hc2, hc2f⟩ := hS
  have hrun : runEnd x NSS (i + 1) = i + 1 := runEnd_at (drop_next hr) (by rcases hb with rfl | rfl <;> decide +kernel)
  have hk1 : Txt.slice x (some ((i + 1 : Nat) : Int)) (some ((runEnd x NSS (i + 1) : Nat) : Int)) = Str.ofString "" := by
    rw [hrun, sliceL (by omega) (Int.le_refl _), Int.sub_self]
    exact (show _ = (⟨#[]⟩ : Str) from rfl).trans (by decide +kernel)
  have hk2 : Txt.slice x (some (i : Int)) (some ((i + 1 : Nat) : Int)) = Str.ofString "7" := by
    rw [sliceL (by omega) (by omega), hr, show ((((i + 1 : Nat) : Int) - (i : Int)).toNat) = 1 from by omega]
    exact (show _ = (⟨#[55]⟩ : Str) from rfl).trans (by decide +kernel)
  unfold CSpec
  intro dp un gd outer A₀ base g s p loose mean mg mb R B st sz X T N0 hro hd hu hret
  walk_at "c enter"
  walk_at "until while"
  rename Fr _ _ _ _ => F9
  rename News _ _ _ _ => N9
  refine' ksw_while (σ := ISt) (fun _ => []) (fun c => [(Str.ofString "at", .int c.a c.ta), (Str.ofString "value", .int c.v c.tv), (Str.ofString "many", .int c.m c.tm)]) (fun _ => True) [] (fun c => (c.a = (i : Int) ∧ c.v = 0 ∧ c.m = 0) ∨ (c.a = ((i + 1 : Nat) : Int) ∧ c.v = 7 ∧ c.m = 1)) (fun c => if c.m = 0 then 1 else 0) ⟨i, 0, 0, _, _, _⟩ F9 ?k0 trivial ?k1 ?k2 ?turn
  case k0 => exact fun _ h => nomatch h
  case k1 =>
    intro p hp
    simp only [List.mem_cons, List.not_mem_nil, or_false] at hp
    rcases hp with rfl | rfl | rfl <;> exact rfl
  case k2 => exact .inl ⟨rfl, rfl, rfl⟩
  case turn =>
    clear F9 N9
    rintro ⟨ja, jv, jm, ta, tv, tm⟩ u h tk _ hP F' N'
    dsimp only [kstB] at F' N' hP
    rcases hP with ⟨rfl, rfl, rfl⟩ | ⟨rfl, rfl, rfl⟩
    · (try dsimp only); (try k_fold)
      k_steps
      refine' ksw_end ⟨((i + 1 : Nat) : Int), 7, 1, _, _, _⟩ ?f1 ?f2 ?e1 trivial ?e2 ?e3 ?e4 ?e5
      case f1 => assumption
      case f2 => assumption
      case e1 => exact fun _ h => nomatch h
      case e2 =>
        intro p hp
        simp only [List.mem_cons, List.not_mem_nil, or_false] at hp
        rcases hp with rfl | rfl | rfl <;> exact rfl
      case e3 =>
        intro z g1 g2
        have g3 := g1 _ (.head _)
        have g4 := g1 _ (.tail _ (.head _))
        have g5 := g1 _ (.tail _ (.tail _ (.head _)))
        dsimp only at g3 g4 g5
        repeat (first | rw [if_neg g3] | rw [if_neg g4] | rw [if_neg g5])
        rfl
      case e4 => exact .inr ⟨rfl, rfl, rfl⟩
      case e5 => exact Nat.lt_succ_self 0
    · (try dsimp only); (try k_fold)
      k_steps
      rename News _ _ _ _ => N9
      rw [hrun, hk2, show i + 1 = i + (Str.ofString "7").length from by rw [show (Str.ofString "7").length = 1 from by decide +kernel]] at N9
      refine' spec_endS hret ?k1 N9 ?k3 ⟨_, _, _, _, _, _, _, rfl, .inl ⟨?k4, _, rfl⟩, ?k5, rfl⟩
      case k1 => assumption
      case k3 => walk_at "c pre"
      case k4 => decide +kernel
      case k5 => k_ne
end
-- RWord
section
theorem rows_RWord : hd.heap_39 = hd.heap_39 := by
  k_with_none
  k_with "subscriptTail Name Constant ref int" => ((k_here; (with_reducible show wpAny _ _ (subscriptTail _ _ (Value.ref _) (Value.int _ _)) _ _ _); (with_unfolding_all refine item_litK (by is_list) (by decide) (by decide) (by rfl) ?_ (by with_unfolding_all rfl))))
  k_with "binaryOp Mult int int" => (refine mul_int ?_ (IntMulOk.of_left (intBits_fmod (by decide) (by decide))))
  k_with "k_room" => (((try simp only [depth_mark, depth_under_make, depth_under_kw, depth_in1, depth_deeper, depth_caller]); (simp only [recursionLimit]; omega)))
  k_with "k_units" => (((try simp only [units_in1, units_deeper, Around.mark_units, units_caller]); (try dsimp only); first | exact line_of (by with_reducible assumption) (by exact Nat.le_of_ble_eq_true rfl) | (have hcL9 := cLine_is; omega)))
  k_with "k_in" => (exact Frag.In.keeps (by with_reducible assumption) (Fr.keep (by with_reducible assumption)))
  k_with "k_ne" => ((refine neN ?_; (try dsimp only); first | exact Nat.ne_of_lt (by k_extra "c lt") | exact Nat.ne_of_gt (by k_extra "c lt") | exact ne_l1 (by k_extra "c lt") | exact ne_l2 (by k_extra "c lt") | exact ne_r1 (by k_extra "c lt") | exact ne_r2 (by k_extra "c lt") | omega))
  k_with "c use" => (((case k1 => k_asm); (case k2 => k_asm); (case k3 => k_asm); (case k4 => k_asm); (case k5 => k_asm); (case k6 => exact rfl); (case k7 => exact rfl); (case h1 => k_extra "c pre"); (case h2 => k_extra "c part"); (case h4 => k_extra "c dp"); (case h5 => k_extra "c un")))
  k_with "until iter" => (repeat' ((fail_if_success (with_reducible show wpAny _ _ (pyIter _) _ _ _)); first | (k_unfold; (try dsimp only)) | (k_end; wrow_close) | walk1 | (dsimp only; walk1) | (leave1; walk_say "STEP leave1"; try dsimp only) | fail "no step"))
  k_with "until while" => (repeat' ((fail_if_success (with_reducible show wpAny _ _ (exec (Stmt.While _ _ _ _) _) _ _ _)); first | (k_unfold; (try dsimp only)) | (k_end; wrow_close) | walk1 | (dsimp only; walk1) | (leave1; walk_say "STEP leave1"; try dsimp only) | fail "no step"))
  k_with "until kswend" => (repeat' ((fail_if_success (with_reducible show KswEnd _ _ _ _ _ _ _ _ _ _ _ _)); first | (k_unfold; (try dsimp only)) | (k_end; wrow_close) | walk1 | (dsimp only; walk1) | (leave1; walk_say "STEP leave1"; try dsimp only) | fail "no step"))
  k_with "ite" => ((k_closed; first | with_reducible refine ite_pos (by decide) ?_ | with_reducible refine ite_neg (by decide) ?_))
  k_with "subscriptTail Call" => ((k_here; k_dflt (refine kba_turn (value' := PySem.Expr.Name (PySem.Str.ofString "_") ⟨0, 0, 0, 0⟩) (fun _ => rfl) ?_)))
  k_with "subscriptTail Subscript" => ((k_here; (first | (with_reducible show wpAny _ _ (subscriptTail _ _ (Value.ref _) _) _ _ _) | (with_reducible show wpAny _ _ (subscriptTail _ _ (Value.str _ _) (Value.ref _)) _ _ _)); k_dflt (refine kba_turn (value' := PySem.Expr.Name (PySem.Str.ofString "_") ⟨0, 0, 0, 0⟩) (fun _ => rfl) ?_)))
  k_with "c dp" => (((try dsimp only); first | exact dp_of (by with_reducible assumption) (by exact Nat.le_of_ble_eq_true rfl) | exact dp_of1 (by with_reducible assumption) (by exact Nat.le_of_ble_eq_true rfl) | omega))
  k_with "c un" => (((try dsimp only); first | exact un_of (by with_reducible assumption) (by exact Nat.le_of_ble_eq_true rfl) | exact un_of1 (by with_reducible assumption) (by exact Nat.le_of_ble_eq_true rfl) | omega))
  k_with "c a" => (with_reducible assumption)
  k_with "c lt" => (first | with_reducible assumption | exact a0 (by k_extra "c a") | exact a1 (by k_extra "c a") | exact a2 (by k_extra "c a") | exact a3 (by k_extra "c a") | exact a4 (by k_extra "c a") | exact a5 (by k_extra "c a") | exact a6 (by k_extra "c a") | exact a7 (by k_extra "c a") | exact a8 (by k_extra "c a") | exact a9 (by k_extra "c a") | exact a10 (by k_extra "c a") | exact a11 (by k_extra "c a") | exact a12 (by k_extra "c a") | exact a13 (by k_extra "c a"))
  k_with "c p" => (first | with_reducible assumption | k_ne | exact Nat.le_of_ble_eq_true rfl | decide | omega | assumption | exact rfl)
  k_with "c ro" => (first | exact fun _ _ _ => trivial | (intro g' st' hr'; have hro9 := st' _ _ (by with_reducible assumption); exact ⟨_, _, _, _, _, hro9⟩))
  k_with "c fin2" => (((try case p1 => k_extra "c p"); (try case p2 => k_extra "c p"); (try case p3 => k_extra "c p"); (try case p4 => k_extra "c p"); (try case p5 => k_extra "c p"); (case h3 => k_extra "c ro"); k_whole))
  k_with "c fin" => ((k_extra "c use"; k_extra "c fin2"))
  k_with "c enter" => ((refine spec_enter (by assumption) (by assumption) (by assumption) (by assumption) (by assumption) (by assumption) (by k_is) (by k_is) (by first | exact room_of (by with_reducible assumption) | (simp only [recursionLimit]; omega)) (by first | exact BindsTo.of_eq rfl | exact binds_K (Frag.In.keeps (by assumption) (by assumption)) rfl (by k_is) rfl rfl rfl) (by exact locs rfl) ?_ (by exact rfl) (by exact rfl) (by exact rfl) (by decide); intro _ _ _ _; (try dsimp only); (try k_fold)))
  k_with "c part" => (first | exact Part.nil | (apply Part.out; (· k_mem); (· k_extra "c part")) | (apply Part.stay; (· k_all); (· k_extra "c part")) | (refine part_tail ?_; k_extra "c tail"))
  k_with "c tail" => (first | exact List.forall_mem_nil _ | (refine List.forall_mem_cons.mpr ⟨?_, ?_⟩; (· k_extra "c apart"); (· k_extra "c tail")))
  k_with "c apart" => (first | exact OwnOff.ne (by assumption) (by k_memK) | (refine allLt_apart ?_; k_extra "c conj"))
  k_with "c conj" => (first | assumption | exact And.right (by k_extra "c conj"))
  k_with "c adr" => (first | exact List.forall_mem_nil _ | (refine List.forall_mem_cons.mpr ⟨?_, ?_⟩; (· k_memK); (· k_extra "c adr")))
  k_with "c pre" => (first | exact List.forall_mem_nil _ | (refine List.forall_mem_cons.mpr ⟨?_, ?_⟩; (· k_mem); (· k_extra "c pre")))
  k_with "call builtin:len" => ((k_here; (with_reducible show wpAny _ _ (call (Value.builtin "len") [Value.ref _]) _ _ _); (with_unfolding_all refine len_mine (by is_list) (by (first | omega | (simp only [List.length_cons, List.length_nil, List.length_append]; omega))) ?_)))
  k_with "subscriptTail" => ((k_here; (with_reducible show wpAny _ _ (subscriptTail _ _ (Value.ref _) (Value.int _ _)) _ _ _); (with_unfolding_all refine item_open (by is_list) (by omega) (by omega) (by omega) ?_ (by with_unfolding_all rfl)); intro _ _ _))
  k_with "call type:range" => ((k_here; (with_reducible show wpAny _ _ (call _ [_]) _ _ _); (with_unfolding_all refine range1_rows (by k_asm) (by k_asm) ?_); intro _ _ _ _ _ _ _ _ _; (try k_sweep)))
  k_with "call builtin:list.append" => ((k_here; (with_reducible show wpAny _ _ (call (Value.builtin _) [Value.ref _, _]) _ _ _); k_dflt (refine append_K (by k_asm) (by k_asm) (by k_upd) ?_ (by first | exact small_size (by assumption) | size_fits)); intro _ _ _; (try k_sweep)))
  k_with "binaryOp Add str str" => ((k_here; (refine add_mine ?_ (by (first | omega | (simp only [Str.length_append]; omega))) (by (first | omega | (simp only [Str.length_append]; omega)))); intro _ _))
  k_with "call type:list" => ((k_here; (with_reducible show wpAny _ _ (call (Value.type "list") [Value.ref _]) _ _ _); k_dflt (refine list_mine (by k_asm) (by k_asm) (by k_mem) (by omega) ?_); intro _ _ _ _ _ l9; (try k_lt l9); (try (revert l9; intro _)); (try k_sweep)))
  k_with "callWith ref" => ((k_here; k_dflt (first | refine callWith_K (by with_reducible assumption) (by k_is) ?_ | refine callWith_K0 (by k_in) (by k_is) ?_)))
  k_with "subscriptTail" => (k_here; (with_reducible show wpAny _ _ (subscriptTail _ _ (Value.str _ _) (Value.int _ _)) _ _ _); (refine item_known (by with_reducible assumption) (by omega) (by omega) (by assumption) ?_ (by with_unfolding_all rfl) (by intro _; with_unfolding_all rfl)); (try dsimp only))
  k_with "subscriptTail Name Name str int" => k_extra "subscriptTail"
  k_with "subscriptTail Name BinOp str int" => k_extra "subscriptTail"
  k_with "compareOp In str str" => (k_here; first | refine in_b (by with_reducible assumption) ?_ | refine in_b (b := true) (by decide +kernel) ?_ | refine in_b (b := false) (by decide +kernel) ?_)
  k_with "compareOp Eq str str" => (k_here; first | refine eq_b (by with_reducible assumption) ?_ | refine eq_b (b := true) (by decide +kernel) ?_ | refine eq_b (b := false) (by decide +kernel) ?_)
  k_with "compareOp NotEq str str" => (k_here; first | refine ne_b (by with_reducible assumption) ?_ | refine ne_b (b := true) (by decide +kernel) ?_ | refine ne_b (b := false) (by decide +kernel) ?_)
  k_with "subscriptTail Name Slice str ref" => (k_here; (refine slice_known (s := ⟨_, _, _, _, _⟩) (by k_asm) (by k_asm) (by with_reducible assumption) (by assumption) ?_ (by with_unfolding_all rfl) (by intro _; with_unfolding_all rfl)); intro _ _ _ _ _; (try dsimp only); (try k_sweep))
  k_with "compareOp Eq int int" => (k_here; refine eqi_b (by with_reducible assumption) ?_)
  k_with "call ref" => (k_here; (with_reducible show wpAny _ _ (call (Value.ref 76) _) _ _ _); (try k_fold); k_dflt (refine use_by (by k_asm) (by k_asm) (by k_asm) (by k_asm) (by k_asm) (by exact rfl) (by exact rfl) (by k_extra "c pre") (by k_extra "c part") (by k_extra "c dp") (by k_extra "c un") (run_spec (by first | with_reducible exact rfl | exact (Int.natCast_add _ 1).symm | exact rfl) (by k_extra "c p") (by k_extra "c p") (by first | assumption | decide +kernel | omega)) (by k_extra "c ro") ?_); walk_at "c in"; rename_i P'; obtain ⟨_, hv', htl'⟩ := P'; subst hv' htl'; (walk_at "c aft"))
  k_with "call ref" => (k_here; (with_reducible show wpAny _ _ (call (Value.ref 111) _) _ _ _); (try k_fold); k_dflt (refine use_by (by k_asm) (by k_asm) (by k_asm) (by k_asm) (by k_asm) (by exact rfl) (by exact rfl) (by k_extra "c pre") (by k_extra "c part") (by k_extra "c dp") (by k_extra "c un") (int_spec (by k_extra "c p") (by k_extra "c p") (by k_extra "c p")) (by k_extra "c ro") ?_); walk_at "c in"; (walk_at "c aft"))
  k_with "call ref" => (k_here; (with_reducible show wpAny _ _ (call (Value.ref 118) _) _ _ _); (try k_fold); k_dflt (refine use_by (by k_asm) (by k_asm) (by k_asm) (by k_asm) (by k_asm) (by exact rfl) (by exact rfl) (by k_extra "c pre") (by k_extra "c part") (by k_extra "c dp") (by k_extra "c un") (sign_spec (by k_extra "c p") (by k_extra "c p") (by k_extra "c p") (by k_extra "c p")) (by k_extra "c ro") ?_); walk_at "c in"; (walk_at "c aft"))
  exact rfl
abbrev NB : Str := Str.ofString "abcdefghijklmnopqrstuvwxyzABCDEFGHIJKLMNOPQRSTUVWXYZ_"
abbrev FIG : Str := Str.ofString "0123456789"
set_option maxHeartbeats 8000000 in
theorem rword_name {prog : Program} {w : World} {x c0 c1 : Str} {i : Nat} {tx ti : Tok} {t : String} (hi : i < x.length) (hx : x.length ≤ 1000)
    (h0 : Txt.item x (i : Int) = c0) (h1 : (!(Builtin.Str.occurrences NB c0 0 NB.length 1).isEmpty) = true) (h2 : runEnd x NSS i = i + (Str.ofString t).length)
    (h3 : Txt.slice x (some ((runEnd x NSS i : Nat) : Int)) (some (((runEnd x NSS i : Nat) : Int) + 1)) = c1) (h4 : (c1 == Str.ofString "'") = false)
    (h5 : Txt.slice x (some (i : Int)) (some ((runEnd x NSS i : Nat) : Int)) = Str.ofString t) :
    CSpec prog w 4 40 125 [.str x tx, .int i ti] [] (fun g => True) (RW "name" t i) := by
  w_top off
  unfold CSpec
  intro dp un gd outer A₀ base g s p loose mean mg mb R B st sz X T N0 hro hd hu hret
  have hle := runEnd_le (x := x) (S := NSS) (Nat.le_of_lt hi)
  walk_at "c enter"
  k_steps
  rename News _ _ _ _ => N9
  rw [h2] at N9
  refine' spec_endS hret ?k1 N9 ?k3 ⟨_, _, _, _, _, _, _, rfl, .inr ⟨?k4, rfl⟩, ?k5, rfl⟩
  case k1 => assumption
  case k3 => walk_at "c pre"
  case k4 => decide +kernel
  case k5 => k_ne
set_option maxHeartbeats 8000000 in
theorem rword_int {prog : Program} {w : World} {x c0 : Str} {i : Nat} {tx ti : Tok} {b : Nat} {q : List Nat} (hi : i < x.length) (hx : x.length ≤ 1000)
    (h0 : Txt.item x (i : Int) = c0) (h1 : (!(Builtin.Str.occurrences NB c0 0 NB.length 1).isEmpty) = false) (h2 : (!(Builtin.Str.occurrences FIG c0 0 FIG.length 1).isEmpty) = true)
    (hr : x.cps.toList.drop i = 55 :: b :: q) (hb : b = 32 ∨ b = 10) :
    CSpec prog w 4 40 125 [.str x tx, .int i ti] [] (fun g => True) (RW "int" "7" i) := by
  w_top off
  unfold CSpec
  intro dp un gd outer A₀ base g s p loose mean mg mb R B st sz X T N0 hro hd hu hret
  walk_at "c enter"
  k_steps
  refine' spec_end hret ?k1 ?k2 ?k3
  case k1 => assumption
  case k2 => assumption
  case k3 => assumption
set_option maxHeartbeats 8000000 in
theorem rword_sign {prog : Program} {w : World} {x c0 : Str} {i : Nat} {tx ti : Tok} {t : String} {r : List Nat} (hi : i < x.length) (hx : x.length ≤ 1000)
    (h0 : Txt.item x (i : Int) = c0) (h1 : (!(Builtin.Str.occurrences NB c0 0 NB.length 1).isEmpty) = false) (h2 : (!(Builtin.Str.occurrences FIG c0 0 FIG.length 1).isEmpty) = false) (h3 : (c0 == Str.ofString "'") = false)
    (ht : ("sign", t) ∈ toksB) (hr : TokAt x i t r) :
    CSpec prog w 4 40 125 [.str x tx, .int i ti] [] (fun g => True) (RW "sign" t i) := by
  w_top off
  unfold CSpec
  intro dp un gd outer A₀ base g s p loose mean mg mb R B st sz X T N0 hro hd hu hret
  walk_at "c enter"
  k_steps
  refine' spec_end hret ?k1 ?k2 ?k3
  case k1 => assumption
  case k2 => assumption
  case k3 => assumption
set_option maxHeartbeats 8000000 in
theorem rword_region {prog : Program} {w : World} {x c0 c1 : Str} {i : Nat} {tx ti : Tok} (hi : i + 1 < x.length) (hx : x.length ≤ 1000)
    (h0 : Txt.item x (i : Int) = c0) (h1 : (!(Builtin.Str.occurrences NB c0 0 NB.length 1).isEmpty) = false) (h2 : (!(Builtin.Str.occurrences FIG c0 0 FIG.length 1).isEmpty) = false) (h3 : (c0 == Str.ofString "'") = true)
    (h4 : Txt.item x ((i : Int) + 1) = c1) (h5 : (!(Builtin.Str.occurrences FIG c1 0 FIG.length 1).isEmpty) = false) (h6 : runEnd x NSS (i + 1) = i + (Str.ofString "'a").length) (h7 : (Str.ofString "'a").length = 2)
    (h9 : (((runEnd x NSS (i + 1) : Nat) : Int) == (i : Int) + 1) = false) (h8 : Txt.slice x (some (i : Int)) (some ((runEnd x NSS (i + 1) : Nat) : Int)) = Str.ofString "'a") :
    CSpec prog w 4 40 125 [.str x tx, .int i ti] [] (fun g => True) (RW "region" "'a" i) := by
  w_top off
  unfold CSpec
  intro dp un gd outer A₀ base g s p loose mean mg mb R B st sz X T N0 hro hd hu hret
  walk_at "c enter"
  k_steps
  rename News _ _ _ _ => N9
  rw [h6] at N9
  refine' spec_endS hret ?k1 N9 ?k3 ⟨_, _, _, _, _, _, _, rfl, .inr ⟨?k4, rfl⟩, ?k5, rfl⟩
  case k1 => assumption
  case k3 => walk_at "c pre"
  case k4 => decide +kernel
  case k5 => k_ne
end
-- RW2
section
theorem runEnd_tok {x S : Str} {i : Nat} {tc r : List Nat} (h : x.cps.toList.drop i = tc ++ r) (ha : ∀ c ∈ tc, S.cps.toList.contains c = true) (hr : r = [] ∨ ∃ c q, r = c :: q ∧ S.cps.toList.contains c = false) : runEnd x S i = i + tc.length := by
  unfold runEnd
  rw [h, List.takeWhile_append_of_pos ha]
  have : r.takeWhile (fun c => S.cps.toList.contains c) = [] := by
    rcases hr with rfl | ⟨c, q, rfl, hc⟩
    · rfl
    · rw [List.takeWhile_cons, hc]; rfl
  rw [this, List.append_nil]
theorem tail_stop {r : List Nat} (h : Tail r) : r = [] ∨ ∃ c q, r = c :: q ∧ NSS.cps.toList.contains c = false := by
  rcases h with rfl | ⟨q, rfl⟩ | ⟨q, rfl⟩
  · exact .inl rfl
  · exact .inr ⟨_, _, rfl, by decide +kernel⟩
  · exact .inr ⟨_, _, rfl, by decide +kernel⟩
theorem occ_one (S : Str) (c : Nat) {b : Bool} (h : S.cps.toList.contains c = b) : (!(Builtin.Str.occurrences S ⟨#[c]⟩ 0 S.length 1).isEmpty) = b := by
  rw [StrLaws.found_one, ← h]
  simp [List.contains_iff_mem]
def nameOk (t : String) : Bool := match (Str.ofString t).cps.toList with
  | [] => false
  | c :: cs => NB.cps.toList.contains c && (c :: cs).all fun d => NSS.cps.toList.contains d
def signOk (t : String) : Bool := match (Str.ofString t).cps.toList with
  | [] => false
  | c :: _ => !NB.cps.toList.contains c && !FIG.cps.toList.contains c && c != 39
theorem toksB_ok : ∀ p ∈ toksB, (p.1 = "name" ∧ nameOk p.2 = true) ∨ (p.1 = "sign" ∧ signOk p.2 = true) ∨ p = ("int", "7") ∨ p = ("region", "'a") := by
  have : ∀ p ∈ toksB, ((p.1 == "name" && nameOk p.2) || (p.1 == "sign" && signOk p.2) || p == ("int", "7") || p == ("region", "'a")) = true := by decide +kernel
  intro p hp
  have h := this p hp
  simp only [Bool.or_eq_true, Bool.and_eq_true, beq_iff_eq] at h
  rcases h with ((h | h) | h) | h
  · exact .inl h
  · exact .inr (.inl h)
  · exact .inr (.inr (.inl h))
  · exact .inr (.inr (.inr h))
theorem slice_one {x : Str} {e : Nat} {r : List Nat} (he : e ≤ x.length) (h : x.cps.toList.drop e = r) (ht : Tail r) : ∃ c, Txt.slice x (some ((e : Nat) : Int)) (some (((e : Nat) : Int) + 1)) = c ∧ (c == Str.ofString "'") = false := by
  have h1 : (((e : Int) + 1 - (e : Int)).toNat) = 1 := by omega
  rw [sliceL he (by omega), h, h1]
  refine ⟨_, rfl, ?_⟩
  rcases ht with rfl | ⟨q, rfl⟩ | ⟨q, rfl⟩
  · exact (show (_ : Bool) = (((⟨#[]⟩ : Str) == Str.ofString "'")) from rfl).trans (by decide +kernel)
  · exact (show (_ : Bool) = (((⟨#[32]⟩ : Str) == Str.ofString "'")) from rfl).trans (by decide +kernel)
  · exact (show (_ : Bool) = (((⟨#[10]⟩ : Str) == Str.ofString "'")) from rfl).trans (by decide +kernel)
theorem tok_drop {x : Str} {i : Nat} {tc r : List Nat} (h : x.cps.toList.drop i = tc ++ r) : x.cps.toList.drop (i + tc.length) = r := by
  rw [← List.drop_drop, h, List.drop_left]
theorem tok_slice {x : Str} {i : Nat} {t : String} {r : List Nat} (hi : i ≤ x.length) (h : x.cps.toList.drop i = (Str.ofString t).cps.toList ++ r) : Txt.slice x (some (i : Int)) (some ((i + (Str.ofString t).length : Nat) : Int)) = Str.ofString t := by
  rw [sliceL hi (by omega), h]
  have e : ((((i + (Str.ofString t).length : Nat) : Int) - (i : Int)).toNat) = (Str.ofString t).cps.toList.length := by
    simp [Str.length]; omega
  rw [e, List.take_left]
theorem len_toList (s : Str) : s.cps.toList.length = s.length := by simp [Str.length]
set_option maxHeartbeats 4000000 in
theorem rword_spec {prog : Program} {w : World} {x : Str} {i : Nat} {tx ti : Tok} {k t : String} {r : List Nat} (hkt : (k, t) ∈ toksB) (hr : TokAt x i t r) (h7 : k = "int" → r ≠ []) (hi : i < x.length) (hx : x.length ≤ 1000) :
    CSpec prog w 4 40 125 [.str x tx, .int i ti] [] (fun g => True) (RW k t i) := by
  have hil := Nat.le_of_lt hi
  rcases toksB_ok _ hkt with ⟨rfl, ho⟩ | ⟨rfl, ho⟩ | he | he
  · have ho' : ∃ c cs, (Str.ofString t).cps.toList = c :: cs ∧ NB.cps.toList.contains c = true ∧ ∀ d ∈ c :: cs, NSS.cps.toList.contains d = true := by
      unfold nameOk at ho
      split at ho
      · cases ho
      · rename_i c cs hc
        rw [Bool.and_eq_true] at ho
        exact ⟨c, cs, hc, ho.1, List.all_eq_true.mp ho.2⟩
    obtain ⟨c, cs, hc, h1, h2⟩ := ho'
    have hd := hr.1
    have hrun : runEnd x NSS i = i + (Str.ofString t).length := by
      rw [runEnd_tok hd (by rw [hc]; exact h2) (tail_stop hr.2), len_toList]
    have hle := runEnd_le (x := x) (S := NSS) hil
    have hd2 := tok_drop hd
    rw [len_toList, ← hrun] at hd2
    obtain ⟨c1, hc1, hc1q⟩ := slice_one hle.2 hd2 hr.2
    have hsl := tok_slice hil hd
    rw [← hrun] at hsl
    rw [hc] at hd
    exact rword_name hi hx (item_of hd) (occ_one _ _ h1) hrun hc1 hc1q hsl
  · have ho' : ∃ c cs, (Str.ofString t).cps.toList = c :: cs ∧ NB.cps.toList.contains c = false ∧ FIG.cps.toList.contains c = false ∧ c ≠ 39 := by
      unfold signOk at ho
      split at ho
      · cases ho
      · rename_i c cs hc
        simp only [Bool.and_eq_true, Bool.not_eq_true', bne_iff_ne] at ho
        exact ⟨c, cs, hc, ho.1.1, ho.1.2, ho.2⟩
    obtain ⟨c, cs, hc, h1, h2, h3⟩ := ho'
    have hd := hr.1
    rw [hc] at hd
    refine rword_sign hi hx (item_of hd) (occ_one _ _ h1) (occ_one _ _ h2) ?_ hkt hr
    refine beq_eq_false_iff_ne.mpr fun e => h3 ?_
    have e2 : (⟨#[c]⟩ : Str) = ⟨#[39]⟩ := e.trans (by decide +kernel)
    have := congrArg (fun s : Str => s.cps.toList) e2
    simpa using this
  · cases he
    have hd := hr.1
    rw [show (Str.ofString "7").cps.toList = [55] from by decide +kernel] at hd
    rcases hr.2 with rfl | ⟨q, rfl⟩ | ⟨q, rfl⟩
    · exact absurd rfl (h7 rfl)
    · exact rword_int hi hx (item_of hd) (occ_one _ _ (by decide +kernel)) (occ_one _ _ (by decide +kernel)) hd (.inl rfl)
    · exact rword_int hi hx (item_of hd) (occ_one _ _ (by decide +kernel)) (occ_one _ _ (by decide +kernel)) hd (.inr rfl)
  · cases he
    have hd := hr.1
    have hl : (Str.ofString "'a").length = 2 := by decide +kernel
    have hsl := tok_slice hil hd
    rw [show (Str.ofString "'a").cps.toList = [39, 97] from by decide +kernel] at hd
    have hd1 : x.cps.toList.drop (i + 1) = [97] ++ r := drop_next hd
    have hrun : runEnd x NSS (i + 1) = i + (Str.ofString "'a").length := by
      rw [runEnd_tok hd1 (by intro d h; rcases List.mem_cons.mp h with rfl | h; decide +kernel; cases h) (tail_stop hr.2), hl]
      rfl
    have hlen := congrArg List.length hd
    rw [List.length_drop, List.length_append, len_toList] at hlen
    simp only [List.length_cons, List.length_nil] at hlen
    rw [← hrun] at hsl
    have e1 := item_of (i := i + 1) hd1
    exact rword_region (by omega) hx (item_of hd) (occ_one _ _ (by decide +kernel)) (occ_one _ _ (by decide +kernel)) (by decide +kernel) e1 (occ_one _ _ (by decide +kernel)) hrun hl
      (by rw [hrun, hl]; exact beq_eq_false_iff_ne.mpr (by omega)) hsl
end
-- Rows1
section
theorem rows_Rows1 : hd.heap_39 = hd.heap_39 := by
  k_with_none
  k_with "subscriptTail Name Constant ref int" => ((k_here; (with_reducible show wpAny _ _ (subscriptTail _ _ (Value.ref _) (Value.int _ _)) _ _ _); (with_unfolding_all refine item_litK (by is_list) (by decide) (by decide) (by rfl) ?_ (by with_unfolding_all rfl))))
  k_with "binaryOp Mult int int" => (refine mul_int ?_ (IntMulOk.of_left (intBits_fmod (by decide) (by decide))))
  k_with "k_room" => (((try simp only [depth_mark, depth_under_make, depth_under_kw, depth_in1, depth_deeper, depth_caller]); (simp only [recursionLimit]; omega)))
  k_with "k_units" => (((try simp only [units_in1, units_deeper, Around.mark_units, units_caller]); (try dsimp only); first | exact line_of (by with_reducible assumption) (by exact Nat.le_of_ble_eq_true rfl) | (have hcL9 := cLine_is; omega)))
  k_with "k_in" => (exact Frag.In.keeps (by with_reducible assumption) (Fr.keep (by with_reducible assumption)))
  k_with "k_ne" => ((refine neN ?_; (try dsimp only); first | exact Nat.ne_of_lt (by k_extra "c lt") | exact Nat.ne_of_gt (by k_extra "c lt") | exact ne_l1 (by k_extra "c lt") | exact ne_l2 (by k_extra "c lt") | exact ne_r1 (by k_extra "c lt") | exact ne_r2 (by k_extra "c lt") | omega))
  k_with "c use" => (((case k1 => k_asm); (case k2 => k_asm); (case k3 => k_asm); (case k4 => k_asm); (case k5 => k_asm); (case k6 => exact rfl); (case k7 => exact rfl); (case h1 => k_extra "c pre"); (case h2 => k_extra "c part"); (case h4 => k_extra "c dp"); (case h5 => k_extra "c un")))
  k_with "until iter" => (repeat' ((fail_if_success (with_reducible show wpAny _ _ (pyIter _) _ _ _)); first | (k_unfold; (try dsimp only)) | (k_end; wrow_close) | walk1 | (dsimp only; walk1) | (leave1; walk_say "STEP leave1"; try dsimp only) | fail "no step"))
  k_with "until while" => (repeat' ((fail_if_success (with_reducible show wpAny _ _ (exec (Stmt.While _ _ _ _) _) _ _ _)); first | (k_unfold; (try dsimp only)) | (k_end; wrow_close) | walk1 | (dsimp only; walk1) | (leave1; walk_say "STEP leave1"; try dsimp only) | fail "no step"))
  k_with "until kswend" => (repeat' ((fail_if_success (with_reducible show KswEnd _ _ _ _ _ _ _ _ _ _ _ _)); first | (k_unfold; (try dsimp only)) | (k_end; wrow_close) | walk1 | (dsimp only; walk1) | (leave1; walk_say "STEP leave1"; try dsimp only) | fail "no step"))
  k_with "ite" => ((k_closed; first | with_reducible refine ite_pos (by decide) ?_ | with_reducible refine ite_neg (by decide) ?_))
  k_with "subscriptTail Call" => ((k_here; k_dflt (refine kba_turn (value' := PySem.Expr.Name (PySem.Str.ofString "_") ⟨0, 0, 0, 0⟩) (fun _ => rfl) ?_)))
  k_with "subscriptTail Subscript" => ((k_here; (first | (with_reducible show wpAny _ _ (subscriptTail _ _ (Value.ref _) _) _ _ _) | (with_reducible show wpAny _ _ (subscriptTail _ _ (Value.str _ _) (Value.ref _)) _ _ _)); k_dflt (refine kba_turn (value' := PySem.Expr.Name (PySem.Str.ofString "_") ⟨0, 0, 0, 0⟩) (fun _ => rfl) ?_)))
  k_with "c dp" => (((try dsimp only); first | exact dp_of (by with_reducible assumption) (by exact Nat.le_of_ble_eq_true rfl) | exact dp_of1 (by with_reducible assumption) (by exact Nat.le_of_ble_eq_true rfl) | omega))
  k_with "c un" => (((try dsimp only); first | exact un_of (by with_reducible assumption) (by exact Nat.le_of_ble_eq_true rfl) | exact un_of1 (by with_reducible assumption) (by exact Nat.le_of_ble_eq_true rfl) | omega))
  k_with "c a" => (with_reducible assumption)
  k_with "c lt" => (first | with_reducible assumption | exact a0 (by k_extra "c a") | exact a1 (by k_extra "c a") | exact a2 (by k_extra "c a") | exact a3 (by k_extra "c a") | exact a4 (by k_extra "c a") | exact a5 (by k_extra "c a") | exact a6 (by k_extra "c a") | exact a7 (by k_extra "c a") | exact a8 (by k_extra "c a") | exact a9 (by k_extra "c a") | exact a10 (by k_extra "c a") | exact a11 (by k_extra "c a") | exact a12 (by k_extra "c a") | exact a13 (by k_extra "c a"))
  k_with "c p" => (first | with_reducible assumption | k_ne | exact Nat.le_of_ble_eq_true rfl | decide | omega | assumption | exact rfl)
  k_with "c ro" => (first | exact fun _ _ _ => trivial | (intro g' st' hr'; have hro9 := st' _ _ (by with_reducible assumption); exact ⟨_, _, _, _, _, hro9⟩))
  k_with "c fin2" => (((try case p1 => k_extra "c p"); (try case p2 => k_extra "c p"); (try case p3 => k_extra "c p"); (try case p4 => k_extra "c p"); (try case p5 => k_extra "c p"); (case h3 => k_extra "c ro"); k_whole))
  k_with "c fin" => ((k_extra "c use"; k_extra "c fin2"))
  k_with "c enter" => ((refine spec_enter (by assumption) (by assumption) (by assumption) (by assumption) (by assumption) (by assumption) (by k_is) (by k_is) (by first | exact room_of (by with_reducible assumption) | (simp only [recursionLimit]; omega)) (by first | exact BindsTo.of_eq rfl | exact binds_K (Frag.In.keeps (by assumption) (by assumption)) rfl (by k_is) rfl rfl rfl) (by exact locs rfl) ?_ (by exact rfl) (by exact rfl) (by exact rfl) (by decide); intro _ _ _ _; (try dsimp only); (try k_fold)))
  k_with "c part" => (first | exact Part.nil | (apply Part.out; (· k_mem); (· k_extra "c part")) | (apply Part.stay; (· k_all); (· k_extra "c part")) | (refine part_tail ?_; k_extra "c tail"))
  k_with "c tail" => (first | exact List.forall_mem_nil _ | (refine List.forall_mem_cons.mpr ⟨?_, ?_⟩; (· k_extra "c apart"); (· k_extra "c tail")))
  k_with "c apart" => (first | exact OwnOff.ne (by assumption) (by k_memK) | (refine allLt_apart ?_; k_extra "c conj"))
  k_with "c conj" => (first | assumption | exact And.right (by k_extra "c conj"))
  k_with "c adr" => (first | exact List.forall_mem_nil _ | (refine List.forall_mem_cons.mpr ⟨?_, ?_⟩; (· k_memK); (· k_extra "c adr")))
  k_with "c pre" => (first | exact List.forall_mem_nil _ | (refine List.forall_mem_cons.mpr ⟨?_, ?_⟩; (· k_mem); (· k_extra "c pre")))
  k_with "call builtin:len" => ((k_here; (with_reducible show wpAny _ _ (call (Value.builtin "len") [Value.ref _]) _ _ _); (with_unfolding_all refine len_mine (by is_list) (by (first | omega | (simp only [List.length_cons, List.length_nil, List.length_append]; omega))) ?_)))
  k_with "subscriptTail" => ((k_here; (with_reducible show wpAny _ _ (subscriptTail _ _ (Value.ref _) (Value.int _ _)) _ _ _); (with_unfolding_all refine item_open (by is_list) (by omega) (by omega) (by omega) ?_ (by with_unfolding_all rfl)); intro _ _ _))
  k_with "call type:range" => ((k_here; (with_reducible show wpAny _ _ (call _ [_]) _ _ _); (with_unfolding_all refine range1_rows (by k_asm) (by k_asm) ?_); intro _ _ _ _ _ _ _ _ _; (try k_sweep)))
  k_with "call builtin:list.append" => ((k_here; (with_reducible show wpAny _ _ (call (Value.builtin _) [Value.ref _, _]) _ _ _); k_dflt (refine append_K (by k_asm) (by k_asm) (by k_upd) ?_ (by first | exact small_size (by assumption) | size_fits)); intro _ _ _; (try k_sweep)))
  k_with "binaryOp Add str str" => ((k_here; (refine add_mine ?_ (by (first | omega | (simp only [Str.length_append]; omega))) (by (first | omega | (simp only [Str.length_append]; omega)))); intro _ _))
  k_with "call type:list" => ((k_here; (with_reducible show wpAny _ _ (call (Value.type "list") [Value.ref _]) _ _ _); k_dflt (refine list_mine (by k_asm) (by k_asm) (by k_mem) (by omega) ?_); intro _ _ _ _ _ l9; (try k_lt l9); (try (revert l9; intro _)); (try k_sweep)))
  k_with "callWith ref" => ((k_here; k_dflt (first | refine callWith_K (by with_reducible assumption) (by k_is) ?_ | refine callWith_K0 (by k_in) (by k_is) ?_)))
  k_with "call ref" => (k_here; (with_reducible show wpAny _ _ (call (Value.ref 90) _) _ _ _); (try k_fold); k_dflt (refine use_by (by k_asm) (by k_asm) (by k_asm) (by k_asm) (by k_asm) (by exact rfl) (by exact rfl) (by k_extra "c pre") (by k_extra "c part") (by k_extra "c dp") (by k_extra "c un") (blank_specI (by first | with_reducible exact rfl | exact (Int.natCast_zero).symm | exact rfl) (by k_extra "c p") (by k_extra "c p") (by k_extra "c p")) (by k_extra "c ro") ?_); walk_at "c in"; rename_i P'; obtain ⟨_, hv', htl'⟩ := P'; subst hv' htl'; (walk_at "c aft"))
  k_with "call ref" => (k_here; (with_reducible show wpAny _ _ (call (Value.ref 125) _) _ _ _); (try k_fold); k_dflt (refine use_by (by k_asm) (by k_asm) (by k_asm) (by k_asm) (by k_asm) (by exact rfl) (by exact rfl) (by k_extra "c pre") (by k_extra "c part") (by k_extra "c dp") (by k_extra "c un") (rword_spec (by k_extra "c p") (by k_extra "c p") (by k_extra "c p") (by k_extra "c p") (by k_extra "c p")) (by k_extra "c ro") ?_); walk_at "c in"; rename_i P'; unfold RW at P'; obtain ⟨_, _, _, _, _, _, _, hv', _, _, htl'⟩ := P'; subst hv' htl'; walk_at "c ap"; (try k_sweep))
  exact rfl
local macro_rules | `(tactic| walk_at "c ap") => `(tactic| ((with_reducible rename News _ _ _ _ => N9); (with_reducible rename Apart _ _ => ap9); (simp only [List.cons_append, List.nil_append] at N9); (simp only [Apart, List.forall_mem_cons, List.not_mem_nil, false_implies, implies_true, and_true, true_and] at ap9)))
structure WSt where
  i : Nat
  rest : List Pc
  done : List Wd
  vs : List Value
  c : Nat
  tups : Led
  ti : Tok
theorem dat_words {tups : Led} {vs : List Value} {ws : List Wd} (h : DatAll tups vs (ws.map Wd.dat)) : vs.length = ws.length := by rw [h.length, List.length_map]
set_option maxHeartbeats 8000000 in
theorem rows_spec {prog : Program} {w : World} {x : Str} {tx : Tok} {ps : List Pc} (hps : RdAt ps) (hx0 : x.cps.toList = flat ps) (hx : x.length ≤ 1000) :
    CSpec prog w 6 50 132 [.str x tx] [] (fun g => True)
      (fun v tl => ∃ (d : Addr) (vs : List Value) (c : Nat) (tups : Led), v = .ref d ∧ tl = (d, listOf vs.toArray c) :: tups ∧
        DatAll tups vs ((wdsAt 0 ps ++ [endW x.length]).map Wd.dat) ∧ TupLed tups ∧ vs.length ≤ x.length + 1) := by
  have h47 : ∀ c ∈ x.cps.toList, c ≠ 47 := by rw [hx0]; exact rd_47 hps
  have hst : runEnd x BLK 0 = 0 := by
    have h0 : x.cps.toList.drop 0 = [] ++ flat ps := by rw [List.drop_zero, hx0]; rfl
    exact runEnd_tok h0 (fun _ h => nomatch h) (rd_start hps)
  have hwl : (wdsAt 0 ps).length ≤ x.length := by
    have : ∀ (ps : List Pc) (i : Nat), RdAt ps → (wdsAt i ps).length ≤ (flat ps).length := by
      intro ps
      induction ps with
      | nil => intro i _; exact Nat.le_refl _
      | cons p ps ih =>
        intro i h
        have h1 := ih (i + (Str.ofString p.t).length + (Str.ofString p.sep).length) h.2.2
        have h2 := rd_pos h
        show (wdsAt _ ps).length + 1 ≤ (sL p.t ++ (sL p.sep ++ flat ps)).length
        rw [List.length_append, List.length_append]; omega
    have h1 := this ps 0 hps
    rw [← hx0, len_toList] at h1; exact h1
  unfold CSpec
  intro dp un gd outer A₀ base g s p loose mean mg mb R B st sz X T N0 hro hd hu hret
  walk_at "c enter"
  walk_at "until while"
  rename_i L0 h4 tkA found h3 l1 h2 tkB h1 tk0 tr0 hh F9 N9
  rw [hst] at F9
  refine' ksw_while (σ := WSt) (fun c => (found, listOf c.vs.toArray c.c) :: c.tups) (fun c => [(Str.ofString "at", .int (c.i : Int) c.ti)]) (fun c => DatAll c.tups c.vs (c.done.map Wd.dat) ∧ TupLed c.tups) [Str.ofString "word"]
    (fun c => x.cps.toList.drop c.i = flat c.rest ∧ RdAt c.rest ∧ c.done ++ wdsAt c.i c.rest = wdsAt 0 ps ∧ c.i ≤ x.length) (fun c => c.rest.length) ⟨0, ps, [], [], 0, [], _⟩ F9 N9 ?k0 ?k1 ?k2 ?turn
  case k0 => exact ⟨.nil, TupLed.nil⟩
  case k1 => intro p hp; rcases List.mem_cons.mp hp with rfl | hp; exact rfl; cases hp
  case k2 => exact ⟨hx0, hps, rfl, Nat.zero_le _⟩
  case turn =>
    clear F9 N9
    rintro ⟨i, rest, done, vs, cc, tups, ti⟩ u h tk ⟨hD, hT⟩ ⟨h1, h2, h3, h4⟩ F' N'
    dsimp only [kstB] at F' N' hD hT h1 h2 h3 h4
    have hO : OwnOff tups [found] := own_of_tups N' hT (fun q hq => .tail _ hq) (by
      intro b hb
      rcases List.mem_cons.mp hb with rfl | hb
      · exact ⟨_, .head _, fun e => absurd (show ("list" : String) = "tuple" from congrArg (fun c => match c with | .type s => s | _ => "") e) (by decide)⟩
      · cases hb)
    have hvl : vs.length ≤ x.length := by
      have := congrArg List.length h3
      rw [List.length_append] at this
      rw [dat_words hD]; omega
    have hva : vs.toArray.size ≤ 1000 := by rw [List.size_toArray]; omega
    cases rest with
    | nil =>
      have hie : i = x.length := by
        have := congrArg List.length h1
        rw [List.length_drop, len_toList] at this
        have h5 : (flat []).length = 0 := rfl
        omega
      (try dsimp only); (try k_fold)
      repeat' ((fail_if_success (with_reducible show R _ _)); first | (k_unfold; (try dsimp only)) | (k_end; wrow_close) | walk1 | (dsimp only; walk1) | (leave1; walk_say "STEP leave1"; try dsimp only) | fail "no step")
      rename_i tk9 D h5 l1 h4 F9 N9
      simp only [push_toks] at N9
      refine' spec_end hret F9 (news_swap N9) ⟨found, vs ++ [.ref D], _, (D, _) :: tups, rfl, rfl, ?dat, ?tup, by rw [List.length_append]; exact Nat.succ_le_succ hvl⟩
      case dat =>
        have e : wdsAt 0 ps = done := by rw [← h3]; exact List.append_nil done
        rw [e, List.map_append]
        exact DatAll.append (DatAll.mono (fun q hq => List.mem_cons_of_mem _ hq) hD) (DatAll.one (datIn_word (.head _) (.inr ⟨rfl, rfl⟩)))
      case tup => exact TupLed.cons rfl hT
    | cons p rest =>
      have hpos := rd_pos h2
      have hr : TokAt x i p.t (sL p.sep ++ flat rest) := ⟨h1, rd_tail h2⟩
      have h7 := rd_int h2
      have hkt := h2.1
      have hlen := congrArg List.length h1
      have hfl : (flat (p :: rest)).length = (sL p.t).length + ((sL p.sep).length + (flat rest).length) := by
        show (sL p.t ++ (sL p.sep ++ flat rest)).length = _
        rw [List.length_append, List.length_append]
      rw [List.length_drop, len_toList, hfl] at hlen
      rw [sL_len] at hlen hpos
      have hle : i + (Str.ofString p.t).length ≤ x.length := by omega
      have hd2 := tok_drop hr.1
      rw [len_toList] at hd2
      have hrun : runEnd x BLK (i + (Str.ofString p.t).length) = i + (Str.ofString p.t).length + (Str.ofString p.sep).length := by
        rw [runEnd_tok hd2 (sep_blank h2) (rd_start h2.2.2), sL_len]
      have hd3 := tok_drop hd2
      rw [sL_len] at hd3
      (try dsimp only); (try k_fold)
      walk_at "until kswend"
      rename_i tkA1 hA1 tkA2 a9 b9 te t1 t2 t3 v4 hv9 hne9 hap9 hA3 hA4 hA5 tkA4 hA6 tkA5 hA7 tkA6 trA hA8 F9 N9
      simp only [push_toks] at N9
      rw [hrun] at F9
      refine' ksw_end ⟨i + (Str.ofString p.t).length + (Str.ofString p.sep).length, rest, done ++ [wdAt i p], vs ++ [.ref b9], cc + 1, (b9, _) :: tups, _⟩ F9 N9 mem_swap3 ⟨?d1, ?d2⟩ ?e2 ?e3 ⟨hd3, h2.2.2, ?p3, ?p4⟩ ?e5
      case d1 =>
        dsimp only
        rw [List.map_append]
        exact DatAll.append (DatAll.mono (fun q hq => List.mem_cons_of_mem _ hq) hD) (DatAll.one (datIn_word (.head _) hv9))
      case d2 => exact TupLed.cons rfl hT
      case e2 =>
        refine List.forall_mem_cons.mpr ⟨?_, List.forall_mem_nil _⟩
        rfl
      case e3 =>
        intro z g2 g3
        have g4 := g2 _ (.head _)
        dsimp only at g4
        have g5 : z ≠ Str.ofString "word" := fun e => by rw [e] at g3; revert g3; decide +kernel
        repeat (first | rw [if_neg g4] | rw [if_neg g5])
        rw [g3]
        rfl
      case p3 =>
        rw [List.append_assoc]
        exact h3
      case p4 =>
        have hs9 := sL_len p.sep
        dsimp only; omega
      case e5 => exact Nat.lt_succ_self _
end
-- Read
section
theorem rows_Read : hd.heap_39 = hd.heap_39 := by
  k_with_none
  k_with "subscriptTail Name Constant ref int" => ((k_here; (with_reducible show wpAny _ _ (subscriptTail _ _ (Value.ref _) (Value.int _ _)) _ _ _); (with_unfolding_all refine item_litK (by is_list) (by decide) (by decide) (by rfl) ?_ (by with_unfolding_all rfl))))
  k_with "binaryOp Mult int int" => (refine mul_int ?_ (IntMulOk.of_left (intBits_fmod (by decide) (by decide))))
  k_with "k_room" => (((try simp only [depth_mark, depth_under_make, depth_under_kw, depth_in1, depth_deeper, depth_caller]); (simp only [recursionLimit]; omega)))
  k_with "k_units" => (((try simp only [units_in1, units_deeper, Around.mark_units, units_caller]); (try dsimp only); first | exact line_of (by with_reducible assumption) (by exact Nat.le_of_ble_eq_true rfl) | (have hcL9 := cLine_is; omega)))
  k_with "k_in" => (exact Frag.In.keeps (by with_reducible assumption) (Fr.keep (by with_reducible assumption)))
  k_with "k_ne" => ((refine neN ?_; (try dsimp only); first | exact Nat.ne_of_lt (by k_extra "c lt") | exact Nat.ne_of_gt (by k_extra "c lt") | exact ne_l1 (by k_extra "c lt") | exact ne_l2 (by k_extra "c lt") | exact ne_r1 (by k_extra "c lt") | exact ne_r2 (by k_extra "c lt") | omega))
  k_with "c use" => (((case k1 => k_asm); (case k2 => k_asm); (case k3 => k_asm); (case k4 => k_asm); (case k5 => k_asm); (case k6 => exact rfl); (case k7 => exact rfl); (case h1 => k_extra "c pre"); (case h2 => k_extra "c part"); (case h4 => k_extra "c dp"); (case h5 => k_extra "c un")))
  k_with "until iter" => (repeat' ((fail_if_success (with_reducible show wpAny _ _ (pyIter _) _ _ _)); first | (k_unfold; (try dsimp only)) | (k_end; wrow_close) | walk1 | (dsimp only; walk1) | (leave1; walk_say "STEP leave1"; try dsimp only) | fail "no step"))
  k_with "until while" => (repeat' ((fail_if_success (with_reducible show wpAny _ _ (exec (Stmt.While _ _ _ _) _) _ _ _)); first | (k_unfold; (try dsimp only)) | (k_end; wrow_close) | walk1 | (dsimp only; walk1) | (leave1; walk_say "STEP leave1"; try dsimp only) | fail "no step"))
  k_with "until kswend" => (repeat' ((fail_if_success (with_reducible show KswEnd _ _ _ _ _ _ _ _ _ _ _ _)); first | (k_unfold; (try dsimp only)) | (k_end; wrow_close) | walk1 | (dsimp only; walk1) | (leave1; walk_say "STEP leave1"; try dsimp only) | fail "no step"))
  k_with "ite" => ((k_closed; first | with_reducible refine ite_pos (by decide) ?_ | with_reducible refine ite_neg (by decide) ?_))
  k_with "subscriptTail Call" => ((k_here; k_dflt (refine kba_turn (value' := PySem.Expr.Name (PySem.Str.ofString "_") ⟨0, 0, 0, 0⟩) (fun _ => rfl) ?_)))
  k_with "subscriptTail Subscript" => ((k_here; (first | (with_reducible show wpAny _ _ (subscriptTail _ _ (Value.ref _) _) _ _ _) | (with_reducible show wpAny _ _ (subscriptTail _ _ (Value.str _ _) (Value.ref _)) _ _ _)); k_dflt (refine kba_turn (value' := PySem.Expr.Name (PySem.Str.ofString "_") ⟨0, 0, 0, 0⟩) (fun _ => rfl) ?_)))
  k_with "c dp" => (((try dsimp only); first | exact dp_of (by with_reducible assumption) (by exact Nat.le_of_ble_eq_true rfl) | exact dp_of1 (by with_reducible assumption) (by exact Nat.le_of_ble_eq_true rfl) | omega))
  k_with "c un" => (((try dsimp only); first | exact un_of (by with_reducible assumption) (by exact Nat.le_of_ble_eq_true rfl) | exact un_of1 (by with_reducible assumption) (by exact Nat.le_of_ble_eq_true rfl) | omega))
  k_with "c a" => (with_reducible assumption)
  k_with "c lt" => (first | with_reducible assumption | exact a0 (by k_extra "c a") | exact a1 (by k_extra "c a") | exact a2 (by k_extra "c a") | exact a3 (by k_extra "c a") | exact a4 (by k_extra "c a") | exact a5 (by k_extra "c a") | exact a6 (by k_extra "c a") | exact a7 (by k_extra "c a") | exact a8 (by k_extra "c a") | exact a9 (by k_extra "c a") | exact a10 (by k_extra "c a") | exact a11 (by k_extra "c a") | exact a12 (by k_extra "c a") | exact a13 (by k_extra "c a"))
  k_with "c p" => (first | with_reducible assumption | k_ne | exact Nat.le_of_ble_eq_true rfl | decide | omega | assumption | exact rfl)
  k_with "c ro" => (first | exact fun _ _ _ => trivial | (intro g' st' hr'; have hro9 := st' _ _ (by with_reducible assumption); exact ⟨_, _, _, _, _, hro9⟩))
  k_with "c fin2" => (((try case p1 => k_extra "c p"); (try case p2 => k_extra "c p"); (try case p3 => k_extra "c p"); (try case p4 => k_extra "c p"); (try case p5 => k_extra "c p"); (case h3 => k_extra "c ro"); k_whole))
  k_with "c fin" => ((k_extra "c use"; k_extra "c fin2"))
  k_with "c enter" => ((refine spec_enter (by assumption) (by assumption) (by assumption) (by assumption) (by assumption) (by assumption) (by k_is) (by k_is) (by first | exact room_of (by with_reducible assumption) | (simp only [recursionLimit]; omega)) (by first | exact BindsTo.of_eq rfl | exact binds_K (Frag.In.keeps (by assumption) (by assumption)) rfl (by k_is) rfl rfl rfl) (by exact locs rfl) ?_ (by exact rfl) (by exact rfl) (by exact rfl) (by decide); intro _ _ _ _; (try dsimp only); (try k_fold)))
  k_with "c part" => (first | exact Part.nil | (apply Part.out; (· k_mem); (· k_extra "c part")) | (apply Part.stay; (· k_all); (· k_extra "c part")) | (refine part_tail ?_; k_extra "c tail"))
  k_with "c tail" => (first | exact List.forall_mem_nil _ | (refine List.forall_mem_cons.mpr ⟨?_, ?_⟩; (· k_extra "c apart"); (· k_extra "c tail")))
  k_with "c apart" => (first | exact OwnOff.ne (by assumption) (by k_memK) | (refine allLt_apart ?_; k_extra "c conj"))
  k_with "c conj" => (first | assumption | exact And.right (by k_extra "c conj"))
  k_with "c adr" => (first | exact List.forall_mem_nil _ | (refine List.forall_mem_cons.mpr ⟨?_, ?_⟩; (· k_memK); (· k_extra "c adr")))
  k_with "c pre" => (first | exact List.forall_mem_nil _ | (refine List.forall_mem_cons.mpr ⟨?_, ?_⟩; (· k_mem); (· k_extra "c pre")))
  k_with "call builtin:len" => ((k_here; (with_reducible show wpAny _ _ (call (Value.builtin "len") [Value.ref _]) _ _ _); (with_unfolding_all refine len_mine (by is_list) (by (first | omega | (simp only [List.length_cons, List.length_nil, List.length_append]; omega))) ?_)))
  k_with "subscriptTail" => ((k_here; (with_reducible show wpAny _ _ (subscriptTail _ _ (Value.ref _) (Value.int _ _)) _ _ _); (with_unfolding_all refine item_open (by is_list) (by omega) (by omega) (by omega) ?_ (by with_unfolding_all rfl)); intro _ _ _))
  k_with "call type:range" => ((k_here; (with_reducible show wpAny _ _ (call _ [_]) _ _ _); (with_unfolding_all refine range1_rows (by k_asm) (by k_asm) ?_); intro _ _ _ _ _ _ _ _ _; (try k_sweep)))
  k_with "call builtin:list.append" => ((k_here; (with_reducible show wpAny _ _ (call (Value.builtin _) [Value.ref _, _]) _ _ _); k_dflt (refine append_K (by k_asm) (by k_asm) (by k_upd) ?_ (by first | exact small_size (by assumption) | size_fits)); intro _ _ _; (try k_sweep)))
  k_with "binaryOp Add str str" => ((k_here; (refine add_mine ?_ (by (first | omega | (simp only [Str.length_append]; omega))) (by (first | omega | (simp only [Str.length_append]; omega)))); intro _ _))
  k_with "call type:list" => ((k_here; (with_reducible show wpAny _ _ (call (Value.type "list") [Value.ref _]) _ _ _); k_dflt (refine list_mine (by k_asm) (by k_asm) (by k_mem) (by omega) ?_); intro _ _ _ _ _ l9; (try k_lt l9); (try (revert l9; intro _)); (try k_sweep)))
  k_with "callWith ref" => ((k_here; k_dflt (first | refine callWith_K (by with_reducible assumption) (by k_is) ?_ | refine callWith_K0 (by k_in) (by k_is) ?_)))
  k_with "call ref" => (k_here; (with_reducible show wpAny _ _ (call (Value.ref 132) _) _ _ _); (try k_fold); k_dflt (refine use_by (by k_asm) (by k_asm) (by k_asm) (by k_asm) (by k_asm) (by exact rfl) (by exact rfl) (by k_extra "c pre") (by k_extra "c part") (by k_extra "c dp") (by k_extra "c un") (rows_spec (by k_extra "c p") (by k_extra "c p") (by k_extra "c p")) (by k_extra "c ro") ?_); walk_at "c in"; rename_i P'; obtain ⟨_, _, _, _, hv', htl', _, _, _⟩ := P'; subst hv' htl'; (walk_at "c aft"))
  exact rfl
/-- the fields of a Words -/
abbrev wordsD (w : World) (r : Addr) (a : Int) (t1 t2 t3 ta td : Tok) : Obj :=
  dictOf [{ hash := PyData.keyHash w.params (Str.ofString "rows"), key := .str (Str.ofString "rows") t1, val := .ref r },
    { hash := PyData.keyHash w.params (Str.ofString "at"), key := .str (Str.ofString "at") t2, val := .int a ta },
    { hash := PyData.keyHash w.params (Str.ofString "deep"), key := .str (Str.ofString "deep") t3, val := .int 0 td }] 3
set_option maxHeartbeats 2000000 in
theorem read_spec {prog : Program} {w : World} {x : Str} {tx : Tok} {ps : List Pc} (hps : RdAt ps) (hx0 : x.cps.toList = flat ps) (hx : x.length ≤ 1000) :
    CSpec prog w 8 80 139 [.str x tx] [] (fun g => True)
      (fun v tl => ∃ (xw dw r : Addr) (t1 t2 t3 ta td : Tok) (vs : List Value) (c : Nat) (tups : Led), v = .ref xw ∧
        tl = (xw, instObj 214 dw) :: (dw, wordsD w r 0 t1 t2 t3 ta td) :: (r, listOf vs.toArray c) :: tups ∧
        DatAll tups vs ((wdsAt 0 ps ++ [endW x.length]).map Wd.dat) ∧ TupLed tups) := by
  w_top off
  unfold CSpec
  intro dp un gd outer A₀ base g s p loose mean mg mb R B st sz X T N0 hro hd hu hret
  walk_at "c enter"
  repeat' ((fail_if_success (with_reducible show R _ _)); first | (k_unfold; (try dsimp only)) | (k_end; wrow_close) | walk1 | (dsimp only; walk1) | (leave1; walk_say "STEP leave1"; try dsimp only) | fail "no step")
  rename Fr _ _ _ _ => F9
  rename News _ _ _ _ => N9
  rename DatAll _ _ _ => hD
  rename TupLed _ => hT
  refine' spec_endS hret F9 N9 ?hs ⟨_, _, _, _, _, _, _, _, _, _, _, rfl, rfl, hD, hT⟩
  case hs =>
    refine List.forall_mem_cons.mpr ⟨by k_mem, List.forall_mem_cons.mpr ⟨by k_mem, List.forall_mem_cons.mpr ⟨by k_mem, fun q hq => ?_⟩⟩⟩
    repeat (first | exact hq | refine List.Mem.tail _ ?_)
end
-- Peek
section
theorem rows_Peek : hd.heap_39 = hd.heap_39 := by
  k_with_none
  k_with "subscriptTail Name Constant ref int" => ((k_here; (with_reducible show wpAny _ _ (subscriptTail _ _ (Value.ref _) (Value.int _ _)) _ _ _); (with_unfolding_all refine item_litK (by is_list) (by decide) (by decide) (by rfl) ?_ (by with_unfolding_all rfl))))
  k_with "binaryOp Mult int int" => (refine mul_int ?_ (IntMulOk.of_left (intBits_fmod (by decide) (by decide))))
  k_with "k_room" => (((try simp only [depth_mark, depth_under_make, depth_under_kw, depth_in1, depth_deeper, depth_caller]); (simp only [recursionLimit]; omega)))
  k_with "k_units" => (((try simp only [units_in1, units_deeper, Around.mark_units, units_caller]); (try dsimp only); first | exact line_of (by with_reducible assumption) (by exact Nat.le_of_ble_eq_true rfl) | (have hcL9 := cLine_is; omega)))
  k_with "k_in" => (exact Frag.In.keeps (by with_reducible assumption) (Fr.keep (by with_reducible assumption)))
  k_with "k_ne" => ((refine neN ?_; (try dsimp only); first | exact Nat.ne_of_lt (by k_extra "c lt") | exact Nat.ne_of_gt (by k_extra "c lt") | exact ne_l1 (by k_extra "c lt") | exact ne_l2 (by k_extra "c lt") | exact ne_r1 (by k_extra "c lt") | exact ne_r2 (by k_extra "c lt") | omega))
  k_with "c use" => (((case k1 => k_asm); (case k2 => k_asm); (case k3 => k_asm); (case k4 => k_asm); (case k5 => k_asm); (case k6 => exact rfl); (case k7 => exact rfl); (case h1 => k_extra "c pre"); (case h2 => k_extra "c part"); (case h4 => k_extra "c dp"); (case h5 => k_extra "c un")))
  k_with "until iter" => (repeat' ((fail_if_success (with_reducible show wpAny _ _ (pyIter _) _ _ _)); first | (k_unfold; (try dsimp only)) | (k_end; wrow_close) | walk1 | (dsimp only; walk1) | (leave1; walk_say "STEP leave1"; try dsimp only) | fail "no step"))
  k_with "until while" => (repeat' ((fail_if_success (with_reducible show wpAny _ _ (exec (Stmt.While _ _ _ _) _) _ _ _)); first | (k_unfold; (try dsimp only)) | (k_end; wrow_close) | walk1 | (dsimp only; walk1) | (leave1; walk_say "STEP leave1"; try dsimp only) | fail "no step"))
  k_with "until kswend" => (repeat' ((fail_if_success (with_reducible show KswEnd _ _ _ _ _ _ _ _ _ _ _ _)); first | (k_unfold; (try dsimp only)) | (k_end; wrow_close) | walk1 | (dsimp only; walk1) | (leave1; walk_say "STEP leave1"; try dsimp only) | fail "no step"))
  k_with "ite" => ((k_closed; first | with_reducible refine ite_pos (by decide) ?_ | with_reducible refine ite_neg (by decide) ?_))
  k_with "subscriptTail Call" => ((k_here; k_dflt (refine kba_turn (value' := PySem.Expr.Name (PySem.Str.ofString "_") ⟨0, 0, 0, 0⟩) (fun _ => rfl) ?_)))
  k_with "subscriptTail Subscript" => ((k_here; (first | (with_reducible show wpAny _ _ (subscriptTail _ _ (Value.ref _) _) _ _ _) | (with_reducible show wpAny _ _ (subscriptTail _ _ (Value.str _ _) (Value.ref _)) _ _ _)); k_dflt (refine kba_turn (value' := PySem.Expr.Name (PySem.Str.ofString "_") ⟨0, 0, 0, 0⟩) (fun _ => rfl) ?_)))
  k_with "c dp" => (((try dsimp only); first | exact dp_of (by with_reducible assumption) (by exact Nat.le_of_ble_eq_true rfl) | exact dp_of1 (by with_reducible assumption) (by exact Nat.le_of_ble_eq_true rfl) | omega))
  k_with "c un" => (((try dsimp only); first | exact un_of (by with_reducible assumption) (by exact Nat.le_of_ble_eq_true rfl) | exact un_of1 (by with_reducible assumption) (by exact Nat.le_of_ble_eq_true rfl) | omega))
  k_with "c a" => (with_reducible assumption)
  k_with "c lt" => (first | with_reducible assumption | exact a0 (by k_extra "c a") | exact a1 (by k_extra "c a") | exact a2 (by k_extra "c a") | exact a3 (by k_extra "c a") | exact a4 (by k_extra "c a") | exact a5 (by k_extra "c a") | exact a6 (by k_extra "c a") | exact a7 (by k_extra "c a") | exact a8 (by k_extra "c a") | exact a9 (by k_extra "c a") | exact a10 (by k_extra "c a") | exact a11 (by k_extra "c a") | exact a12 (by k_extra "c a") | exact a13 (by k_extra "c a"))
  k_with "c p" => (first | with_reducible assumption | k_ne | exact Nat.le_of_ble_eq_true rfl | decide | omega | assumption | exact rfl)
  k_with "c ro" => (first | exact fun _ _ _ => trivial | (intro g' st' hr'; have hro9 := st' _ _ (by with_reducible assumption); exact ⟨_, _, _, _, _, hro9⟩))
  k_with "c fin2" => (((try case p1 => k_extra "c p"); (try case p2 => k_extra "c p"); (try case p3 => k_extra "c p"); (try case p4 => k_extra "c p"); (try case p5 => k_extra "c p"); (case h3 => k_extra "c ro"); k_whole))
  k_with "c fin" => ((k_extra "c use"; k_extra "c fin2"))
  k_with "c enter" => ((refine spec_enter (by assumption) (by assumption) (by assumption) (by assumption) (by assumption) (by assumption) (by k_is) (by k_is) (by first | exact room_of (by with_reducible assumption) | (simp only [recursionLimit]; omega)) (by first | exact BindsTo.of_eq rfl | exact binds_K (Frag.In.keeps (by assumption) (by assumption)) rfl (by k_is) rfl rfl rfl) (by exact locs rfl) ?_ (by exact rfl) (by exact rfl) (by exact rfl) (by decide); intro _ _ _ _; (try dsimp only); (try k_fold)))
  k_with "c part" => (first | exact Part.nil | (apply Part.out; (· k_mem); (· k_extra "c part")) | (apply Part.stay; (· k_all); (· k_extra "c part")) | (refine part_tail ?_; k_extra "c tail"))
  k_with "c tail" => (first | exact List.forall_mem_nil _ | (refine List.forall_mem_cons.mpr ⟨?_, ?_⟩; (· k_extra "c apart"); (· k_extra "c tail")))
  k_with "c apart" => (first | exact OwnOff.ne (by assumption) (by k_memK) | (refine allLt_apart ?_; k_extra "c conj"))
  k_with "c conj" => (first | assumption | exact And.right (by k_extra "c conj"))
  k_with "c adr" => (first | exact List.forall_mem_nil _ | (refine List.forall_mem_cons.mpr ⟨?_, ?_⟩; (· k_memK); (· k_extra "c adr")))
  k_with "c pre" => (first | exact List.forall_mem_nil _ | (refine List.forall_mem_cons.mpr ⟨?_, ?_⟩; (· k_mem); (· k_extra "c pre")))
  k_with "call builtin:len" => ((k_here; (with_reducible show wpAny _ _ (call (Value.builtin "len") [Value.ref _]) _ _ _); (with_unfolding_all refine len_mine (by is_list) (by (first | omega | (simp only [List.length_cons, List.length_nil, List.length_append]; omega))) ?_)))
  k_with "subscriptTail" => ((k_here; (with_reducible show wpAny _ _ (subscriptTail _ _ (Value.ref _) (Value.int _ _)) _ _ _); (with_unfolding_all refine item_open (by is_list) (by omega) (by omega) (by omega) ?_ (by with_unfolding_all rfl)); intro _ _ _))
  k_with "call type:range" => ((k_here; (with_reducible show wpAny _ _ (call _ [_]) _ _ _); (with_unfolding_all refine range1_rows (by k_asm) (by k_asm) ?_); intro _ _ _ _ _ _ _ _ _; (try k_sweep)))
  k_with "call builtin:list.append" => ((k_here; (with_reducible show wpAny _ _ (call (Value.builtin _) [Value.ref _, _]) _ _ _); k_dflt (refine append_K (by k_asm) (by k_asm) (by k_upd) ?_ (by first | exact small_size (by assumption) | size_fits)); intro _ _ _; (try k_sweep)))
  k_with "binaryOp Add str str" => ((k_here; (refine add_mine ?_ (by (first | omega | (simp only [Str.length_append]; omega))) (by (first | omega | (simp only [Str.length_append]; omega)))); intro _ _))
  k_with "call type:list" => ((k_here; (with_reducible show wpAny _ _ (call (Value.type "list") [Value.ref _]) _ _ _); k_dflt (refine list_mine (by k_asm) (by k_asm) (by k_mem) (by omega) ?_); intro _ _ _ _ _ l9; (try k_lt l9); (try (revert l9; intro _)); (try k_sweep)))
  k_with "callWith ref" => ((k_here; k_dflt (first | refine callWith_K (by with_reducible assumption) (by k_is) ?_ | refine callWith_K0 (by k_in) (by k_is) ?_)))
  exact rfl
abbrev wsL (w : World) (x d r : Addr) (a : Int) (t1 t2 t3 ta td : Tok) (vs : List Value) (c : Nat) : Led := [(x, instObj 214 d), (d, wordsD w r a t1 t2 t3 ta td), (r, listOf vs.toArray c)]
set_option maxHeartbeats 2000000 in
theorem peek_spec {prog : Program} {w : World} {x d r : Addr} {a k : Int} {t1 t2 t3 ta td tk : Tok} {vs : List Value} {c : Nat} (hv : 0 < vs.length) (hl : vs.length ≤ 1000) (ha0 : 0 ≤ a) (ha : a ≤ 1000) (hk0 : 0 ≤ k) (hk : k ≤ 1000) :
    CSpec prog w 1 20 175 [.ref x, .int k tk] (wsL w x d r a t1 t2 t3 ta td vs c) (fun g => True)
      (fun v tl => vs[(min (a + k) (vs.length - 1)).toNat]? = some v ∧ tl = wsL w x d r a t1 t2 t3 ta td vs c) := by
  w_top off
  unfold CSpec wsL
  intro dp un gd outer A₀ base g s p loose mean mg mb R B st sz X T N0 hro hd hu hret
  walk_at "c enter"
  repeat' ((fail_if_success (with_reducible show R _ _)); first | (k_unfold; (try dsimp only)) | (k_end; wrow_close) | walk1 | (dsimp only; walk1) | (leave1; walk_say "STEP leave1"; try dsimp only) | fail "no step")
  rename Fr _ _ _ _ => F9
  rename News _ _ _ _ => N9
  rename _ = some _ => hv9
  refine' spec_end hret F9 N9 ⟨?_, rfl⟩
  rw [← hv9]
  congr 1
  by_cases h : ((vs.length : Int) - 1) < a + k
  · rw [if_pos h]; congr 1; omega
  · rw [if_neg h]; congr 1; omega
set_option maxHeartbeats 2000000 in
theorem peek0_spec {prog : Program} {w : World} {x d r : Addr} {a : Nat} {t1 t2 t3 ta td : Tok} {vs : List Value} {c : Nat} (hl : vs.length ≤ 1000) (ha : a < vs.length) :
    CSpec prog w 1 20 175 [.ref x] (wsL w x d r a t1 t2 t3 ta td vs c) (fun g => True)
      (fun v tl => vs[a]? = some v ∧ tl = wsL w x d r a t1 t2 t3 ta td vs c) := by
  w_top off
  unfold CSpec wsL
  intro dp un gd outer A₀ base g s p loose mean mg mb R B st sz X T N0 hro hd hu hret
  walk_at "c enter"
  repeat' ((fail_if_success (with_reducible show R _ _)); first | (k_unfold; (try dsimp only)) | (k_end; wrow_close) | walk1 | (dsimp only; walk1) | (leave1; walk_say "STEP leave1"; try dsimp only) | fail "no step")
  rename Fr _ _ _ _ => F9
  rename News _ _ _ _ => N9
  rename _ = some _ => hv9
  refine' spec_end hret F9 N9 ⟨?_, rfl⟩
  rw [← hv9]
  congr 1
  by_cases h : ((vs.length : Int) - 1) < (a : Int) + 0
  · omega
  · rw [if_neg h]; omega
end
-- Peek2
section
theorem CSpec.mono {prog : Program} {w : World} {d u : Nat} {f : Addr} {args : List Value} {pre : Led} {ro ro' : Heap → Prop} {P P' : Value → Led → Prop} (C : CSpec prog w d u f args pre ro P) (hr : ∀ g, ro' g → ro g) (h : ∀ v tl, P v tl → P' v tl) : CSpec prog w d u f args pre ro' P' := by
  intro dp un gd outer A₀ base g s p loose mean mg mb R B st sz X T N0 hro hd hu hret
  exact C dp un gd outer A₀ base g s p loose mean mg mb R B st sz X T N0 (hr g hro) hd hu fun v h' tk' tl k n p' => hret v h' tk' tl k n (h v tl p')
theorem peekK_spec {prog : Program} {w : World} {x d r : Addr} {a : Nat} {k : Int} {t1 t2 t3 ta td tk : Tok} {vs : List Value} {c : Nat} {v₀ : Value} (hw : vs[(min ((a : Int) + k) (vs.length - 1)).toNat]? = some v₀) (hl : vs.length ≤ 1000) (ha : a < vs.length) (hk0 : 0 ≤ k) (hk : k ≤ 1000) :
    CSpec prog w 1 20 175 [.ref x, .int k tk] (wsL w x d r a t1 t2 t3 ta td vs c) (fun g => True)
      (fun v tl => v = v₀ ∧ tl = wsL w x d r a t1 t2 t3 ta td vs c) :=
  (peek_spec (by omega) hl (by omega) (by omega) hk0 hk).mono (fun _ h => h) fun v tl h => ⟨Option.some.inj (h.1.symm.trans hw), h.2⟩
theorem peek0K_spec {prog : Program} {w : World} {x d r : Addr} {a : Nat} {t1 t2 t3 ta td : Tok} {vs : List Value} {c : Nat} {v₀ : Value} (hw : vs[a]? = some v₀) (hl : vs.length ≤ 1000) (ha : a < vs.length) :
    CSpec prog w 1 20 175 [.ref x] (wsL w x d r a t1 t2 t3 ta td vs c) (fun g => True)
      (fun v tl => v = v₀ ∧ tl = wsL w x d r a t1 t2 t3 ta td vs c) :=
  (peek0_spec hl ha).mono (fun _ h => h) fun v tl h => ⟨Option.some.inj (h.1.symm.trans hw), h.2⟩
/-- a word's tuple -/
abbrev wordO (wd : Wd) (t1 t2 t3 : Tok) (v4 : Value) (n : Nat) : Obj := { cls := .type "tuple", data := .seq [.str wd.k t1, .str wd.t t2, .int wd.pos t3, v4, .none].toArray n }
def WordAt (g : Heap) (b : Addr) (wd : Wd) : Prop := ∃ t1 t2 t3 v4 n, g.get? b = some (wordO wd t1 t2 t3 v4 n)
theorem tup_base {g h : Heap} {L b : Addr} {m : Str → Option Value} {l : List Value} {n : Nat} (F : Fr g L h m) (hb : g.get? b = some { cls := .type "tuple", data := .seq l.toArray n }) : IsTup h b l.toArray := ⟨_, F.keep _ _ hb, rfl, _, rfl⟩
theorem word_tup {g h : Heap} {L b : Addr} {m : Str → Option Value} {wd : Wd} {t1 t2 t3 : Tok} {v4 : Value} {n : Nat} (F : Fr g L h m) (hb : g.get? b = some (wordO wd t1 t2 t3 v4 n)) : IsTup h b [Value.str wd.k t1, .str wd.t t2, .int wd.pos t3, v4, .none].toArray := ⟨_, F.keep _ _ hb, rfl, _, rfl⟩
theorem ws_apart {w : World} {h g : Heap} {x d r : Addr} {a : Int} {t1 t2 t3 ta td : Tok} {vs : List Value} {c : Nat} (N : ∀ q ∈ wsL w x d r a t1 t2 t3 ta td vs c, h.get? q.1 = some q.2 ∧ g.get? q.1 = none) : @Ne Nat x d ∧ @Ne Nat r d ∧ @Ne Nat x r := by
  have h1 := (N _ (.head _)).1
  have h2 := (N _ (.tail _ (.head _))).1
  have h3 := (N _ (.tail _ (.tail _ (.head _)))).1
  refine ⟨fun e => ?_, fun e => ?_, fun e => ?_⟩
  · subst e; rw [h1] at h2; exact absurd (congrArg Obj.cls (Option.some.inj h2)) (by intro e; cases e)
  · subst e; rw [h3] at h2
    exact absurd (show ("list" : String) = "dict" from congrArg (fun o : Obj => match o.cls with | .type s => s | _ => "") (Option.some.inj h2)) (by decide)
  · subst e; rw [h1] at h3; exact absurd (congrArg Obj.cls (Option.some.inj h3)) (by intro e; cases e)
end
-- Gentle
section
/-- every object keeps its dict -/
def DictKept (h h' : Heap) : Prop := ∀ (b : Nat) (o : Obj), h.objs[b]? = some o → ∃ o' : Obj, h'.objs[b]? = some o' ∧ o'.dict = o.dict
theorem DictKept.refl (h : Heap) : DictKept h h := fun _ o e => ⟨o, e, rfl⟩
theorem DictKept.trans {a b c : Heap} (x : DictKept a b) (y : DictKept b c) : DictKept a c := fun d o e => by
  obtain ⟨o1, e1, d1⟩ := x d o e
  obtain ⟨o2, e2, d2⟩ := y d o1 e1
  exact ⟨o2, e2, d2.trans d1⟩
/-- what a tree shows it also shows with every dict kept -/
def Keeps {α : Type} (t : Sem α) : Prop := ∀ (M : Model) (Γ : Ctx) (Q : α → Pos → Shared → Prop) (E : Value → Pos → Shared → Prop) p s, Sem.wp M Γ t Q E p s →
  Sem.wp M Γ t (fun a p' s' => Q a p' s' ∧ DictKept s.heap s'.heap) (fun e p' s' => E e p' s' ∧ DictKept s.heap s'.heap) p s
section
variable {α β : Type}
theorem Keeps.pure (a : α) : Keeps (pure a : Sem α) := fun M Γ Q E p s h => by
  rw [Sem.wp_pure'] at h ⊢
  exact ⟨h, .refl _⟩
theorem Keeps.bind {m : Sem α} {f : α → Sem β} (h : Keeps m) (k : ∀ a, Keeps (f a)) : Keeps (m >>= f) := fun M Γ Q E p s w => by
  rw [Sem.wp_bind'] at w ⊢
  refine Sem.wp_mono M Γ m (fun a p' s' h' => ?_) (fun e p' s' h' => h') p s (h M Γ _ _ p s w)
  exact Sem.wp_mono M Γ (f a) (fun b p2 s2 h2 => ⟨h2.1, h'.2.trans h2.2⟩) (fun e p2 s2 h2 => ⟨h2.1, h'.2.trans h2.2⟩) p' s' (k a M Γ _ _ p' s' h'.1)
theorem Keeps.unsupported (w : String) : Keeps (unsupported w : Sem α) := fun M Γ Q E p s h => by
  have : False := by
    have h2 : Sem.wp M Γ (Sem.unsupported w : Sem α) Q E p s := h
    rw [Sem.wp_unsupported] at h2
    exact h2
  exact this.elim
theorem Keeps.load (a : Addr) : Keeps (load a) := fun M Γ Q E p s h => by
  have h2 : Sem.wp M Γ (Sem.load a none .pure) Q E p s := h
  show Sem.wp M Γ (Sem.load a none .pure) _ _ p s
  rw [Sem.wp] at h2 ⊢
  obtain ⟨o, e, h3⟩ := h2
  rw [Sem.wp_pure] at h3
  exact ⟨o, e, by rw [Sem.wp_pure]; exact ⟨h3, .refl _⟩⟩
theorem Keeps.loadPart (a : Addr) (v : Option Value) : Keeps (loadPart a v) := fun M Γ Q E p s h => by
  have h2 : Sem.wp M Γ (Sem.load a v .pure) Q E p s := h
  show Sem.wp M Γ (Sem.load a v .pure) _ _ p s
  rw [Sem.wp] at h2 ⊢
  obtain ⟨o, e, h3⟩ := h2
  rw [Sem.wp_pure] at h3
  exact ⟨o, e, by rw [Sem.wp_pure]; exact ⟨h3, .refl _⟩⟩
theorem dict_update {h : Heap} {a : Addr} {f : Obj → Obj} (hf : ∀ o, (f o).dict = o.dict) : DictKept h (h.update a f) := fun b o e => by
  obtain ⟨objs, l⟩ := h
  show ∃ o' : Obj, (objs.modify a f)[b]? = some o' ∧ o'.dict = o.dict
  have e' : objs[b]? = some o := e
  rw [Array.getElem?_modify]
  by_cases hb : a = b
  · rw [if_pos hb, e']; exact ⟨_, rfl, hf o⟩
  · rw [if_neg hb, e']; exact ⟨_, rfl, rfl⟩
theorem Keeps.update (a : Addr) (f : Obj → Obj) (hf : ∀ o, (f o).dict = o.dict) : Keeps (update a f) := fun M Γ Q E p s h => by
  have h2 : Sem.wp M Γ (Sem.update a none f .pure) Q E p s := h
  show Sem.wp M Γ (Sem.update a none f .pure) _ _ p s
  rw [Sem.wp] at h2 ⊢
  rw [Sem.wp_pure] at h2 ⊢
  exact ⟨h2.1, h2.2, dict_update hf⟩
theorem Keeps.updatePart (a : Addr) (v : Option Value) (f : Obj → Obj) (hf : ∀ o, (f o).dict = o.dict) : Keeps (updatePart a v f) := fun M Γ Q E p s h => by
  have h2 : Sem.wp M Γ (Sem.update a v f .pure) Q E p s := h
  show Sem.wp M Γ (Sem.update a v f .pure) _ _ p s
  rw [Sem.wp] at h2 ⊢
  rw [Sem.wp_pure] at h2 ⊢
  exact ⟨h2.1, h2.2, dict_update hf⟩
theorem Keeps.alloc (o : Obj) : Keeps (alloc o) := fun M Γ Q E p s h => by
  have h2 : Sem.wp M Γ (Sem.alloc o .pure) Q E p s := h
  show Sem.wp M Γ (Sem.alloc o .pure) _ _ p s
  rw [Sem.wp] at h2 ⊢
  rw [Sem.wp_pure] at h2 ⊢
  refine ⟨h2, fun b o' e => ⟨o', ?_, rfl⟩⟩
  have hb : b < s.heap.objs.size := (Array.getElem?_eq_some_iff.mp e).1
  show (s.heap.push o).objs[b]? = _
  have : (s.heap.push o).objs = s.heap.objs.push o := rfl
  rw [this, Array.getElem?_push_lt hb]
  rw [← e, Array.getElem?_eq_getElem hb]
theorem Keeps.stack : Keeps stack := fun M Γ Q E p s h => by
  have h2 : Sem.wp M Γ (Sem.stack .pure) Q E p s := h
  show Sem.wp M Γ (Sem.stack .pure) _ _ p s
  rw [Sem.wp] at h2 ⊢
  rw [Sem.wp_pure] at h2 ⊢
  exact ⟨h2, .refl _⟩
theorem Keeps.ite {c : Prop} [Decidable c] {a b : Sem α} (h : Keeps a) (k : Keeps b) : Keeps (if c then a else b) := by
  by_cases hc : c
  · rw [if_pos hc]; exact h
  · rw [if_neg hc]; exact k
end
theorem keeps_mapFields (f : Array Value → Array Value) (o : Obj) : (Obj.mapFields f o).dict = o.dict := by
  obtain ⟨c, d, dt, sl⟩ := o
  cases dt <;> rfl
theorem keeps_fieldsOf (v : Value) : Keeps (fieldsOf v) := by
  unfold fieldsOf
  split
  · refine .bind (.load _) fun o => ?_
    split
    · exact .pure _
    · exact .unsupported _
  · exact .unsupported _
theorem keeps_field (v : Value) (i : Nat) : Keeps (field v i) := by
  unfold field
  refine .bind (keeps_fieldsOf _) fun vs => ?_
  split
  · exact .pure _
  · exact .unsupported _
theorem keeps_setField (v : Value) (i : Nat) (x : Value) : Keeps (setField v i x) := by
  unfold setField updateField
  split
  · refine .bind (.load _) fun o => ?_
    split
    · exact .ite (.update _ _ (keeps_mapFields _)) (.unsupported _)
    · exact .unsupported _
  · exact .unsupported _
theorem keeps_behind (env : Env) (outer : List Env) : Keeps (behindIsImport env outer) := by
  unfold behindIsImport
  repeat (first | exact .pure _ | exact keeps_field _ _ | refine .ite ?_ ?_ | refine .bind ?_ fun _ => ?_)
theorem keeps_keptBack (env : Env) (b : Bool) (outer : List Env) : Keeps (keptBack env b outer) := by
  unfold keptBack
  split
  · refine .ite (.pure _) ?_
    unfold underTheClaimsCaller
    repeat (first | exact .pure _ | exact .stack | refine .ite ?_ ?_ | refine .bind ?_ fun _ => ?_)
  · exact .pure _
theorem keeps_readyFrames : ∀ l, Keeps (readyFrames l)
  | [] => .pure _
  | env :: outer => by
    unfold readyFrames
    cases env.frame with
    | none => exact .unsupported _
    | some f =>
      dsimp only
      refine .bind (.load _) fun o => ?_
      split
      · exact .pure _
      · exact .bind (keeps_behind _ _) fun _ => .bind (keeps_keptBack _ _ _) fun _ => .bind (.update _ _ fun _ => rfl) fun _ => keeps_readyFrames outer
theorem keeps_frameOf (env : Env) : Keeps (PySem.frameOf env) := by
  unfold PySem.frameOf frameEnvs
  refine .bind (.bind .stack fun _ => .pure _) fun l => ?_
  unfold frameObject
  split
  · refine .bind (.pure _) fun r => ?_
    split
    · exact .pure _
    · exact .unsupported _
  · refine .bind (.bind (keeps_readyFrames _) fun _ => .pure _) fun r => ?_
    split
    · exact .pure _
    · exact .unsupported _
theorem keeps_setFlight (e : Value) (fr : Option Addr) : Keeps (setFlight e fr) := by
  unfold setFlight
  exact .bind (keeps_field _ _) fun _ => .ite (keeps_setField _ _ _) (.pure _)
theorem keeps_entryPlaceOf (f : Addr) (b : Bool) : Keeps (entryPlaceOf f b) := by
  unfold entryPlaceOf
  refine .bind .stack fun _ => ?_
  split
  · exact .pure _
  · exact .pure _
theorem keeps_newFields (T : String) (vs : List Value) : Keeps (newFields T vs) := by
  unfold newFields newObj newObjAsIs
  dsimp only
  split
  · exact .bind (.unsupported _) fun _ => .bind (.alloc _) fun _ => .pure _
  · exact .bind (.alloc _) fun _ => .pure _
theorem keeps_noteFrame (e : Value) (env : Env) : Keeps (noteFrame e env) := by
  unfold noteFrame EntryCells.newEntry
  split
  · refine .bind (keeps_field _ _) fun head => ?_
    dsimp only
    refine .ite (.bind (keeps_field _ _) fun v => .ite (.pure _) (.bind (keeps_setField _ _ _) fun _ => ?_)) ?_
    all_goals exact .bind (keeps_frameOf _) fun _ => .bind (keeps_entryPlaceOf _ _) fun _ => .bind (keeps_newFields _ _) fun _ => keeps_setField _ _ _
  · exact .unsupported _
theorem keeps_leaving (env : Env) (e : Value) : Keeps (leaving env e) := by
  unfold leaving
  exact .bind (keeps_noteFrame _ _) fun _ => keeps_setFlight _ _
/-- the same at any around -/
theorem keeps_any {α : Type} {M : Model} {A : Around} {t : Sem α} (K : Keeps t) {Q : α → Shared → Prop} {E : Value → Shared → Prop} {s : Shared} (h : wpAny M A t Q E s) :
    wpAny M A t (fun a s' => Q a s' ∧ DictKept s.heap s'.heap) (fun e s' => E e s' ∧ DictKept s.heap s'.heap) s := fun Γ p hΓ => K M Γ _ _ p s (h Γ p hΓ)
theorem dict_at {h h' : Heap} {e : Addr} {o o' : Obj} (k : DictKept h h') (he : h.get? e = some o) (he' : h'.get? e = some o') : o'.dict = o.dict := by
  have h1 := (Heap.get?_some_iff.mp he).1
  have h2 := (Heap.get?_some_iff.mp he').1
  obtain ⟨o1, e1, d1⟩ := k e o h1
  rw [h2] at e1
  cases e1
  exact d1
end
-- Exc
section
structure ExcAt (h : Heap) (C : Addr) (bm : List Value) (newId : String) : Prop where
  obj : ∃ nm q N bs sn sub ab col dd k0 k1 k2 k3 k5, h.get? C = some (excClassObj nm q C N bs bm true sn sub ab col dd k0 k1 k2 k3 k5 newId)
abbrev bmG : List Value := [.ref 39, .type "Exception", .type "BaseException", .type "object"]
theorem exc_cls {w : World} {h : Heap} (X : (hd.heap_39 w.params).In h) : ExcAt h 64 bmG "Exception.__new__" := by
  have key : ∀ o, (hd.heap_39 w.params).lookup 64 = some o → h.get? 64 = some o := fun o e => X _ _ e
  have k2 := key _ (by k_is)
  exact ⟨_, _, _, _, _, _, _, _, _, _, _, _, _, _, k2⟩
theorem exc_keep {h h' : Heap} {C : Addr} {bm : List Value} {n : String} (x : ExcAt h C bm n) (k : ∀ b o, h.get? b = some o → h'.get? b = some o) : ExcAt h' C bm n := by
  obtain ⟨nm, q, N, bs, sn, sub, ab, col, dd, k0, k1, k2, k3, k5, e⟩ := x
  exact ⟨nm, q, N, bs, sn, sub, ab, col, dd, k0, k1, k2, k3, k5, k _ _ e⟩
section
variable {prog : Program} {w : World} {A : Around} {R : Result → Shared → Prop} {h : Heap} {g : Array GenState} {d : Drawn} {t : Nat} {os : OsState}
variable {nm q : Str} {C N : Addr} {bs bm : List Value} {hdct : Bool} {sn : List Str} {sub : List Value} {ab : Bool} {col : Option Bool} {dd : Option Addr} {k0 k1 k2 k3 k5 : Option Value} {B newId initId : String}
/-- Exception.__new__ of an own class some steps down -/
theorem exc_new {bm0 : List Value} (F : ExcBaseFacts B newId initId bm0) {rest : List Value} (hC : h.get? C = some (excClassObj nm q C N bs bm hdct sn sub ab col dd k0 k1 k2 k3 k5 newId))
    (hB : bm.contains (.type B) = true) (hA : bm.contains (.type "AttributeError") = false) (hN : bm.contains (.type "NameError") = false)
    (hq : R (.ok (.ret (.ref (h.objs.size + 1)))) ⟨(h.push { cls := .type "tuple", data := .seq rest.toArray }).push
      { cls := .ref C, data := .fields #[.ref h.objs.size, .none, .none, .none, .bool false, .none] }, g, d, t, os⟩) (hrest : rest.length ≤ sizeLine) :
    codeAny (model prog w) A (.builtin newId ⟨.ref C :: rest, []⟩) R ⟨h, g, d, t, os⟩ := by
  have hends := F.ends
  have hcB : (Value.ref C :: bm).contains (.type B) = true := by rw [List.contains_cons, hB, Bool.or_true]
  have hcA : (Value.ref C :: bm).contains (.type "AttributeError") = false := by rw [List.contains_cons, hA]; rfl
  have hcN : (Value.ref C :: bm).contains (.type "NameError") = false := by rw [List.contains_cons, hN]; rfl
  refine codeAny_builtinAt F.entry ?_
  unfold Builtin.«BaseException.__new__»
  refine PySem.wpAt_bind ?_
  show PySem.wpAt _ _ _ (stack >>= _) _ _ _
  refine PySem.wpAt_bind (PySem.wpAt_stack fun p below => PySem.wpAt_of_wpAny ?_)
  wp_walk
  refine PySem.wpAt_of_wpAny ?_
  rw [F.owner]
  repeat (first | with_reducible refine wpAny_madeHere_exc F.canon hC ?_ | with_reducible refine wpAny_loadPart_at hC ?_ | (with_reducible refine wpAny_isSubtype_exc hC ?_; first | rw [hcB] | rw [hcA] | rw [hcN]) | wp_step)
  show R _ _
  rw [Heap.size_push]
  exact hq
theorem exc_check_new {bm0 : List Value} (F : ExcBaseFacts B newId initId bm0) {M : Model} {E : Value → Shared → Prop} {rest : List Value} {Q : Unit → Shared → Prop} (hC : h.get? C = some (excClassObj nm q C N bs bm hdct sn sub ab col dd k0 k1 k2 k3 k5 newId))
    (hB : bm.contains (.type B) = true) (hq : Q () ⟨h, g, d, t, os⟩) : wpAny M A (checkBuiltinCall newId ⟨.ref C :: rest, []⟩) Q E ⟨h, g, d, t, os⟩ := by
  have hcont : (Value.ref C :: bm).contains (.type B) = true := by rw [List.contains_cons, hB, Bool.or_true]
  have hstar := F.noStar
  simp only [checkBuiltinCall, F.newKind, F.newSplit, F.newRow]
  repeat (first | refine wpAny_loadPart_at hC ?_ | (refine wpAny_isSubtype_exc hC ?_; rw [hcont]) | refine wpAny_staticBase_exc hC ?_ | refine wpAny_madeBy_exc hC ?_ | simp only [bne_self_eq_false, Bool.false_eq_true, if_false] | wp_step)
  exact hq
/-- a call of the class: the new one, and its __init__, a def -/
theorem exc_core {bm0 : List Value} (F : ExcBaseFacts B newId initId bm0) {rest : List Value} {fI : Addr} (hC : h.get? C = some (excClassObj nm q C N bs bm hdct sn sub ab col dd k0 k1 k2 k3 k5 newId))
    (hB : bm.contains (.type B) = true) (hA : bm.contains (.type "AttributeError") = false) (hN : bm.contains (.type "NameError") = false)
    (hi : Looks (model prog w) h (typeLookup (.ref C) "__init__") (some (.ref fI))) (hb : ∀ self, Looks (model prog w) h (bindSpecial (.ref fI) self) (.ref fI, [self])) (hrest : rest.length ≤ sizeLine)
    (hq : codeAny (model prog w) (A.under (.builtin "type.__call__" ⟨.ref C :: rest, []⟩)) (.call (.ref fI) ⟨.ref (h.objs.size + 1) :: rest, []⟩) (InitBack (h.objs.size + 1) R)
      ⟨(h.push { cls := .type "tuple", data := .seq rest.toArray }).push { cls := .ref C, data := .fields #[.ref h.objs.size, .none, .none, .none, .bool false, .none] }, g, d, t, os⟩) :
    codeAny (model prog w) A (.call (.ref C) ⟨rest, []⟩) R ⟨h, g, d, t, os⟩ := by
  have f1 := tc_lookup
  have f2 := tc_bind (.ref C)
  have hT : (⟨h, g, d, t, os⟩ : Shared).TypeIs (.ref C) "type" := ⟨_, hC, rfl⟩
  refine codeAny_of_tree ?_
  show wpAny _ _ (callAny (.ref C) _) _ _ _
  repeat (any_goals (first | assumption | with_reducible refine wpAny_loadPart_at hC ?_ | wp_step))
  refine ⟨rfl, ?_⟩
  refine codeAny_call_builtin_at (Code.quiet_builtin _ (by decide +kernel)) entry_typeCall (wpAny_check_type_call_sub hC ?_)
  repeat (first | with_reducible refine wpAny_loadPart_at hC ?_ | with_reducible refine wpAny_madeBy_exc hC ?_ | wp_step)
  refine codeAny_call_builtin_code (Code.quiet_builtin _ F.quiet) (exc_check_new F hC hB ?_)
  refine exc_new F hC hB hA hN ?_ hrest
  show wpAny _ _ _ _ _ _
  have k : ∀ b o, h.get? b = some o → ((h.push { cls := .type "tuple", data := .seq rest.toArray }).push { cls := .ref C, data := .fields #[.ref h.objs.size, .none, .none, .none, .bool false, .none] }).get? b = some o := fun b o e => Heap.get?_push_of_some _ (Heap.get?_push_of_some _ e)
  have hC₁ := k _ _ hC
  have hget : ((h.push { cls := .type "tuple", data := .seq rest.toArray }).push
      { cls := .ref C, data := .fields #[.ref h.objs.size, .none, .none, .none, .bool false, .none] }).get? (h.objs.size + 1) = some
      { cls := .ref C, data := .fields #[.ref h.objs.size, .none, .none, .none, .bool false, .none] } := by heap_get
  have hcC : (Value.ref C :: bm).contains (.ref C) = true := by simp
  have i1 := hi.keeps k
  have b1 := (hb (.ref (h.objs.size + 1))).keeps k
  have t1 : Looks (model prog w) ((h.push { cls := .type "tuple", data := .seq rest.toArray }).push { cls := .ref C, data := .fields #[.ref h.objs.size, .none, .none, .none, .bool false, .none] }) (typeOf (.ref (h.objs.size + 1))) (.ref C) := (Looks.ld hget).andThen .now
  have s1 : Looks (model prog w) ((h.push { cls := .type "tuple", data := .seq rest.toArray }).push { cls := .ref C, data := .fields #[.ref h.objs.size, .none, .none, .none, .bool false, .none] }) (isSubtype (.ref C) (.ref C)) true := by
    intro A Q E s k q
    obtain ⟨hh, g', d', t', os'⟩ := s
    exact wpAny_isSubtype_exc (k _ _ hC₁) (by rw [hcC]; exact q)
  show wpAny _ _ _ _ _ (⟨(h.push { cls := .type "tuple", data := .seq rest.toArray }).push { cls := .ref C, data := .fields #[.ref h.objs.size, .none, .none, .none, .bool false, .none] }, g, d, t, os⟩ : Shared)
  unfold isInstance callSpecial? specialOf
  repeat (first | with_reducible refine wpAny_call ?_ | lk)
  refine codeAny_mono hq fun r s' z => ?_
  rcases r with e | (v | _ | _ | _) <;> first | exact z | exact z.elim | skip
  obtain ⟨rfl, z⟩ := z
  exact wpAny_pure (wpAny_pure z)
end
end
-- Exc2
section
theorem meta_exc : typeOf (.type "Exception") = pure (.type "type") :=
  congrArg (fun m => (pure (.type m) : Sem Value)) (show ((Manifest.find? "Exception").elim "type" fun x => x.metatype) = "type" from by rw [find?_eq_fast]; kernel_rfl)
section
variable {prog : Program} {w : World} {A : Around} {K : Frag} {C D x : Addr} {s : Shared} {h₀ : Heap} {L : Addr} {m : Str → Option Value} {R : Result → Shared → Prop} {cd : ClassData} {ox : Obj} {name : Str} {tk : Tok} {v : Value}
theorem osa_exc (X : K.In s.heap) (hx : s.heap.get? x = some ox) (hcl : ox.cls = .ref C) (hc : clsIn K C = some cd) (hm : cd.mro = [.ref C, .ref D, .type "Exception", .type "BaseException", .type "object"])
    (ha : findIn K (.ref C) name = some none) (hs : mroIn K C (.type "object") = some true)
    (h : wpAny (model prog w) A.in1 (Builtin.ObjectAttr.storeInOwnDict (.ref x) (.ref C) (.str name tk) name v false)
      (fun fin s' => match fin with | .done f => R (.ok f) s' | .again c' => c'.quiet = true ∧ codeAny (model prog w) A c' R s') (fun e s' => R (.error e) s') s) :
    codeAny (model prog w) A (.call (.builtin "object.__setattr__") ⟨[.ref x, .str name tk, v], []⟩) R s := by
  have SF := PySem.F.store_object
  have ty : Looks (model prog w) s.heap (typeOf (.ref x)) (.ref C) := hcl ▸ (Looks.ld hx).andThen .now
  have sub : Looks (model prog w) s.heap (isInstance (.ref x) (.type "object")) true := ty.andThen (looks_mroIn X hs)
  refine codeAny_call_builtin SF.slot.plain SF.entry (@check_slot (model prog w) _ _ s "object.__setattr__" "object" "__setattr__" (.ref x) [.str name tk, v] [] _ SF.kind SF.split sub (SF.args (.ref x) (.str name tk) v) ?_)
  have hmro : Looks (model prog w) s.heap (mroOf (.ref C)) cd.mro := (looks_clsIn X hc).andThen .now
  rw [osa_eq, refuse_eq]
  refine wpAny_bind (wpAny_bind (ty.here (wpAny_bind (hmro.here ?_))))
  rw [hm, refuseLoop_ref, refuseLoop_ref, PySem.F.store_Exception.passes]
  refine wpAny_pure (wpAny_bind (ty.here (wpAny_bind ((looks_findIn X ha).here (wpAny_bind ?_)))))
  exact wpAny_pure h
theorem store_mine {E : Value → Shared → Prop} {Q : PySem.Fin → Shared → Prop} {dx : Addr} {pre post : Led} {es es' : List DictEntry} {n n' : Nat} (F : Fr h₀ L s.heap m) (N : News h₀ L s.heap (pre ++ (dx, dictOf es n) :: post))
    (hl : (getL name es).isSome = true) (h1 : ∀ p ∈ pre, p.1 ≠ dx) (h2 : ∀ p ∈ post, p.1 ≠ dx)
    (e : (putL name (PyData.keyHash w.params name) (.str name s.toks) v es, putN name es n) = (es', n')) (hz : es'.length ≤ 1000)
    (h : ∀ h', Fr h₀ L h' m → News h₀ L h' (pre ++ (dx, dictOf es' n') :: post) → Q (.done (.ret .none)) { s with heap := h', toks := s.toks + 1 }) :
    wpAny (model prog w) A (Builtin.ObjectAttr.storeInDict dx (.str name tk) name v) Q E s := by
  obtain ⟨e1, e2⟩ := Prod.mk.inj e
  have eq : Obj.putName name (PyData.keyHash w.params name) (.str name s.toks) v (dictOf es n) = dictOf es' n' := by rw [putName_dict, e1, e2]
  obtain ⟨U1, U2⟩ := news_upd (f := Obj.putName name (PyData.keyHash w.params name) (.str name s.toks) v) F N h1 h2 eq rfl
  have D := (N (dx, dictOf es n) (by simp)).1
  have D' := (U2 (dx, dictOf es' n') (by simp)).1
  refine wpAny_bind (wpAny_pure (wpAny_bind ?_))
  unfold nsSet
  refine wpAny_bind (wpAny_bind (wpAny_askSetting (wpAny_pure (wpAny_bind (wpAny_mkText (wpAny_bind (wpAny_loadPart D ?_)))))))
  dsimp only
  have c : (!es.toArray.any (·.key.isStr name) && es.toArray.any (·.refKey)) = false := by
    rw [← Array.any_toList, ← Array.any_toList]
    unfold getL at hl
    split at hl
    · rename_i en he
      rw [List.any_eq_true.mpr ⟨en, List.mem_of_find?_eq_some he, List.find?_some he⟩]; rfl
    · split at hl
      · cases hl
      · rename_i z; rw [Bool.not_eq_true] at z; rw [z, Bool.and_false]
  rw [aRefKeyMayBeTheName_at, c]
  refine wpAny_updatePart D ?_
  refine wpAny_bind (wpAny_lookBehind D' (pastItsLine_dict (by rw [List.size_toArray, sizeLine_eq]; omega)) ?_)
  exact wpAny_pure (h _ U1 U2)
/-- a field of an own exception that has its dict -/
theorem set_exc_next {E : Value → Shared → Prop} {Q : Unit → Shared → Prop} {dx : Addr} {es es' : List DictEntry} {n n' : Nat} {news news' : Led} (F : Fr h₀ L s.heap m) (X₀ : K.In h₀) (N : News h₀ L s.heap news) (hx : (x, ox) ∈ news) (hcl : ox.cls = .ref C) (hd : ox.dict = some dx) (hno : notCls ox = true) (_hdm : (dx, dictOf es n) ∈ news)
    (hc : clsIn K C = some cd) (hm : cd.mro = [.ref C, .ref D, .type "Exception", .type "BaseException", .type "object"]) (hh : cd.hasDict = true) (ha : findIn K (.ref C) name = some none) (ho : mroIn K C (.type "object") = some true)
    (hs : findIn K (.ref C) "__setattr__" = some (some (.builtin "object.__setattr__")))
    (hl : (getL name es).isSome = true) (e : (putL name (PyData.keyHash w.params name) (.str name (s.toks + 1)) v es, putN name es n) = (es', n')) (U : Upd dx (dictOf es n) (dictOf es' n') news news') (hz : es'.length ≤ 1000)
    (h : ∀ h', Fr h₀ L h' m → News h₀ L h' news' → Q () { s with heap := h', toks := s.toks + 2 }) :
    wpAny (model prog w) A (setAttr (.ref x) name v) Q E s := by
  have X := X₀.keeps F.keep
  obtain ⟨pre, post, rfl, rfl, a, b⟩ := U.split
  have hx' := (N _ hx).1
  have I : InstAt s.heap x ox C (some (dictOf es n)) := ⟨hx', hcl, hno, by rw [hd]; exact (N (dx, dictOf es n) (by simp)).1⟩
  refine set_plain X I hs (osa_exc (s := { s with toks := s.toks + 1 }) X hx' hcl hc hm ha ho ?_)
  have hx2 : ({ s with toks := s.toks + 1 } : Shared).heap.get? x = some ox := hx'
  refine wpAny_bind (wpAny_pure (wpAny_bind (wpAny_bind (wpAny_loadPart hx2 ?_))))
  rw [hcl]
  have X2 : K.In ({ s with toks := s.toks + 1 } : Shared).heap := X
  refine wpAny_bind ((looks_clsIn X2 hc).here ?_)
  rw [hh, hd]
  refine wpAny_pure (a := some dx) ?_
  show wpAny _ _ (Builtin.ObjectAttr.storeInDict dx (.str name s.toks) name v) _ _ _
  refine store_mine (s := { s with toks := s.toks + 1 }) F N hl a b e hz fun h' F' N' => ?_
  exact h h' F' N'
/-- the first field of an own exception: its dict is made -/
theorem set_exc_first {E : Value → Shared → Prop} {Q : Unit → Shared → Prop} {ws : Array Value} {news : Led} {news' : Addr → Led} (F : Fr h₀ L s.heap m) (X₀ : K.In h₀) (N : News h₀ L s.heap news)
    (hc : clsIn K C = some cd) (hm : cd.mro = [.ref C, .ref D, .type "Exception", .type "BaseException", .type "object"]) (hh : cd.hasDict = true) (ha : findIn K (.ref C) name = some none) (ho : mroIn K C (.type "object") = some true)
    (hs : findIn K (.ref C) "__setattr__" = some (some (.builtin "object.__setattr__")))
    (U : ∀ dx, Upd x { cls := .ref C, data := .fields ws } { cls := .ref C, dict := some dx, data := .fields ws } news (news' dx))
    (h : ∀ dx h', Fr h₀ L h' m → News h₀ L h' ((dx, dictOf [{ hash := PyData.keyHash w.params name, key := .str name (s.toks + 1), val := v }] 1) :: news' dx) → (∀ q ∈ news, q.1 < dx) → Q () { s with heap := h', toks := s.toks + 2 }) :
    wpAny (model prog w) A (setAttr (.ref x) name v) Q E s := by
  have X := X₀.keeps F.keep
  have U9 := U s.heap.objs.size
  obtain ⟨pre, post, e1, e2, a, b⟩ := U9.split
  subst e1
  have hx' := (N (x, _) (by simp; exact .inr (.inl rfl))).1
  have I : InstAt s.heap x { cls := .ref C, data := .fields ws } C none := ⟨hx', rfl, rfl, trivial⟩
  refine set_plain X I hs (osa_exc (s := { s with toks := s.toks + 1 }) X hx' rfl hc hm ha ho ?_)
  have hx2 : ({ s with toks := s.toks + 1 } : Shared).heap.get? x = some { cls := .ref C, data := .fields ws } := hx'
  refine wpAny_bind (wpAny_pure (wpAny_bind (wpAny_bind (wpAny_loadPart hx2 ?_))))
  have X2 : K.In ({ s with toks := s.toks + 1 } : Shared).heap := X
  refine wpAny_bind ((looks_clsIn X2 hc).here ?_)
  rw [hh]
  have F1 := F.push emptyDict
  have N1 := N.push F emptyDict
  have hlt : ∀ q ∈ pre ++ (x, ({ cls := .ref C, data := .fields ws } : Obj)) :: post, q.1 < s.heap.objs.size := fun q hq => Heap.lt_size (N q hq).1
  have hxlt : x < s.heap.objs.size := Heap.lt_size hx'
  obtain ⟨F2, N2⟩ := news_upd (pre := (s.heap.objs.size, emptyDict) :: pre) (post := post) (o := { cls := .ref C, data := .fields ws }) (o' := { cls := .ref C, dict := some s.heap.objs.size, data := .fields ws }) (f := fun o => { o with dict := some s.heap.objs.size }) F1 N1
    (fun p hp => by
      rcases List.mem_cons.mp hp with rfl | hp
      · exact Nat.ne_of_gt hxlt
      · exact a p hp) b rfl rfl
  show wpAny _ _ (alloc emptyDict >>= _) _ _ _
  refine wpAny_bind (wpAny_alloc (wpAny_bind (wpAny_update (N1 (x, { cls := .ref C, data := .fields ws }) (by simp)).1 (wpAny_pure ?_))))
  show wpAny _ _ (Builtin.ObjectAttr.storeInDict s.heap.objs.size (.str name s.toks) name v) _ _ _
  refine store_mine (s := { s with heap := (s.heap.push emptyDict).update x fun o => { o with dict := some s.heap.objs.size }, toks := s.toks + 1 }) (pre := []) (es := []) (n := 0) F2 N2 rfl (fun _ h => nomatch h) (fun p hp => ?_) (es' := [{ hash := PyData.keyHash w.params name, key := .str name (s.toks + 1), val := v }]) (n' := 1) rfl (by simp) fun h' F' N' => ?_
  · rcases List.mem_append.mp hp with hp | hp
    · exact Nat.ne_of_lt (hlt p (List.mem_append_left _ hp))
    · rcases List.mem_cons.mp hp with rfl | hp
      · exact Nat.ne_of_lt hxlt
      · exact Nat.ne_of_lt (hlt p (List.mem_append_right _ (.tail _ hp)))
  · refine h s.heap.objs.size h' F' ?_ hlt
    rw [e2]
    exact N'
end
end
-- Exc3
section
abbrev excW (t : Addr) : Data := .fields #[.ref t, .none, .none, .none, .bool false, .none]
section
variable {M : Model} {A : Around} {E : Value → Shared → Prop} {h : Heap} {g : Array GenState} {d : Drawn} {t : Nat} {os : OsState}
variable {nm q : Str} {C N : Addr} {bs bm : List Value} {hdct : Bool} {sn : List Str} {sub : List Value} {ab : Bool} {col : Option Bool} {dd : Option Addr} {k0 k1 k2 k3 k5 : Option Value} {B newId initId newId2 : String}
theorem exc_check_init {bm0 : List Value} (F : ExcBaseFacts B newId initId bm0) {e : Addr} {oe : Obj} {rest : List Value} {Q : Unit → Shared → Prop}
    (hC : h.get? C = some (excClassObj nm q C N bs bm hdct sn sub ab col dd k0 k1 k2 k3 k5 newId2)) (hB : bm.contains (.type B) = true) (he : h.get? e = some oe) (hcls : oe.cls = .ref C) (hq : Q () ⟨h, g, d, t, os⟩) :
    wpAny M A (checkBuiltinCall initId ⟨.ref e :: rest, []⟩) Q E ⟨h, g, d, t, os⟩ := by
  have hcB : (Value.ref C :: bm).contains (.type B) = true := by rw [List.contains_cons, hB, Bool.or_true]
  have hshort := F.noStar
  simp only [checkBuiltinCall, F.initKind, F.initSplit, F.initRow]
  repeat (first | (with_reducible refine wpAny_loadPart_at he ?_; rw [hcls]) | with_reducible refine wpAny_loadPart_at hC ?_ | (with_reducible refine wpAny_isSubtype_exc hC ?_; rw [hcB]) | wp_step)
  refine wpAny_onRaise ?_
  rw [show ∀ (a b : String) (n : Nat), Bind.check ⟨.positional, "*", B, .self, [⟨"args", .varPos, false⟩]⟩ a b n (List.map (fun x => x.fst) ({ pos := Value.ref e :: rest } : Args).kw) = pure () from
    fun a b n => check_star_args _ _ _ _ _ _]
  exact wpAny_pure hq
end
section
variable {prog : Program} {w : World} {A : Around} {E : Value → Shared → Prop} {s : Shared} {h₀ : Heap} {L x C : Addr} {m : Str → Option Value} {Q : Value → Shared → Prop} {newId : String}
theorem exc_initcall {bm : List Value} {v : Value} {dd : Option Addr} {t0 : Addr} {news : Led} {news' : Addr → Led} (F : Fr h₀ L s.heap m) (XC : ExcAt h₀ C bm newId) (hB : bm.contains (.type "Exception") = true) (N : News h₀ L s.heap news)
    (U : ∀ t, Upd x { cls := .ref C, dict := dd, data := excW t0 } { cls := .ref C, dict := dd, data := excW t } news (news' t))
    (h : ∀ t h', Fr h₀ L h' m → News h₀ L h' ((t, tupO [v]) :: news' t) → (∀ q ∈ news, q.1 < t) → Q .none { s with heap := h' }) :
    wpAny (model prog w) A (call (.builtin "Exception.__init__") [.ref x, v]) Q E s := by
  obtain ⟨hh, g, d, tk, os⟩ := s
  have FB := PySem.F.excBase_Exception
  obtain ⟨nm, q, N₁, bs, sn, sub, ab, col, ddc, k0, k1, k2, k3, k5, hC0⟩ := XC.obj
  have hC := F.keep _ _ hC0
  have U9 := U hh.objs.size
  obtain ⟨pre, post, e1, e2, a, b⟩ := U9.split
  subst e1
  have hx := (N (x, ({ cls := .ref C, dict := dd, data := excW t0 } : Obj)) (by simp)).1
  refine wpAny_call (codeAny_call_builtin FB.init.plain FB.initEntry (exc_check_init FB hC hB hx rfl ?_))
  have hlt : ∀ q ∈ pre ++ (x, ({ cls := .ref C, dict := dd, data := excW t0 } : Obj)) :: post, q.1 < hh.objs.size := fun q hq => Heap.lt_size (N q hq).1
  have hxlt : x < hh.objs.size := Heap.lt_size hx
  have F1 := F.push (tupO [v])
  have N1 := N.push F (tupO [v])
  have hx1 := (N1 (x, ({ cls := .ref C, dict := dd, data := excW t0 } : Obj)) (by simp)).1
  obtain ⟨F2, N2⟩ := news_upd (pre := (hh.objs.size, tupO [v]) :: pre) (post := post) (o := { cls := .ref C, dict := dd, data := excW t0 }) (o' := { cls := .ref C, dict := dd, data := excW hh.objs.size }) (f := Obj.mapFields (·.setIfInBounds 0 (.ref hh.objs.size))) F1 N1
    (fun p hp => by
      rcases List.mem_cons.mp hp with rfl | hp
      · exact Nat.ne_of_gt hxlt
      · exact a p hp) b rfl rfl
  unfold Builtin.«BaseException.__init__»
  dsimp only
  wp_walk
  exact h hh.objs.size _ F2 (by rw [e2]; exact N2) hlt
end
end
-- EInit
section
theorem rows_EInit : hd.heap_39 = hd.heap_39 := by
  k_with "getMethod type:Exception" => (k_here; (refine method_type (by k_asm) (by k_asm) (by exact meta_exc) (by decide +kernel) (by k_dflt k_is) (by k_handed) ?_))
  k_with "call builtin:Exception.__init__" => (k_here; k_dflt (refine exc_initcall (by k_asm) (exc_cls (by k_asm)) (by decide +kernel) (by k_asm) (by intro _; k_upd) ?_); intro _ _ _ _ l9; (try k_lt l9); (try (revert l9; intro _)); (try k_sweep))
  k_with "setAttr ref" => (k_here; k_dflt (refine set_exc_first (C := 64) (D := 39) (by k_asm) (by k_asm) (by k_asm) (by k_is) (by exact rfl) (by exact rfl) (by k_is) (by k_is) (by k_is) (by intro _; k_upd) ?_); intro _ _ _ _ l9; (try k_lt l9); (try (revert l9; intro _)); (try k_sweep))
  k_with "setAttr ref" => (k_here; k_dflt (refine set_exc_next (C := 64) (D := 39) (by k_asm) (by k_asm) (by k_asm) (by k_mem) (by exact rfl) (by exact rfl) (by exact rfl) (by k_mem) (by k_is) (by exact rfl) (by exact rfl) (by k_is) (by k_is) (by k_is) (by k_get) (by k_put) (by k_upd) (by exact Nat.le_of_ble_eq_true rfl) ?_); intro _ _ _; (try k_sweep))
  exact rfl
abbrev exc0 (t : Addr) : Obj := { cls := .ref 64, data := excW t }
abbrev excO (t dx : Addr) : Obj := { cls := .ref 64, dict := some dx, data := excW t }
abbrev faultD (w : World) (msg : Str) (tm : Tok) (spot : Int) (ts k1 k2 : Tok) : Obj :=
  dictOf [{ hash := PyData.keyHash w.params (Str.ofString "message"), key := .str (Str.ofString "message") k1, val := .str msg tm },
    { hash := PyData.keyHash w.params (Str.ofString "spot"), key := .str (Str.ofString "spot") k2, val := .int spot ts }] 2
set_option maxHeartbeats 2000000 in
theorem init_spec {prog : Program} {w : World} {e t0 : Addr} {msg : Str} {spot : Int} {tm ts : Tok} :
    CSpec prog w 2 20 36 [.ref e, .str msg tm, .int spot ts] [(e, exc0 t0)] (fun g => True)
      (fun v tl => v = .none ∧ ∃ (t dx : Addr) (k1 k2 : Tok), @LT.lt Nat _ e t ∧ @LT.lt Nat _ t dx ∧ tl = [(dx, faultD w msg tm spot ts k1 k2), (t, tupO [.str msg tm]), (e, excO t dx)]) := by
  w_top off
  unfold CSpec
  intro dp un gd outer A₀ base g s p loose mean mg mb R B st sz X T N0 hro hd hu hret
  walk_at "c enter"
  repeat' ((fail_if_success (with_reducible show R _ _)); first | (k_unfold; (try dsimp only)) | (k_end; wrow_close) | walk1 | (dsimp only; walk1) | (leave1; walk_say "STEP leave1"; try dsimp only) | fail "no step")
  rename Fr _ _ _ _ => F9
  rename News _ _ _ _ => N9
  rename _ ∧ _ => l9
  refine' spec_end hret F9 N9 ⟨rfl, _, _, _, _, ?_, l9.1, rfl⟩
  assumption
end
-- EMake
section
theorem rows_EMake : hd.heap_39 = hd.heap_39 := by
  k_with_none
  k_with "subscriptTail Name Constant ref int" => ((k_here; (with_reducible show wpAny _ _ (subscriptTail _ _ (Value.ref _) (Value.int _ _)) _ _ _); (with_unfolding_all refine item_litK (by is_list) (by decide) (by decide) (by rfl) ?_ (by with_unfolding_all rfl))))
  k_with "binaryOp Mult int int" => (refine mul_int ?_ (IntMulOk.of_left (intBits_fmod (by decide) (by decide))))
  k_with "k_room" => (((try simp only [depth_mark, depth_under_make, depth_under_kw, depth_in1, depth_deeper, depth_caller]); (simp only [recursionLimit]; omega)))
  k_with "k_units" => (((try simp only [units_in1, units_deeper, Around.mark_units, units_caller]); (try dsimp only); first | exact line_of (by with_reducible assumption) (by exact Nat.le_of_ble_eq_true rfl) | (have hcL9 := cLine_is; omega)))
  k_with "k_in" => (exact Frag.In.keeps (by with_reducible assumption) (Fr.keep (by with_reducible assumption)))
  k_with "k_ne" => ((refine neN ?_; (try dsimp only); first | exact Nat.ne_of_lt (by k_extra "c lt") | exact Nat.ne_of_gt (by k_extra "c lt") | exact ne_l1 (by k_extra "c lt") | exact ne_l2 (by k_extra "c lt") | exact ne_r1 (by k_extra "c lt") | exact ne_r2 (by k_extra "c lt") | omega))
  k_with "c use" => (((case k1 => k_asm); (case k2 => k_asm); (case k3 => k_asm); (case k4 => k_asm); (case k5 => k_asm); (case k6 => exact rfl); (case k7 => exact rfl); (case h1 => k_extra "c pre"); (case h2 => k_extra "c part"); (case h4 => k_extra "c dp"); (case h5 => k_extra "c un")))
  k_with "until iter" => (repeat' ((fail_if_success (with_reducible show wpAny _ _ (pyIter _) _ _ _)); first | (k_unfold; (try dsimp only)) | (k_end; wrow_close) | walk1 | (dsimp only; walk1) | (leave1; walk_say "STEP leave1"; try dsimp only) | fail "no step"))
  k_with "until while" => (repeat' ((fail_if_success (with_reducible show wpAny _ _ (exec (Stmt.While _ _ _ _) _) _ _ _)); first | (k_unfold; (try dsimp only)) | (k_end; wrow_close) | walk1 | (dsimp only; walk1) | (leave1; walk_say "STEP leave1"; try dsimp only) | fail "no step"))
  k_with "until kswend" => (repeat' ((fail_if_success (with_reducible show KswEnd _ _ _ _ _ _ _ _ _ _ _ _)); first | (k_unfold; (try dsimp only)) | (k_end; wrow_close) | walk1 | (dsimp only; walk1) | (leave1; walk_say "STEP leave1"; try dsimp only) | fail "no step"))
  k_with "ite" => ((k_closed; first | with_reducible refine ite_pos (by decide) ?_ | with_reducible refine ite_neg (by decide) ?_))
  k_with "subscriptTail Call" => ((k_here; k_dflt (refine kba_turn (value' := PySem.Expr.Name (PySem.Str.ofString "_") ⟨0, 0, 0, 0⟩) (fun _ => rfl) ?_)))
  k_with "subscriptTail Subscript" => ((k_here; (first | (with_reducible show wpAny _ _ (subscriptTail _ _ (Value.ref _) _) _ _ _) | (with_reducible show wpAny _ _ (subscriptTail _ _ (Value.str _ _) (Value.ref _)) _ _ _)); k_dflt (refine kba_turn (value' := PySem.Expr.Name (PySem.Str.ofString "_") ⟨0, 0, 0, 0⟩) (fun _ => rfl) ?_)))
  k_with "c dp" => (((try dsimp only); first | exact dp_of (by with_reducible assumption) (by exact Nat.le_of_ble_eq_true rfl) | exact dp_of1 (by with_reducible assumption) (by exact Nat.le_of_ble_eq_true rfl) | omega))
  k_with "c un" => (((try dsimp only); first | exact un_of (by with_reducible assumption) (by exact Nat.le_of_ble_eq_true rfl) | exact un_of1 (by with_reducible assumption) (by exact Nat.le_of_ble_eq_true rfl) | omega))
  k_with "c a" => (with_reducible assumption)
  k_with "c lt" => (first | with_reducible assumption | exact a0 (by k_extra "c a") | exact a1 (by k_extra "c a") | exact a2 (by k_extra "c a") | exact a3 (by k_extra "c a") | exact a4 (by k_extra "c a") | exact a5 (by k_extra "c a") | exact a6 (by k_extra "c a") | exact a7 (by k_extra "c a") | exact a8 (by k_extra "c a") | exact a9 (by k_extra "c a") | exact a10 (by k_extra "c a") | exact a11 (by k_extra "c a") | exact a12 (by k_extra "c a") | exact a13 (by k_extra "c a"))
  k_with "c p" => (first | with_reducible assumption | k_ne | exact Nat.le_of_ble_eq_true rfl | decide | omega | assumption | exact rfl)
  k_with "c ro" => (first | exact fun _ _ _ => trivial | (intro g' st' hr'; have hro9 := st' _ _ (by with_reducible assumption); exact ⟨_, _, _, _, _, hro9⟩))
  k_with "c fin2" => (((try case p1 => k_extra "c p"); (try case p2 => k_extra "c p"); (try case p3 => k_extra "c p"); (try case p4 => k_extra "c p"); (try case p5 => k_extra "c p"); (case h3 => k_extra "c ro"); k_whole))
  k_with "c fin" => ((k_extra "c use"; k_extra "c fin2"))
  k_with "c enter" => ((refine spec_enter (by assumption) (by assumption) (by assumption) (by assumption) (by assumption) (by assumption) (by k_is) (by k_is) (by first | exact room_of (by with_reducible assumption) | (simp only [recursionLimit]; omega)) (by first | exact BindsTo.of_eq rfl | exact binds_K (Frag.In.keeps (by assumption) (by assumption)) rfl (by k_is) rfl rfl rfl) (by exact locs rfl) ?_ (by exact rfl) (by exact rfl) (by exact rfl) (by decide); intro _ _ _ _; (try dsimp only); (try k_fold)))
  k_with "c part" => (first | exact Part.nil | (apply Part.out; (· k_mem); (· k_extra "c part")) | (apply Part.stay; (· k_all); (· k_extra "c part")) | (refine part_tail ?_; k_extra "c tail"))
  k_with "c tail" => (first | exact List.forall_mem_nil _ | (refine List.forall_mem_cons.mpr ⟨?_, ?_⟩; (· k_extra "c apart"); (· k_extra "c tail")))
  k_with "c apart" => (first | exact OwnOff.ne (by assumption) (by k_memK) | (refine allLt_apart ?_; k_extra "c conj"))
  k_with "c conj" => (first | assumption | exact And.right (by k_extra "c conj"))
  k_with "c adr" => (first | exact List.forall_mem_nil _ | (refine List.forall_mem_cons.mpr ⟨?_, ?_⟩; (· k_memK); (· k_extra "c adr")))
  k_with "c pre" => (first | exact List.forall_mem_nil _ | (refine List.forall_mem_cons.mpr ⟨?_, ?_⟩; (· k_mem); (· k_extra "c pre")))
  k_with "call builtin:len" => ((k_here; (with_reducible show wpAny _ _ (call (Value.builtin "len") [Value.ref _]) _ _ _); (with_unfolding_all refine len_mine (by is_list) (by (first | omega | (simp only [List.length_cons, List.length_nil, List.length_append]; omega))) ?_)))
  k_with "subscriptTail" => ((k_here; (with_reducible show wpAny _ _ (subscriptTail _ _ (Value.ref _) (Value.int _ _)) _ _ _); (with_unfolding_all refine item_open (by is_list) (by omega) (by omega) (by omega) ?_ (by with_unfolding_all rfl)); intro _ _ _))
  k_with "call type:range" => ((k_here; (with_reducible show wpAny _ _ (call _ [_]) _ _ _); (with_unfolding_all refine range1_rows (by k_asm) (by k_asm) ?_); intro _ _ _ _ _ _ _ _ _; (try k_sweep)))
  k_with "call builtin:list.append" => ((k_here; (with_reducible show wpAny _ _ (call (Value.builtin _) [Value.ref _, _]) _ _ _); k_dflt (refine append_K (by k_asm) (by k_asm) (by k_upd) ?_ (by first | exact small_size (by assumption) | size_fits)); intro _ _ _; (try k_sweep)))
  k_with "binaryOp Add str str" => ((k_here; (refine add_mine ?_ (by (first | omega | (simp only [Str.length_append]; omega))) (by (first | omega | (simp only [Str.length_append]; omega)))); intro _ _))
  k_with "call type:list" => ((k_here; (with_reducible show wpAny _ _ (call (Value.type "list") [Value.ref _]) _ _ _); k_dflt (refine list_mine (by k_asm) (by k_asm) (by k_mem) (by omega) ?_); intro _ _ _ _ _ l9; (try k_lt l9); (try (revert l9; intro _)); (try k_sweep)))
  k_with "callWith ref" => ((k_here; k_dflt (first | refine callWith_K (by with_reducible assumption) (by k_is) ?_ | refine callWith_K0 (by k_in) (by k_is) ?_)))
  exact rfl
theorem ar_under (dp un : Nat) (gd : Option (List Code)) (fr : List Env) (rest : List Value) : (ar dp un gd fr).under (.builtin "type.__call__" ⟨.ref 64 :: rest, []⟩) = ar (dp + 1) (un + 1) gd fr := rfl
section
variable {prog : Program} {w : World} {A₀ : Around} {E : Value → Shared → Prop} {s : Shared} {base h₀ : Heap} {outer : List Env} {env : Env} {L : Addr} {m : Str → Option Value}
  {p : Program} {loose : List Str} {mean : ExcName → Option Value} {mg mb : Str → Option Value} {pre news rest : Led} {dp un d u : Nat} {gd : Option (List Code)} {f : Addr} {args : List Value} {ro : Heap → Prop} {Post : Value → Led → Prop} {R : Result → Shared → Prop}
set_option maxHeartbeats 2000000 in
/-- the frame rule at a call, for code -/
theorem use_code (B : Below A₀ base outer h₀) (F : Fr h₀ L s.heap m) (X : (hd.heap_39 w.params).In h₀) (N : News h₀ L s.heap news) (T : Top p loose mean mg mb h₀) (hf : env.frame = some L) (hk : env.scope.kind = .function)
    (C : CSpec prog w d u f args pre ro Post) (hpre : ∀ q ∈ pre, q ∈ news) (hrest : Part news pre rest) (hro : ∀ g : Heap, h₀.StaysIn g → (∀ q ∈ rest, g.get? q.1 = some q.2) → ro g) (hd : dp + d < 900) (hu : un + u < 9000)
    (ret : ∀ v h' tk' tl, Fr h₀ L h' m → News h₀ L h' (tl ++ rest) → Apart tl rest → Post v tl → R (.ok (.ret v)) { s with heap := h', toks := tk' }) :
    codeAny (model prog w) (ar dp un gd (env :: outer)) (.call (.ref f) ⟨args, []⟩) R s := by
  have Np : News h₀ L s.heap pre := fun q hq => N q (hpre q hq)
  obtain ⟨FG, BG, st, -⟩ := groundX (R := fun _ _ => True) (A := ar dp un gd (env :: outer)) B F Np rfl hf hk
  have hg : ∀ q ∈ rest, (hideAll s.heap (pre.map (·.1))).get? q.1 = some q.2 := fun q hq => hideAll_get _ (N q (hrest.rest q hq).1).1 fun hm => by
    obtain ⟨p', hp', e⟩ := List.mem_map.mp hm
    exact (hrest.rest q hq).2 p' hp' e
  refine C dp un gd (env :: outer) _ base _ s p loose mean mg mb _ BG (fun b o e => of_hideAll _ e) (Nat.le_of_eq (hideAll_size _ _)) (X.keeps st) (T.keeps st) (fun q hq => ⟨(Np q hq).1, hideAll_none _ (List.mem_map_of_mem hq)⟩) (hro _ st hg) hd hu ?_
  intro v h' tk' tl st' ntl P
  obtain ⟨oL, es, ep, hL, r1, r2, r3⟩ := FG.ns
  refine ret v h' tk' tl ⟨⟨oL, es, ep, st' _ _ hL, r1, r2, r3⟩, fun b o e => st' _ _ (st _ _ e), F.above⟩ (fun q hq => ?_) (fun q hq p' hp' e => ?_) P
  · rcases List.mem_append.mp hq with hq | hq
    · refine ⟨(ntl q hq).1, fun e => ?_, ?_⟩
      · have := (ntl q hq).2; rw [e, hL] at this; cases this
      · cases e : h₀.get? q.1 with
        | none => rfl
        | some o => have := st _ _ e; rw [(ntl q hq).2] at this; cases this
    · exact ⟨st' _ _ (hg q hq), (N q (hrest.rest q hq).1).2⟩
  · have := hg p' hp'; rw [e, (ntl q hq).2] at this; cases this
set_option maxHeartbeats 2000000 in
/-- GrammarFault(msg, spot) -/
theorem exc_make {msg : Str} {tm : Tok} {spot : Int} {ts : Tok} {Q : Value → Shared → Prop} (B : Below A₀ base outer h₀) (F : Fr h₀ L s.heap m) (X : (hd.heap_39 w.params).In h₀) (N : News h₀ L s.heap news) (T : Top p loose mean mg mb h₀) (hf : env.frame = some L) (hk : env.scope.kind = .function)
    (hd : dp + 4 < 900) (hu : un + 30 < 9000)
    (ret : ∀ e t dx k1 k2 h' tk', Fr h₀ L h' m → News h₀ L h' ((e, excO t dx) :: (dx, faultD w msg tm spot ts k1 k2) :: (t, tupO [.str msg tm]) :: news) → (∀ q ∈ news, @Ne Nat q.1 e ∧ @Ne Nat q.1 t ∧ @Ne Nat q.1 dx) → @LT.lt Nat _ e t → @LT.lt Nat _ t dx → Q (.ref e) { s with heap := h', toks := tk' }) :
    wpAny (model prog w) (ar dp un gd (env :: outer)) (call (.ref 64) [.str msg tm, .int spot ts]) Q E s := by
  obtain ⟨hh, g, dd, tk, os⟩ := s
  obtain ⟨nm, q, N₁, bs, sn, sub, ab, col, ddc, k0, k1, k2, k3, k5, hC0⟩ := (exc_cls X).obj
  have hC := F.keep _ _ hC0
  have Xs := X.keeps F.keep
  have hi : Looks (model prog w) hh (typeLookup (.ref 64) "__init__") (some (.ref 36)) := looks_findIn Xs (by k_is)
  have hb : ∀ self, Looks (model prog w) hh (bindSpecial (.ref 36) self) (.ref 36, [self]) := fun self => bind_fn Xs self (by k_is)
  have F1 := F.push (tupO [.str msg tm, .int spot ts])
  have N1 := N.push F (tupO [.str msg tm, .int spot ts])
  have F2 := F1.push (exc0 hh.objs.size)
  have N2 := N1.push F1 (exc0 hh.objs.size)
  rw [Heap.size_push] at N2
  refine wpAny_call (exc_core PySem.F.excBase_Exception hC (by decide +kernel) (by decide +kernel) (by decide +kernel) hi hb (by rw [sizeLine_eq]; exact Nat.le_of_ble_eq_true rfl) ?_)
  rw [ar_under]
  refine use_code (s := ⟨(hh.push (tupO [.str msg tm, .int spot ts])).push (exc0 hh.objs.size), g, dd, tk, os⟩) (rest := (hh.objs.size, tupO [.str msg tm, .int spot ts]) :: news) B F2 X N2 T hf hk (init_spec (t0 := hh.objs.size)) ?h1 ?h2 (fun _ _ _ => trivial) (by omega) (by omega) ?_
  case h1 => intro q hq; rcases List.mem_cons.mp hq with rfl | hq; exact .head _; cases hq
  case h2 =>
    refine .out (.head _) (.tail fun q hq p hp => ?_)
    rcases List.mem_cons.mp hp with rfl | hp
    · rcases List.mem_cons.mp hq with rfl | hq
      · exact Nat.succ_ne_self _
      · exact Nat.ne_of_gt (Nat.lt_succ_of_lt (Heap.lt_size (N q hq).1))
    · cases hp
  intro v h' tk' tl F' N' ap P
  obtain ⟨rfl, t, dx, c1, c2, l1, l2, rfl⟩ := P
  refine ⟨rfl, ret (hh.objs.size + 1) t dx c1 c2 h' tk' F' (fun q hq => ?_) (fun q hq => ?_) l1 l2⟩
  · rcases List.mem_cons.mp hq with rfl | hq
    · exact N' _ (by simp)
    · rcases List.mem_cons.mp hq with rfl | hq
      · exact N' _ (by simp)
      · rcases List.mem_cons.mp hq with rfl | hq
        · exact N' _ (by simp)
        · exact N' _ (by simp [hq])
  · have h1 := fun z hz => ap z hz q (.tail _ hq)
    exact ⟨h1 _ (.tail _ (.tail _ (.head _))), h1 _ (.tail _ (.head _)), h1 _ (.head _)⟩
end
end
-- Leave
section
/-- the value to raise is a fault with its dict -/
def RaisedIs (E : Value → Shared → Prop) (v : Value) (s₁ : Shared) : Prop :=
  ∃ e t dx, v = .ref e ∧ ExcAt s₁.heap 64 bmG "Exception.__new__" ∧ s₁.heap.get? e = some (excO t dx) ∧ E (.ref e) s₁
theorem Raise_mine {M : Model} {A : Around} {E : Value → Shared → Prop} {s : Shared} {env : Env} {x : PySem.Expr} {pos : PySem.Pos} {Q : Flow → Shared → Prop} (hh : A.handled = none)
    (h : wpAny M A (eval x env) (RaisedIs E) E s) : wpAny M A (exec (.Raise (some x) none pos) env) Q E s := by
  show wpAny M A (do standAt pos; raiseStmt env (some (do let v ← eval x env; standAt pos; pure v)) none) Q E s
  refine wpAny_bind (wpAny_standAt ?_)
  unfold raiseStmt
  refine wpAny_bind (wpAny_bind (wpAny_mono h (fun v s₁ h₁ => wpAny_bind (wpAny_standAt (wpAny_pure ?_))) fun _ _ x => x))
  obtain ⟨e, t, dx, rfl, XC, he, hE⟩ := h₁
  obtain ⟨nm, q, N₁, bs, sn, sub, ab, col, ddc, k0, k1, k2, k3, k5, hC⟩ := XC.obj
  have hcB : (Value.ref 64 :: bmG).contains (.type "BaseException") = true := by decide +kernel
  obtain ⟨hp, g, d, tk, os⟩ := s₁
  repeat (first | with_reducible refine wpAny_loadPart_at he ?_ | with_reducible refine wpAny_loadPart_at hC ?_ | (with_reducible refine wpAny_isSubtype_exc hC ?_; rw [hcB]) | wp_step)
  exact wpAny_raiseNew_none hh hE
/-- a fault on its way out of the frames -/
def RaisedX (base g : Heap) (outer : List Env) (e t dx : Addr) (tl : Led) (h' : Heap) : Prop :=
  (∃ vs, RaisedS base g outer e (.ref 64) t vs tl h') ∧ g.UpToSlots h' ∧ ∃ oe, h'.get? e = some oe ∧ oe.dict = some dx
section
variable {M : Model} {A : Around} {E : Value → Shared → Prop} {s' : Shared} {base g g₂ h : Heap} {outer : List Env} {L a e t dx : Addr} {m : Str → Option Value} {name : Str} {scope : Scope} {cd : Value} {Q : Unit → Shared → Prop} {news tl : Led} {vs : List Value}
theorem leave_mine (K : Below A base outer g) (F : Fr g L s'.heap m) (N : News g L s'.heap news) (he : (e, excO t dx) ∈ news) (ht : (t, tupO vs) ∈ news) (htl : ∀ q ∈ tl, q ∈ news ∧ @Ne Nat q.1 e ∧ @Ne Nat q.1 t)
    (hQ : ∀ h', RaisedX base g outer e t dx tl h' → Q () { s' with heap := h' }) (hk : scope.kind = .function := by rfl) :
    wpAny M (A.deeper (envOf name scope L a cd)) (leaving (envOf name scope L a cd) (.ref e)) Q E s' := by
  have K' := K.push (name := name) (a := a) (cd := cd) F hk
  have hin : ∀ env ∈ (envOf name scope L a cd :: outer), ∀ b, env.frame = some b → b ∈ (envOf name scope L a cd :: outer).filterMap (·.frame) ++ [e, t] := fun env he b hb => List.mem_append_left _ (List.mem_filterMap.mpr ⟨env, he, hb⟩)
  have he' := N _ he
  have ht' := N _ ht
  have nob : ∀ q ∈ news, base.get? q.1 = none := fun q hq => fresh_of_stays K.stays (N q hq).2.2
  have st : base.StaysIn (hideAll s'.heap ((envOf name scope L a cd :: outer).filterMap (·.frame) ++ [e, t])) := fun b o q => hideAll_get _ (K'.stays b o q) fun hm => by
    rcases List.mem_append.mp hm with hm | hm
    · rw [(K'.frames.mem hm).1] at q; cases q
    · rcases List.mem_cons.mp hm with rfl | hm
      · rw [nob _ he] at q; cases q
      · rcases List.mem_cons.mp hm with rfl | hm
        · rw [nob _ ht] at q; cases q
        · cases hm
  have sg : ∀ b o, g.get? b = some o → b ∉ outer.filterMap (·.frame) → (hideAll s'.heap ((envOf name scope L a cd :: outer).filterMap (·.frame) ++ [e, t])).get? b = some o := fun b o q nm => hideAll_get _ (F.keep b o q) fun hm => by
    rcases List.mem_append.mp hm with hm | hm
    · rcases kts_mem hm with z | z
      · rw [z, kts_self F] at q; cases q
      · exact nm z
    · rcases List.mem_cons.mp hm with rfl | hm
      · rw [he'.2.2] at q; cases q
      · rcases List.mem_cons.mp hm with rfl | hm
        · rw [ht'.2.2] at q; cases q
        · cases hm
  have hl : ∀ q ∈ tl, (hideAll s'.heap ((envOf name scope L a cd :: outer).filterMap (·.frame) ++ [e, t])).get? q.1 = some q.2 ∧ g.get? q.1 = none ∧ base.get? q.1 = none := fun q hq => by
    obtain ⟨hq1, hq2, hq3⟩ := htl q hq
    refine ⟨hideAll_get _ (N q hq1).1 fun hm => ?_, (N q hq1).2.2, nob q hq1⟩
    rcases List.mem_append.mp hm with hm | hm
    · obtain ⟨env, hen, hf⟩ := List.mem_filterMap.mp hm
      rcases List.mem_cons.mp hen with rfl | hen
      · exact (N q hq1).2.1 (Option.some.inj hf).symm
      · obtain ⟨o, ho, _⟩ := (K.frames.mem (List.mem_filterMap.mpr ⟨env, hen, hf⟩)).2
        rw [(N q hq1).2.2] at ho; cases ho
    · rcases List.mem_cons.mp hm with z | hm
      · exact hq2 z
      · rcases List.mem_cons.mp hm with z | hm
        · exact hq3 z
        · cases hm
  have hme : e ∈ (envOf name scope L a cd :: outer).filterMap (·.frame) ++ [e, t] := by simp
  have hmt : t ∈ (envOf name scope L a cd :: outer).filterMap (·.frame) ++ [e, t] := by simp
  refine wpAny_mono (keeps_any (keeps_leaving _ _) (wpAny_leaving_firstW (a0 := .ref t) (Q := fun _ s₂ => ∃ h', s₂ = { s' with heap := h' } ∧ Heap.LeftW (hideAll s'.heap ((envOf name scope L a cd :: outer).filterMap (·.frame) ++ [e, t])) (envOf name scope L a cd :: outer) e (.ref 64) (.ref t) s'.heap h') K'.stack (funFrames_hide K'.frames hin) rfl he'.1
    (fun b o q => of_hideAll _ q) (hideAll_none _ hme) rfl rfl rfl fun h' hL => ⟨h', rfl, hL⟩)) (fun u s₂ hz => ?_) (fun e' s₂ hz => hz.1)
  obtain ⟨⟨h', rfl, k1, ⟨_, _, k2⟩, k3, k4⟩, dk⟩ := hz
  have fl : Heap.FlyingW (hideAll s'.heap ((envOf name scope L a cd :: outer).filterMap (·.frame) ++ [e, t])) outer e (.ref 64) (.ref t) h' := ⟨k1, hideAll_none _ hme, k2, k3⟩
  obtain ⟨oe, hoe, hoc⟩ := fl.there
  refine hQ h' ⟨⟨vs, ⟨⟨_, st, sg, hl, fl, hideAll_none _ hmt⟩, Heap.TupAt.of_slots ⟨_, _, ht'.1, rfl, rfl⟩ k4⟩⟩, (Heap.UpToSlots.of_keeps F.keep).trans k4, oe, hoe, ?_⟩
  exact dict_at dk he'.1 hoe
/-- the fault goes on out of one more frame -/
theorem leave_on_mine (K : Below A base outer g) (F : Fr g L g₂ m) (R : RaisedX base g₂ (envOf name scope L a cd :: outer) e t dx tl s'.heap)
    (hQ : ∀ h', RaisedX base g outer e t dx tl h' → Q () { s' with heap := h' }) :
    wpAny M (A.deeper (envOf name scope L a cd)) (leaving (envOf name scope L a cd) (.ref e)) Q E s' := by
  obtain ⟨⟨vs, R⟩, hsm, oe, hoe, hod⟩ := R
  refine wpAny_mono (keeps_any (keeps_leaving _ _) (leave_onS (Q := fun _ s₂ => ∃ h', s₂ = { s' with heap := h' } ∧ RaisedS base g outer e (.ref 64) t vs tl h' ∧ g.UpToSlots h') K F R hsm fun h' x _ y => ⟨h', rfl, x, y⟩)) (fun u s₂ hz => ?_) (fun e' s₂ hz => hz.1)
  obtain ⟨⟨h', rfl, x, y⟩, dk⟩ := hz
  obtain ⟨⟨B, _, _, _, hfl, _⟩, _⟩ := id x
  obtain ⟨oe', hoe', _⟩ := hfl.there
  exact hQ h' ⟨⟨vs, x⟩, y, oe', hoe', (dict_at dk hoe hoe').trans hod⟩
end

/-- a contract that may end in a fault -/
def CSpecX (prog : Program) (w : World) (d u : Nat) (f : Addr) (args : List Value) (pre : Led) (ro : Heap → Prop) (Post : Value → Led → Prop) (PostE : Addr → Led → Prop) : Prop :=
  ∀ (dp un : Nat) (gd : Option (List Code)) (outer : List Env) (A₀ : Around) (base g : Heap) (s : Shared) (p : Program) (loose : List Str) (mean : ExcName → Option Value) (mg mb : Str → Option Value) (R : Result → Shared → Prop),
    Below A₀ base outer g → g.StaysIn s.heap → g.objs.size ≤ s.heap.objs.size → (hd.heap_39 w.params).In g → Top p loose mean mg mb g → (∀ q ∈ pre, s.heap.get? q.1 = some q.2 ∧ g.get? q.1 = none) → ro g →
    dp + d < 900 → un + u < 9000 →
    (∀ v h' tk' tl, g.StaysIn h' → (∀ q ∈ tl, h'.get? q.1 = some q.2 ∧ g.get? q.1 = none) → Post v tl → R (.ok (.ret v)) { s with heap := h', toks := tk' }) →
    (∀ e t dx h' tk' tl, RaisedX base g outer e t dx tl h' → PostE dx tl → R (.error (.ref e)) { s with heap := h', toks := tk' }) →
    codeAny (model prog w) (ar dp un gd outer) (.call (.ref f) ⟨args, []⟩) R s
theorem CSpec.toX {prog : Program} {w : World} {d u : Nat} {f : Addr} {args : List Value} {pre : Led} {ro : Heap → Prop} {Post : Value → Led → Prop} (C : CSpec prog w d u f args pre ro Post) (PostE : Addr → Led → Prop) : CSpecX prog w d u f args pre ro Post PostE := by
  intro dp un gd outer A₀ base g s p loose mean mg mb R B st sz X T N0 hro hd hu hret _
  exact C dp un gd outer A₀ base g s p loose mean mg mb R B st sz X T N0 hro hd hu hret
theorem below_ar {A₀ : Around} {base g : Heap} {outer : List Env} (B : Below A₀ base outer g) (dp un : Nat) (gd : Option (List Code)) : Below (ar dp un gd outer) base outer g := ⟨rfl, B.stays, B.frames⟩
/-- an end in a fault, right where it is raised -/
theorem raise_end {M : Model} {A₀ : Around} {dp un : Nat} {gd : Option (List Code)} {s : Shared} {base g h : Heap} {outer : List Env} {L a e t dx : Addr} {m : Str → Option Value} {name : Str} {scope : Scope} {cd : Value} {news tl : Led} {vs : List Value} {tk : Nat} {R : Result → Shared → Prop} {PostE : Addr → Led → Prop} {E' : Value → Shared → Prop}
    (herr : ∀ e t dx h' tk' tl, RaisedX base g outer e t dx tl h' → PostE dx tl → R (.error (.ref e)) { s with heap := h', toks := tk' })
    (B : Below A₀ base outer g) (F : Fr g L h m) (N : News g L h news) (he : (e, excO t dx) ∈ news) (ht : (t, tupO vs) ∈ news) (htl : ∀ q ∈ tl, q ∈ news ∧ @Ne Nat q.1 e ∧ @Ne Nat q.1 t) (P : PostE dx tl) (hk : scope.kind = .function) :
    wpAny M ((ar dp un gd outer).deeper (envOf name scope L a cd)) (leaving (envOf name scope L a cd) (.ref e)) (fun _ s'' => R (.error (.ref e)) s'') E' { s with heap := h, toks := tk } :=
  leave_mine (s' := { s with heap := h, toks := tk }) (below_ar B dp un gd) F N he ht htl (fun h' x => herr e t dx h' tk tl x P) hk
end
-- Caught
section
def DictIs (h : Heap) (e dx : Addr) : Prop := ∃ oe, h.get? e = some oe ∧ oe.dict = some dx
theorem DictIs.on {h h' : Heap} {e dx : Addr} {o : Obj} (x : DictIs h e dx) (k : DictKept h h') (ho : h'.get? e = some o) : DictIs h' e dx := by
  obtain ⟨oe, a, b⟩ := x
  exact ⟨o, ho, (dict_at k a ho).trans b⟩
section
variable {M : Model} {A : Around} {E : Value → Shared → Prop} {s : Shared} {B : Heap} {env : Env} {outer l : List Env} {L e t dx : Addr} {cls a0 : Value} {Q : Unit → Shared → Prop}
theorem looks_D (hfr : A.frames = some (env :: outer)) (hf : env.frame = some L) (hfl : Heap.FlyingW B (env :: outer) e cls a0 s.heap) (hd : DictIs s.heap e dx)
    (hQ : ∀ h', Heap.HeldW B (env :: outer) e cls a0 L h' → s.heap.UpToSlots h' → DictIs h' e dx → Q () { s with heap := h' }) : wpAny M A (noteFrame (.ref e) env) Q E s := by
  refine wpAny_mono (keeps_any (keeps_noteFrame _ _) (wpAny_looks_onW (Q := fun _ s₂ => ∃ h', s₂ = { s with heap := h' } ∧ Heap.HeldW B (env :: outer) e cls a0 L h' ∧ s.heap.UpToSlots h') hfr hf hfl fun h' x y => ⟨h', rfl, x, y⟩)) (fun u s₂ hz => ?_) (fun e' s₂ hz => hz.1)
  obtain ⟨⟨h', rfl, x, y⟩, dk⟩ := hz
  obtain ⟨ob, hob, _⟩ := x.there
  exact hQ h' x y (hd.on dk hob)
theorem lands_D (hh : Heap.HeldW B l e cls a0 L s.heap) (hd : DictIs s.heap e dx)
    (hQ : ∀ h', Heap.FlyingW B l e cls a0 h' → s.heap.UpToSlots h' → DictIs h' e dx → Q () { s with heap := h' }) : wpAny M A (setFlight (.ref e) none) Q E s := by
  refine wpAny_mono (keeps_any (keeps_setFlight _ _) (wpAny_landsW (Q := fun _ s₂ => ∃ h', s₂ = { s with heap := h' } ∧ Heap.FlyingW B l e cls a0 h' ∧ s.heap.UpToSlots h') hh fun h' x y => ⟨h', rfl, x, y⟩)) (fun u s₂ hz => ?_) (fun e' s₂ hz => hz.1)
  obtain ⟨⟨h', rfl, x, y⟩, dk⟩ := hz
  obtain ⟨ob, hob, _⟩ := x.there
  exact hQ h' x y (hd.on dk hob)
theorem again_D (hh : Heap.FlyingW B l e cls a0 s.heap) (hd : DictIs s.heap e dx)
    (hQ : ∀ h', Heap.FlyingW B l e cls a0 h' → s.heap.UpToSlots h' → DictIs h' e dx → Q () { s with heap := h' }) : wpAny M A (setFlight (.ref e) none) Q E s := by
  refine wpAny_mono (keeps_any (keeps_setFlight _ _) (lands_againW (Q := fun _ s₂ => ∃ h', s₂ = { s with heap := h' } ∧ Heap.FlyingW B l e cls a0 h' ∧ s.heap.UpToSlots h') hh fun h' x y => ⟨h', rfl, x, y⟩)) (fun u s₂ hz => ?_) (fun e' s₂ hz => hz.1)
  obtain ⟨⟨h', rfl, x, y⟩, dk⟩ := hz
  obtain ⟨ob, hob, _⟩ := x.there
  exact hQ h' x y (hd.on dk hob)
end
section
variable {prog : Program} {w : World} {A₀ : Around} {E : Value → Shared → Prop} {s' : Shared} {base g G : Heap} {outer : List Env} {L a e t dx : Addr} {m : Str → Option Value} {name : Str} {scope : Scope} {cd : Value}
  {n : Str} {b₀ : Stmt} {suite : List Stmt} {pos np : PySem.Pos} {hrestH : List ExceptHandler} {Q : Flow → Shared → Prop} {tl rest : Led}
  {p : Program} {loose : List Str} {mean : ExcName → Option Value} {mg mb : Str → Option Value} {x : Str}
/-- a fault is caught by its own class, with its dict -/
theorem caught_mine (R : RaisedX base G (envOf name scope L a cd :: outer) e t dx tl s'.heap) (F : Fr g L G m) (K : Below A₀ base outer g) (XB : (hd.heap_39 w.params).In base) (TB : Top p loose mean mg mb base)
    (D : KtsDicts (outer.filterMap (·.frame)) g) (hrest : ∀ q ∈ rest, G.get? q.1 = some q.2 ∧ g.get? q.1 = none ∧ q.1 ≠ L)
    (ex : nsIn (hd.heap_39 w.params) mainGlobals x = some (some (.ref 64)))
    (k : ∀ h' g' tk oe, KtsTurn (outer.filterMap (·.frame)) g g' → Fr g' L h' (fun y => if y = n then some (.ref e) else m y) → News g' L h' ((e, oe) :: tl ++ rest) → oe.cls = .ref 64 → oe.dict = some dx → (∃ ws, oe.data = .fields ws) →
      Below A₀ base outer g' → (hd.heap_39 w.params).In g' → Top p loose mean mg mb g' → KtsDicts (outer.filterMap (·.frame)) g' →
      wpAny (model prog w) ((A₀.deeper (envOf name scope L a cd)).mark (some (.ref e))) (execs (b₀ :: suite) (envOf name scope L a cd))
        (fun f s₄ => wpAny (model prog w) (A₀.deeper (envOf name scope L a cd)) (do bindName (envOf name scope L a cd) n .none; unbindBehindTheSuite (envOf name scope L a cd) n pos) (fun _ s₅ => Q f s₅) E s₄)
        (AsSuiteRaised (model prog w) ((A₀.deeper (envOf name scope L a cd)).mark (some (.ref e))) (envOf name scope L a cd) n pos (notedBy (model prog w) ((A₀.deeper (envOf name scope L a cd)).mark (some (.ref e))) (envOf name scope L a cd) (cameBackBy (model prog w) (A₀.deeper (envOf name scope L a cd)) (envOf name scope L a cd) E)))
        { s' with heap := h', toks := tk })
    (hk : scope.kind = .function := by rfl) (hlo : (envOf name scope L a cd).kindOf n = some .local := by rfl) (hx : (envOf name scope L a cd).kindOf x = some .globalImplicit := by rfl) (hd' : (x == ("__debug__" : Str)) = false := by decide) :
    wpAny (model prog w) (A₀.deeper (envOf name scope L a cd)) (noteFrame (.ref e) (envOf name scope L a cd))
      (fun _ s₂ => wpAny (model prog w) (A₀.deeper (envOf name scope L a cd)) (setFlight (.ref e) none) (fun _ s₃ =>
        wpAny (model prog w) (A₀.deeper (envOf name scope L a cd)) (handleBy (.ref e) (envOf name scope L a cd) (.ExceptHandler (some (.Name x np)) (some n) (b₀ :: suite) pos :: hrestH)) Q E s₃) E s₂) E s' := by
  obtain ⟨⟨vs, ⟨B, hB, hBG, hl, hfl, hnew⟩, htup⟩, hsm, hdict⟩ := R
  have hdict : DictIs s'.heap e dx := hdict
  have hL : B.get? L = none := by
    obtain ⟨_, ⟨L', _, hf, hn', _⟩, _⟩ := hfl.2.2.1
    obtain rfl : L = L' := Option.some.inj hf
    exact hn'
  refine looks_D (Around.frames_deeper K.stack) rfl hfl hdict fun h₄ hheld₄ hsm₄ hd₄ => ?_
  refine lands_D hheld₄ hd₄ fun h₅ hheld hsm₅' hd₅ => ?_
  have hsm₅ := hsm₄.trans hsm₅'
  obtain ⟨g₅, T₅, F₅, K₅⟩ := kts_ground K F hBG hheld.1 (hsm.trans hsm₅)
  have X₅ := XB.keeps K₅.stays
  have P₅ : TopRead p loose mg mb g₅ := topRead_of (TB.keeps K₅.stays)
  obtain ⟨ob, hob, hobc⟩ := hheld.there
  obtain ⟨nm, q', N, bs, sn, sub, ab, col, dd, k0, k1, k2, k3, k5, hC⟩ := (exc_cls X₅).obj
  have hC₅ := F₅.keep _ _ hC
  refine wpAny_handleBy_cons (codeAny_handlers_test (name_K F₅ X₅ P₅ ex ?_ hk hx hd')) (by intro q; cases q)
  refine wpAny_excMatches_sub_self hC₅ hob hobc (by decide +kernel) (codeAny_handlers_suite_as ?_)
  refine again_D hheld hd₅ fun h₆ hfl₆ hsm₆ hd₆ => ?_
  obtain ⟨g₆, T₆, F₆, K₆⟩ := kts_ground K F hBG hfl₆.1 ((hsm.trans hsm₅).trans hsm₆)
  obtain ⟨oe, ws, hoe, hoec, hoed, hoe0⟩ := hfl₆.first
  have ne₆ : g₆.get? e = none := T₆.none_ _ (kts_fresh F hBG hfl₆.2.1 fun o ho m => by
    obtain ⟨_, o', ho', hd⟩ := K.frames.mem m
    rw [ho] at ho'
    cases ho'
    obtain ⟨sl, hs⟩ := ((hsm.trans hsm₅).trans hsm₆) _ _ (F.keep _ _ ho) hd
    rw [hoe] at hs
    cases hs
    exact hd _ hoed)
  have N₆ := News.more F₆ News.nil hoe (fun es n q => by rw [hoed] at q; cases q) ne₆
  have Nl : News g₆ L h₆ tl := fun q hq => ⟨hfl₆.1 _ _ (hl q hq).1, (fun z => by have := (hl q hq).1; rw [z, hL] at this; cases this), T₆.none_ _ (kts_none F.keep (hl q hq).2.1)⟩
  have Nr : News g₆ L h₆ rest := fun q hq => by
    obtain ⟨q1, q2, q3⟩ := hrest q hq
    have qB : B.get? q.1 = some q.2 := hBG _ _ q1 fun hm => by
      rcases kts_mem hm with z | z
      · exact q3 z
      · obtain ⟨_, o', ho', _⟩ := K.frames.mem z
        rw [q2] at ho'; cases ho'
    exact ⟨hfl₆.1 _ _ qB, q3, T₆.none_ _ q2⟩
  have X₆ := XB.keeps K₆.stays
  have P₆ : Top p loose mean mg mb g₆ := TB.keeps K₆.stays
  have D₆ : KtsDicts (outer.filterMap (·.frame)) g₆ := D.turn T₆
  have hod : oe.dict = some dx := by
    obtain ⟨oe', a', b'⟩ := hd₆
    rw [hoe] at a'; cases a'; exact b'
  refine stN F₆ (news := (e, oe) :: tl ++ rest) (fun q hq => ?_) (fun h₇ F₇ N₇ => ?_) hk hlo
  · rcases List.mem_append.mp hq with hq | hq
    · rcases List.mem_cons.mp hq with rfl | hq
      · exact N₆ _ (.head _)
      · exact Nl q hq
    · exact Nr q hq
  · exact k h₇ g₆ _ oe T₆ F₇ N₇ hoec hod ⟨ws, hoed⟩ K₆ X₆ P₆ D₆
end
end
-- UseX
section
section
variable {prog : Program} {w : World} {A₀ : Around} {E : Value → Shared → Prop} {s : Shared} {base h₀ : Heap} {outer : List Env} {env : Env} {L : Addr} {m : Str → Option Value}
  {p : Program} {loose : List Str} {mean : ExcName → Option Value} {mg mb : Str → Option Value} {pre news rest : Led} {dp un d u : Nat} {gd : Option (List Code)} {f : Addr} {args : List Value} {ro : Heap → Prop} {Post : Value → Led → Prop} {PostE : Addr → Led → Prop} {Q : Value → Shared → Prop}
/-- what a caller knows when a callee has raised: the ground it stood on -/
structure Raised (base h₀ : Heap) (env : Env) (outer : List Env) (L : Addr) (m : Str → Option Value) (rest : Led) (e t dx : Addr) (tl : Led) (h' : Heap) : Prop where
  out : ∃ G, RaisedX base G (env :: outer) e t dx tl h' ∧ Fr h₀ L G m ∧ ∀ q ∈ rest, G.get? q.1 = some q.2 ∧ h₀.get? q.1 = none ∧ q.1 ≠ L
set_option maxHeartbeats 2000000 in
theorem use_codeX (B : Below A₀ base outer h₀) (F : Fr h₀ L s.heap m) (X : (hd.heap_39 w.params).In h₀) (N : News h₀ L s.heap news) (T : Top p loose mean mg mb h₀) (hf : env.frame = some L) (hk : env.scope.kind = .function)
    (C : CSpecX prog w d u f args pre ro Post PostE) (hpre : ∀ q ∈ pre, q ∈ news) (hrest : Part news pre rest) (hro : ∀ g : Heap, h₀.StaysIn g → (∀ q ∈ rest, g.get? q.1 = some q.2) → ro g) (hd : dp + d < 900) (hu : un + u < 9000)
    (ret : ∀ v h' tk' tl, Fr h₀ L h' m → News h₀ L h' (tl ++ rest) → Apart tl rest → Post v tl → Q v { s with heap := h', toks := tk' })
    (err : ∀ e t dx h' tk' tl, Raised base h₀ env outer L m rest e t dx tl h' → PostE dx tl → E (.ref e) { s with heap := h', toks := tk' }) :
    codeAny (model prog w) (ar dp un gd (env :: outer)) (.call (.ref f) ⟨args, []⟩) (fun r s' => match r with | .ok (.ret v) => Q v s' | .ok _ => False | .error e => E e s') s := by
  have Np : News h₀ L s.heap pre := fun q hq => N q (hpre q hq)
  obtain ⟨FG, BG, st, -⟩ := groundX (R := fun _ _ => True) (A := ar dp un gd (env :: outer)) B F Np rfl hf hk
  have hg : ∀ q ∈ rest, (hideAll s.heap (pre.map (·.1))).get? q.1 = some q.2 := fun q hq => hideAll_get _ (N q (hrest.rest q hq).1).1 fun hm => by
    obtain ⟨p', hp', e⟩ := List.mem_map.mp hm
    exact (hrest.rest q hq).2 p' hp' e
  refine C dp un gd (env :: outer) _ base _ s p loose mean mg mb _ BG (fun b o e => of_hideAll _ e) (Nat.le_of_eq (hideAll_size _ _)) (X.keeps st) (T.keeps st) (fun q hq => ⟨(Np q hq).1, hideAll_none _ (List.mem_map_of_mem hq)⟩) (hro _ st hg) hd hu ?_ ?_
  · intro v h' tk' tl st' ntl P
    obtain ⟨oL, es, ep, hL, r1, r2, r3⟩ := FG.ns
    refine ret v h' tk' tl ⟨⟨oL, es, ep, st' _ _ hL, r1, r2, r3⟩, fun b o e => st' _ _ (st _ _ e), F.above⟩ (fun q hq => ?_) (fun q hq p' hp' e => ?_) P
    · rcases List.mem_append.mp hq with hq | hq
      · refine ⟨(ntl q hq).1, fun e => ?_, ?_⟩
        · have := (ntl q hq).2; rw [e, hL] at this; cases this
        · cases e : h₀.get? q.1 with
          | none => rfl
          | some o => have := st _ _ e; rw [(ntl q hq).2] at this; cases this
      · exact ⟨st' _ _ (hg q hq), (N q (hrest.rest q hq).1).2⟩
    · have := hg p' hp'; rw [e, (ntl q hq).2] at this; cases this
  · intro e t dx h' tk' tl RX P
    exact err e t dx h' tk' tl ⟨_, RX, FG, fun q hq => ⟨hg q hq, (N q (hrest.rest q hq).1).2.2, (N q (hrest.rest q hq).1).2.1⟩⟩ P
theorem use_specX (B : Below A₀ base outer h₀) (F : Fr h₀ L s.heap m) (X : (hd.heap_39 w.params).In h₀) (N : News h₀ L s.heap news) (T : Top p loose mean mg mb h₀) (hf : env.frame = some L) (hk : env.scope.kind = .function)
    (C : CSpecX prog w d u f args pre ro Post PostE) (hpre : ∀ q ∈ pre, q ∈ news) (hrest : Part news pre rest) (hro : ∀ g : Heap, h₀.StaysIn g → (∀ q ∈ rest, g.get? q.1 = some q.2) → ro g) (hd : dp + d < 900) (hu : un + u < 9000)
    (ret : ∀ v h' tk' tl, Fr h₀ L h' m → News h₀ L h' (tl ++ rest) → Apart tl rest → Post v tl → Q v { s with heap := h', toks := tk' })
    (err : ∀ e t dx h' tk' tl, Raised base h₀ env outer L m rest e t dx tl h' → PostE dx tl → E (.ref e) { s with heap := h', toks := tk' }) :
    wpAny (model prog w) (ar dp un gd (env :: outer)) (call (.ref f) args) Q E s := wpAny_call (use_codeX B F X N T hf hk C hpre hrest hro hd hu ret err)
/-- a call of a bound method that may raise -/
theorem use_boundX {mth : Addr} {self : Value} (B : Below A₀ base outer h₀) (F : Fr h₀ L s.heap m) (X : (hd.heap_39 w.params).In h₀) (N : News h₀ L s.heap news) (T : Top p loose mean mg mb h₀) (hf : env.frame = some L) (hk : env.scope.kind = .function) (hm : (mth, methodObj (.ref f) self) ∈ news)
    (C : CSpecX prog w d u f [self] pre ro Post PostE) (hpre : ∀ q ∈ pre, q ∈ news) (hrest : Part news pre rest) (hro : ∀ g : Heap, h₀.StaysIn g → (∀ q ∈ rest, g.get? q.1 = some q.2) → ro g) (hd : dp + d < 900) (hu : un + u < 9000)
    (ret : ∀ v h' tk' tl, Fr h₀ L h' m → News h₀ L h' (tl ++ rest) → Apart tl rest → Post v tl → Q v { s with heap := h', toks := tk' })
    (err : ∀ e t dx h' tk' tl, Raised base h₀ env outer L m rest e t dx tl h' → PostE dx tl → E (.ref e) { s with heap := h', toks := tk' }) :
    wpAny (model prog w) (ar dp un gd (env :: outer)) (call (.ref mth) []) Q E s := wpAny_call (ks_codeAny_call_bound (N _ hm).1 (use_codeX B F X N T hf hk C hpre hrest hro hd hu ret err))
end
/-- what a catcher must know of the base -/
structure OnBase (w : World) (base g : Heap) (outer : List Env) (p : Program) (loose : List Str) (mean : ExcName → Option Value) (mg mb : Str → Option Value) : Prop where
  XB : (hd.heap_39 w.params).In base
  TB : Top p loose mean mg mb base
  D : KtsDicts (outer.filterMap (·.frame)) g
/-- a contract that may catch a fault: outer frames' objects may turn -/
def CSpecT (prog : Program) (w : World) (d u : Nat) (f : Addr) (args : List Value) (pre : Led) (ro : Heap → Prop) (Post : Value → Led → Prop) : Prop :=
  ∀ (dp un : Nat) (gd : Option (List Code)) (outer : List Env) (A₀ : Around) (base g : Heap) (s : Shared) (p : Program) (loose : List Str) (mean : ExcName → Option Value) (mg mb : Str → Option Value) (R : Result → Shared → Prop),
    Below A₀ base outer g → g.StaysIn s.heap → g.objs.size ≤ s.heap.objs.size → (hd.heap_39 w.params).In g → Top p loose mean mg mb g → (∀ q ∈ pre, s.heap.get? q.1 = some q.2 ∧ g.get? q.1 = none) → ro g →
    OnBase w base g outer p loose mean mg mb →
    dp + d < 900 → un + u < 9000 →
    (∀ v h' tk' tl g', KtsTurn (outer.filterMap (·.frame)) g g' → g'.StaysIn h' → (∀ q ∈ tl, h'.get? q.1 = some q.2 ∧ g'.get? q.1 = none) → Post v tl → R (.ok (.ret v)) { s with heap := h', toks := tk' }) →
    codeAny (model prog w) (ar dp un gd outer) (.call (.ref f) ⟨args, []⟩) R s
end
-- Kw
section
def kwL : List String := ["_", "Self", "abstract", "as", "async", "await", "become", "box", "break", "const", "continue", "crate", "do", "dyn", "else", "enum", "extern", "false", "final", "fn", "for", "if", "impl", "in", "let", "loop", "macro", "match", "mod", "move", "mut", "override", "priv", "pub", "ref", "return", "self", "static", "struct", "super", "trait", "true", "try", "type", "typeof", "unsafe", "unsized", "use", "virtual", "where", "while", "yield"]
def kwV : List Value := kwL.zipIdx.map fun p => Value.str (Str.ofString p.1) (272 + p.2)
def kwB (t : Str) : Bool := (kwL.map Str.ofString).any fun x => x == t
theorem strs_zip (n : Nat) : ∀ (l : List String) (k : Nat), StrsAre ((l.zipIdx k).map fun p => Value.str (Str.ofString p.1) (n + p.2)) (l.map Str.ofString)
  | [], _ => .nil
  | _ :: l, k => .cons _ _ (strs_zip n l (k + 1))
theorem kw_tup {w : World} {h : Heap} (X : (hd.heap_39 w.params).In h) : IsTup h 68 kwV.toArray := by
  have key : ∀ o, (hd.heap_39 w.params).lookup 68 = some o → h.get? 68 = some o := fun o e => X _ _ e
  have k2 := key _ (by k_is)
  exact ⟨_, k2, rfl, _, rfl⟩
theorem in_kw {prog : Program} {w : World} {A : Around} {E : Value → Shared → Prop} {s : Shared} {h₀ : Heap} {L : Addr} {m : Str → Option Value} {x : Str} {u : Tok} {b : Bool} {Q : Value → Shared → Prop} (F : Fr h₀ L s.heap m) (X : (hd.heap_39 w.params).In h₀) (hb : kwB x = b) (h : Q (.bool b) s) :
    wpAny (model prog w) A (compareOp .In (.str x u) (.ref 68)) Q E s := by
  refine in_tuple_strs (kw_tup (X.keeps F.keep)) (ys := kwL.map Str.ofString) ?_ ?_
  · show StrsAre (kwL.zipIdx.map _).toArray.toList _
    rw [List.toList_toArray]
    exact strs_zip 272 kwL 0
  · show Q (.bool (kwB x)) s
    rw [hb]; exact h
theorem fault_tl {news : Led} {e t dx : Addr} {fd : Obj} {ot oe : Obj} (ap : ∀ q ∈ news, @Ne Nat q.1 e ∧ @Ne Nat q.1 t ∧ @Ne Nat q.1 dx) (l1 : @LT.lt Nat _ e t) (l2 : @LT.lt Nat _ t dx) :
    ∀ q ∈ (dx, fd) :: news, q ∈ (e, oe) :: (dx, fd) :: (t, ot) :: news ∧ @Ne Nat q.1 e ∧ @Ne Nat q.1 t := fun q hq => by
  rcases List.mem_cons.mp hq with z | hq
  · rw [z]; exact ⟨.tail _ (.head _), Nat.ne_of_gt (Nat.lt_trans l1 l2), Nat.ne_of_gt l2⟩
  · exact ⟨.tail _ (.tail _ (.tail _ hq)), (ap q hq).1, (ap q hq).2.1⟩
theorem setL_some {v : Value} : ∀ {l : List Value} {k : Nat}, k < l.length → ki_setL l k v = some (l.set k v)
  | [], _, h => by cases h
  | x :: r, 0, _ => rfl
  | x :: r, k + 1, h => by
    unfold ki_setL
    rw [setL_some (Nat.lt_of_succ_lt_succ h)]
    rfl
theorem set_mine {prog : Program} {w : World} {A : Around} {E : Value → Shared → Prop} {s : Shared} {h₀ : Heap} {L D : Addr} {m : Str → Option Value} {news news' : Led} {vs : List Value} {n : Nat} {a : Nat} {t : Tok} {v : Value} {Q : Unit → Shared → Prop} (F : Fr h₀ L s.heap m) (N : News h₀ L s.heap news) (ha : a < vs.length) (hl : vs.length ≤ 1000)
    (U : Upd D (listOf vs.toArray n) (listOf (vs.set a v).toArray n) news news') (h : ∀ h', Fr h₀ L h' m → News h₀ L h' news' → Q () { s with heap := h' }) : wpAny (model prog w) A (setItem (.ref D) (.int (a : Int) t) v) Q E s :=
  ki_set F N (by omega) (by omega) (by rw [List.toList_toArray, Int.toNat_natCast]; exact setL_some ha) U h
end
section
local macro_rules | `(tactic| walk_at "c aftw") => `(tactic| ((with_reducible rename News _ _ _ _ => N9); (simp only [wsL] at N9); walk_at "c aft"))


-- TakeW
section
theorem rows_TakeW : hd.heap_39 = hd.heap_39 := by
  k_with "subscriptTail" => (k_here; (with_reducible show wpAny _ _ (subscriptTail _ _ (Value.str _ _) (Value.int _ _)) _ _ _); (refine item_known (by with_reducible assumption) (by omega) (by omega) (by assumption) ?_ (by with_unfolding_all rfl) (by intro _; with_unfolding_all rfl)); (try dsimp only))
  k_with "subscriptTail Name Name str int" => k_extra "subscriptTail"
  k_with "subscriptTail Name BinOp str int" => k_extra "subscriptTail"
  k_with "compareOp In str str" => (k_here; first | refine in_b (by with_reducible assumption) ?_ | refine in_b (b := true) (by decide +kernel) ?_ | refine in_b (b := false) (by decide +kernel) ?_)
  k_with "compareOp Eq str str" => (k_here; first | refine eq_b (by with_reducible assumption) ?_ | refine eq_b (b := true) (by decide +kernel) ?_ | refine eq_b (b := false) (by decide +kernel) ?_)
  k_with "compareOp NotEq str str" => (k_here; first | refine ne_b (by with_reducible assumption) ?_ | refine ne_b (b := true) (by decide +kernel) ?_ | refine ne_b (b := false) (by decide +kernel) ?_)
  k_with "subscriptTail Name Slice str ref" => (k_here; (refine slice_known (s := ⟨_, _, _, _, _⟩) (by k_asm) (by k_asm) (by with_reducible assumption) (by assumption) ?_ (by with_unfolding_all rfl) (by intro _; with_unfolding_all rfl)); intro _ _ _ _ _; (try dsimp only); (try k_sweep))
  k_with "compareOp Eq int int" => (k_here; refine eqi_b (by with_reducible assumption) ?_)
  k_with "call ref" => (k_here; (with_reducible show wpAny _ _ (call (Value.ref 175) _) _ _ _); (try k_fold); k_dflt (refine use_by (by k_asm) (by k_asm) (by k_asm) (by k_asm) (by k_asm) (by exact rfl) (by exact rfl) (by k_extra "c pre") (by k_extra "c part") (by k_extra "c dp") (by k_extra "c un") (peek0K_spec (by k_extra "c p") (by k_extra "c p") (by k_extra "c p")) (by k_extra "c ro") ?_); walk_at "c in"; rename_i P'; obtain ⟨hv', htl'⟩ := P'; subst hv' htl'; (walk_at "c aftw"))
  k_with "call ref" => (k_here; (with_reducible show wpAny _ _ (call (Value.ref 175) [_, _]) _ _ _); (try k_fold); k_dflt (refine use_by (by k_asm) (by k_asm) (by k_asm) (by k_asm) (by k_asm) (by exact rfl) (by exact rfl) (by k_extra "c pre") (by k_extra "c part") (by k_extra "c dp") (by k_extra "c un") (peekK_spec (by k_extra "c p") (by k_extra "c p") (by k_extra "c p") (by k_extra "c p") (by k_extra "c p")) (by k_extra "c ro") ?_); walk_at "c in"; rename_i P'; obtain ⟨hv', htl'⟩ := P'; subst hv' htl'; (walk_at "c aftw"))
  k_with "subscriptTail Name Constant ref int" => (k_here; (with_reducible show wpAny _ _ (subscriptTail _ _ (Value.ref _) (Value.int _ _)) _ _ _); k_dflt (refine item_tupleL (by exact word_tup (by k_asm) (by with_reducible assumption)) (by decide) (by decide) (by rfl) (by rfl) ?_ (by with_unfolding_all rfl) (by intro _; with_unfolding_all rfl)))
  exact rfl
set_option maxHeartbeats 2000000 in
theorem takew_spec {prog : Program} {w : World} {x d r b : Addr} {a : Nat} {t1 t2 t3 ta td : Tok} {vs : List Value} {c : Nat} {wd : Wd} (hw : vs[a]? = some (.ref b)) (hl : vs.length ≤ 1000) (ha : a < vs.length) :
    CSpec prog w 3 30 182 [.ref x] (wsL w x d r a t1 t2 t3 ta td vs c) (fun g => WordAt g b wd)
      (fun v tl => v = .ref b ∧ ∃ ta', tl = wsL w x d r ((if (wd.k != Str.ofString "end") = true then a + 1 else a : Nat) : Int) t1 t2 t3 ta' td vs c) := by
  w_top off
  unfold CSpec
  intro dp un gd outer A₀ base g s p loose mean mg mb R B st sz X T N0 hro hd hu hret
  obtain ⟨hxd, hrd, hxr⟩ := ws_apart N0
  unfold wsL at N0
  obtain ⟨u1, u2, u3, v4, n4, hb⟩ := hro
  have hbb := hb
  walk_at "c enter"
  cases hend : (wd.k != Str.ofString "end") with
  | true =>
    repeat' ((fail_if_success (with_reducible show R _ _)); first | (k_unfold; (try dsimp only)) | (k_end; wrow_close) | walk1 | (dsimp only; walk1) | (leave1; walk_say "STEP leave1"; try dsimp only) | fail "no step")
    rename Fr _ _ _ _ => F9
    rename News _ _ _ _ => N9
    exact spec_end hret F9 N9 ⟨rfl, _, (congrArg (fun n : Nat => wsL w x d r (n : Int) t1 t2 t3 _ td vs c) (if_pos hend)).symm⟩
  | false =>
    repeat' ((fail_if_success (with_reducible show R _ _)); first | (k_unfold; (try dsimp only)) | (k_end; wrow_close) | walk1 | (dsimp only; walk1) | (leave1; walk_say "STEP leave1"; try dsimp only) | fail "no step")
    rename Fr _ _ _ _ => F9
    rename News _ _ _ _ => N9
    exact spec_end hret F9 N9 ⟨rfl, _, (congrArg (fun n : Nat => wsL w x d r (n : Int) t1 t2 t3 _ td vs c) (if_neg (by rw [hend]; exact Bool.false_ne_true))).symm⟩
end
-- Looks
section
def sigK (k : Str) : Bool := [Str.ofString "sign", Str.ofString "name"].any fun x => x == k
set_option maxHeartbeats 2000000 in
theorem looks_spec {prog : Program} {w : World} {x d r b : Addr} {a : Nat} {k : Int} {t1 t2 t3 ta td tk tx : Tok} {tt : Str} {vs : List Value} {c : Nat} {wd : Wd} (hw : vs[(min ((a : Int) + k) (vs.length - 1)).toNat]? = some (.ref b)) (hl : vs.length ≤ 1000) (ha : a < vs.length) (hk0 : 0 ≤ k) (hk : k ≤ 1000) :
    CSpec prog w 3 40 190 [.ref x, .str tt tx, .int k tk] (wsL w x d r a t1 t2 t3 ta td vs c) (fun g => WordAt g b wd)
      (fun v tl => v = .bool (sigK wd.k && wd.t == tt) ∧ tl = wsL w x d r a t1 t2 t3 ta td vs c) := by
  w_top off
  unfold CSpec
  intro dp un gd outer A₀ base g s p loose mean mg mb R B st sz X T N0 hro hd hu hret
  obtain ⟨hxd, hrd, hxr⟩ := ws_apart N0
  unfold wsL at N0
  obtain ⟨u1, u2, u3, v4, n4, hb⟩ := hro
  have hbb := hb
  walk_at "c enter"
  repeat' ((fail_if_success (with_reducible show R _ _)); first | (k_unfold; (try dsimp only)) | (k_end; wrow_close) | walk1 | (dsimp only; walk1) | (leave1; walk_say "STEP leave1"; try dsimp only) | fail "no step")
  · rename Fr _ _ _ _ => F9
    rename News _ _ _ _ => N9
    rename _ = true => h9
    refine' spec_endS hret F9 N9 ?k ⟨?_, rfl⟩
    case k => walk_at "c pre"
    have h8 : sigK wd.k = true := h9
    rw [h8, Bool.true_and]
  · rename Fr _ _ _ _ => F9
    rename News _ _ _ _ => N9
    rename _ = false => h9
    refine' spec_endS hret F9 N9 ?k ⟨?_, rfl⟩
    case k => walk_at "c pre"
    have h8 : sigK wd.k = false := h9
    rw [h8, Bool.false_and]
    exact congrArg Value.bool h9
end
-- Looks0
section
set_option maxHeartbeats 2000000 in
theorem looks0_spec {prog : Program} {w : World} {x d r b : Addr} {a : Nat} {t1 t2 t3 ta td tx : Tok} {tt : Str} {vs : List Value} {c : Nat} {wd : Wd} (hw0 : vs[a]? = some (.ref b)) (hl : vs.length ≤ 1000) (ha : a < vs.length) :
    CSpec prog w 3 40 190 [.ref x, .str tt tx] (wsL w x d r a t1 t2 t3 ta td vs c) (fun g => WordAt g b wd)
      (fun v tl => v = .bool (sigK wd.k && wd.t == tt) ∧ tl = wsL w x d r a t1 t2 t3 ta td vs c) := by
  w_top off
  have hw : vs[(min ((a : Int) + 0) ((vs.length : Int) - 1)).toNat]? = some (.ref b) := by
    have e : (min ((a : Int) + 0) ((vs.length : Int) - 1)).toNat = a := by omega
    rw [e]; exact hw0
  unfold CSpec
  intro dp un gd outer A₀ base g s p loose mean mg mb R B st sz X T N0 hro hd hu hret
  obtain ⟨hxd, hrd, hxr⟩ := ws_apart N0
  unfold wsL at N0
  obtain ⟨u1, u2, u3, v4, n4, hb⟩ := hro
  have hbb := hb
  walk_at "c enter"
  repeat' ((fail_if_success (with_reducible show R _ _)); first | (k_unfold; (try dsimp only)) | (k_end; wrow_close) | walk1 | (dsimp only; walk1) | (leave1; walk_say "STEP leave1"; try dsimp only) | fail "no step")
  · rename Fr _ _ _ _ => F9
    rename News _ _ _ _ => N9
    rename _ = true => h9
    refine' spec_endS hret F9 N9 ?k ⟨?_, rfl⟩
    case k => walk_at "c pre"
    have h8 : sigK wd.k = true := h9
    rw [h8, Bool.true_and]
  · rename Fr _ _ _ _ => F9
    rename News _ _ _ _ => N9
    rename _ = false => h9
    refine' spec_endS hret F9 N9 ?k ⟨?_, rfl⟩
    case k => walk_at "c pre"
    have h8 : sigK wd.k = false := h9
    rw [h8, Bool.false_and]
    exact congrArg Value.bool h9
end
section

-- Name
section
theorem rows_Name : hd.heap_39 = hd.heap_39 := by
  k_with "exec Raise some none" => (k_here; (with_reducible show wpAny _ _ (exec (Stmt.Raise (some (Expr.Call (Expr.Name _ _) (_ :: _) [] _)) none _) _) _ _ _); k_dflt (refine Raise_mine (by rfl) ?_))
  k_with "call ref" => (k_here; (with_reducible show wpAny _ _ (call (Value.ref 64) _) _ _ _); k_dflt (refine exc_make (by k_asm) (by k_asm) (by k_asm) (by k_asm) (by k_asm) (by exact rfl) (by exact rfl) (by k_extra "c dp") (by k_extra "c un") ?_); intro _ _ _ _ _ _ _ _ _ _ _ _)
  k_with "compareOp In str ref" => (k_here; (with_reducible show wpAny _ _ (compareOp CmpOp.In (Value.str _ _) (Value.ref 68)) _ _ _); k_dflt (refine in_kw (by k_asm) (by k_asm) (by with_reducible assumption) ?_))
  exact rfl
def nameOkB (wd : Wd) : Bool := (wd.k == Str.ofString "name") && !kwB wd.t
abbrev FaultLed (w : World) (spot : Int) (pre : Led) (dx : Addr) (tl : Led) : Prop := ∃ (msg : Str) (tm ts k1 k2 : Tok), tl = (dx, faultD w msg tm spot ts k1 k2) :: pre
set_option maxHeartbeats 2000000 in
theorem name_spec {prog : Program} {w : World} {x d r b : Addr} {a : Nat} {t1 t2 t3 ta td : Tok} {vs : List Value} {c : Nat} {wd : Wd} (hw : vs[a]? = some (.ref b)) (hl : vs.length ≤ 1000) (ha : a < vs.length) :
    CSpecX prog w 8 60 204 [.ref x] (wsL w x d r a t1 t2 t3 ta td vs c) (fun g => WordAt g b wd)
      (fun v tl => nameOkB wd = true ∧ ∃ q u1 u2 n ta', v = .ref q ∧ tl = (q, ({ cls := .type "tuple", data := .seq [.str wd.t u1, .int wd.pos u2].toArray n } : Obj)) :: wsL w x d r ((a + 1 : Nat) : Int) t1 t2 t3 ta' td vs c)
      (fun dx tl => nameOkB wd = false ∧ FaultLed w wd.pos (wsL w x d r a t1 t2 t3 ta td vs c) dx tl) := by
  w_top off
  unfold CSpecX
  intro dp un gd outer A₀ base g s p loose mean mg mb R B st sz X T N0 hro hd hu hret herr
  obtain ⟨hxd, hrd, hxr⟩ := ws_apart N0
  unfold wsL at N0
  obtain ⟨u1, u2, u3, v4, n4, hb⟩ := hro
  have hbb := hb
  walk_at "c enter"
  cases hn : (wd.k != Str.ofString "name") with
  | true =>
    repeat' ((fail_if_success (with_reducible show RaisedIs _ _ _)); first | (k_unfold; (try dsimp only)) | (k_end; wrow_close) | walk1 | (dsimp only; walk1) | (leave1; walk_say "STEP leave1"; try dsimp only) | fail "no step")
    rename_i e9 t9 dx9 k19 k29 h9 tk9 F9 N9 ap9 l19 l29
    refine ⟨e9, t9, dx9, rfl, exc_cls (X.keeps F9.keep), (N9 _ (.head _)).1, ?_⟩
    exact raise_end herr B F9 N9 (.head _) (.tail _ (.tail _ (.head _))) (fault_tl ap9 l19 l29) ⟨by unfold nameOkB; rw [show (wd.k == Str.ofString "name") = false from by rw [← Bool.not_eq_true', ← hn]; rfl]; rfl, _, _, _, _, _, rfl⟩ rfl
  | false =>
    have hn' : (wd.k == Str.ofString "name") = true := by
      have : (!(wd.k == Str.ofString "name")) = false := hn
      rw [Bool.not_eq_false'] at this; exact this
    cases hk : kwB wd.t with
    | true =>
      repeat' ((fail_if_success (with_reducible show RaisedIs _ _ _)); first | (k_unfold; (try dsimp only)) | (k_end; wrow_close) | walk1 | (dsimp only; walk1) | (leave1; walk_say "STEP leave1"; try dsimp only) | fail "no step")
      rename_i e9 t9 dx9 k19 k29 h9 tk9 F9 N9 ap9 l19 l29
      refine ⟨e9, t9, dx9, rfl, exc_cls (X.keeps F9.keep), (N9 _ (.head _)).1, ?_⟩
      exact raise_end herr B F9 N9 (.head _) (.tail _ (.tail _ (.head _))) (fault_tl ap9 l19 l29) ⟨by unfold nameOkB; rw [hn', hk]; rfl, _, _, _, _, _, rfl⟩ rfl
    | false =>
      repeat' ((fail_if_success (with_reducible show R _ _)); first | (k_unfold; (try dsimp only)) | (k_end; wrow_close) | walk1 | (dsimp only; walk1) | (leave1; walk_say "STEP leave1"; try dsimp only) | fail "no step")
      rename Fr _ _ _ _ => F9
      rename News _ _ _ _ => N9
      exact spec_end hret F9 N9 ⟨by unfold nameOkB; rw [hn', hk]; rfl, _, _, _, _, _, rfl, rfl⟩
end
section

-- Split
section
theorem rows_Split : hd.heap_39 = hd.heap_39 := by
  k_with "setItem ref int" => (k_here; k_dflt (refine set_mine (by k_asm) (by k_asm) (by omega) (by omega) (by k_upd) ?_); intro _ _ _; (try k_sweep))
  exact rfl
def closeB (wd : Wd) : Bool := (wd.k == Str.ofString "sign") && (Txt.slice wd.t none (some 1) == Str.ofString ">")
def restW (wd : Wd) : Wd := ⟨Str.ofString "sign", Txt.slice wd.t (some 1) none, wd.pos + 1, false⟩
set_option maxHeartbeats 2000000 in
theorem split_spec {prog : Program} {w : World} {x d r b : Addr} {a : Nat} {t1 t2 t3 ta td : Tok} {vs : List Value} {c : Nat} {wd : Wd} (hw : vs[a]? = some (.ref b)) (hl : vs.length ≤ 1000) (ha : a < vs.length) (htt : wd.t.length ≤ 1000) (hpp : 0 ≤ wd.pos ∧ wd.pos ≤ 1000) :
    CSpecX prog w 8 80 211 [.ref x] (wsL w x d r a t1 t2 t3 ta td vs c) (fun g => WordAt g b wd)
      (fun v tl => closeB wd = true ∧ ∃ q u1 u2 u3 n, v = .ref q ∧
        (((wd.t == Str.ofString ">") = true ∧ ∃ ta', tl = (q, wordO ⟨Str.ofString "sign", Str.ofString ">", wd.pos, false⟩ u1 u2 u3 .none n) :: wsL w x d r ((a + 1 : Nat) : Int) t1 t2 t3 ta' td vs c) ∨
         ((wd.t == Str.ofString ">") = false ∧ ∃ z y1 y2 y3 n2, tl = (q, wordO ⟨Str.ofString "sign", Str.ofString ">", wd.pos, false⟩ u1 u2 u3 .none n) :: (z, wordO (restW wd) y1 y2 y3 .none n2) :: wsL w x d r a t1 t2 t3 ta td (vs.set a (.ref z)) c ∧ @Ne Nat z q)))
      (fun dx tl => closeB wd = false ∧ FaultLed w wd.pos (wsL w x d r a t1 t2 t3 ta td vs c) dx tl) := by
  w_top off
  unfold CSpecX
  intro dp un gd outer A₀ base g s p loose mean mg mb R B st sz X T N0 hro hd hu hret herr
  obtain ⟨hxd, hrd, hxr⟩ := ws_apart N0
  unfold wsL at N0
  obtain ⟨u1, u2, u3, v4, n4, hb⟩ := hro
  have hbb := hb
  walk_at "c enter"
  cases hn : (wd.k != Str.ofString "sign") with
  | true =>
    repeat' ((fail_if_success (with_reducible show RaisedIs _ _ _)); first | (k_unfold; (try dsimp only)) | (k_end; wrow_close) | walk1 | (dsimp only; walk1) | (leave1; walk_say "STEP leave1"; try dsimp only) | fail "no step")
    rename_i e9 t9 dx9 k19 k29 h9 tk9 F9 N9 ap9 l19 l29
    refine ⟨e9, t9, dx9, rfl, exc_cls (X.keeps F9.keep), (N9 _ (.head _)).1, ?_⟩
    exact raise_end herr B F9 N9 (.head _) (.tail _ (.tail _ (.head _))) (fault_tl ap9 l19 l29) ⟨by unfold closeB; rw [show (wd.k == Str.ofString "sign") = false from by rw [← Bool.not_eq_true', ← hn]; rfl]; rfl, _, _, _, _, _, rfl⟩ rfl
  | false =>
    have hn' : (wd.k == Str.ofString "sign") = true := by
      have : (!(wd.k == Str.ofString "sign")) = false := hn
      rw [Bool.not_eq_false'] at this; exact this
    cases hs : (Txt.slice wd.t none (some 1) != Str.ofString ">") with
    | true =>
      repeat' ((fail_if_success (with_reducible show RaisedIs _ _ _)); first | (k_unfold; (try dsimp only)) | (k_end; wrow_close) | walk1 | (dsimp only; walk1) | (leave1; walk_say "STEP leave1"; try dsimp only) | fail "no step")
      rename_i e9 t9 dx9 k19 k29 h9 tk9 F9 N9 ap9 l19 l29
      refine ⟨e9, t9, dx9, rfl, exc_cls (X.keeps F9.keep), (N9 _ (.head _)).1, ?_⟩
      exact raise_end herr B F9 N9 (.head _) (.tail _ (.tail _ (.head _))) (fault_tl ap9 l19 l29) ⟨by unfold closeB; rw [hn', show (Txt.slice wd.t none (some 1) == Str.ofString ">") = false from by rw [← Bool.not_eq_true', ← hs]; rfl]; rfl, _, _, _, _, _, rfl⟩ rfl
    | false =>
      have hs' : (Txt.slice wd.t none (some 1) == Str.ofString ">") = true := by
        have : (!(Txt.slice wd.t none (some 1) == Str.ofString ">")) = false := hs
        rw [Bool.not_eq_false'] at this; exact this
      cases he : (wd.t == Str.ofString ">") with
      | true =>
        repeat' ((fail_if_success (with_reducible show R _ _)); first | (k_unfold; (try dsimp only)) | (k_end; wrow_close) | walk1 | (dsimp only; walk1) | (leave1; walk_say "STEP leave1"; try dsimp only) | fail "no step")
        rename Fr _ _ _ _ => F9
        rename News _ _ _ _ => N9
        exact spec_end hret F9 N9 ⟨by unfold closeB; rw [hn', hs']; rfl, _, _, _, _, _, rfl, .inl ⟨he, _, rfl⟩⟩
      | false =>
        repeat' ((fail_if_success (with_reducible show R _ _)); first | (k_unfold; (try dsimp only)) | (k_end; wrow_close) | walk1 | (dsimp only; walk1) | (leave1; walk_say "STEP leave1"; try dsimp only) | fail "no step")
        rename_i F9 N9 l9
        refine' spec_end hret F9 N9 ⟨by unfold closeB; rw [hn', hs']; rfl, _, _, _, _, _, rfl, .inr ⟨he, _, _, _, _, _, rfl, ?_⟩⟩
        exact Nat.ne_of_lt l9.1
end
-- Expect
section
theorem rows_Expect : hd.heap_39 = hd.heap_39 := by
  k_with_none
  k_with "subscriptTail Name Constant ref int" => ((k_here; (with_reducible show wpAny _ _ (subscriptTail _ _ (Value.ref _) (Value.int _ _)) _ _ _); (with_unfolding_all refine item_litK (by is_list) (by decide) (by decide) (by rfl) ?_ (by with_unfolding_all rfl))))
  k_with "binaryOp Mult int int" => (refine mul_int ?_ (IntMulOk.of_left (intBits_fmod (by decide) (by decide))))
  k_with "k_room" => (((try simp only [depth_mark, depth_under_make, depth_under_kw, depth_in1, depth_deeper, depth_caller]); (simp only [recursionLimit]; omega)))
  k_with "k_units" => (((try simp only [units_in1, units_deeper, Around.mark_units, units_caller]); (try dsimp only); first | exact line_of (by with_reducible assumption) (by exact Nat.le_of_ble_eq_true rfl) | (have hcL9 := cLine_is; omega)))
  k_with "k_in" => (exact Frag.In.keeps (by with_reducible assumption) (Fr.keep (by with_reducible assumption)))
  k_with "k_ne" => ((refine neN ?_; (try dsimp only); first | exact Nat.ne_of_lt (by k_extra "c lt") | exact Nat.ne_of_gt (by k_extra "c lt") | exact ne_l1 (by k_extra "c lt") | exact ne_l2 (by k_extra "c lt") | exact ne_r1 (by k_extra "c lt") | exact ne_r2 (by k_extra "c lt") | omega))
  k_with "c use" => (((case k1 => k_asm); (case k2 => k_asm); (case k3 => k_asm); (case k4 => k_asm); (case k5 => k_asm); (case k6 => exact rfl); (case k7 => exact rfl); (case h1 => k_extra "c pre"); (case h2 => k_extra "c part"); (case h4 => k_extra "c dp"); (case h5 => k_extra "c un")))
  k_with "until iter" => (repeat' ((fail_if_success (with_reducible show wpAny _ _ (pyIter _) _ _ _)); first | (k_unfold; (try dsimp only)) | (k_end; wrow_close) | walk1 | (dsimp only; walk1) | (leave1; walk_say "STEP leave1"; try dsimp only) | fail "no step"))
  k_with "until while" => (repeat' ((fail_if_success (with_reducible show wpAny _ _ (exec (Stmt.While _ _ _ _) _) _ _ _)); first | (k_unfold; (try dsimp only)) | (k_end; wrow_close) | walk1 | (dsimp only; walk1) | (leave1; walk_say "STEP leave1"; try dsimp only) | fail "no step"))
  k_with "until kswend" => (repeat' ((fail_if_success (with_reducible show KswEnd _ _ _ _ _ _ _ _ _ _ _ _)); first | (k_unfold; (try dsimp only)) | (k_end; wrow_close) | walk1 | (dsimp only; walk1) | (leave1; walk_say "STEP leave1"; try dsimp only) | fail "no step"))
  k_with "ite" => ((k_closed; first | with_reducible refine ite_pos (by decide) ?_ | with_reducible refine ite_neg (by decide) ?_))
  k_with "subscriptTail Call" => ((k_here; k_dflt (refine kba_turn (value' := PySem.Expr.Name (PySem.Str.ofString "_") ⟨0, 0, 0, 0⟩) (fun _ => rfl) ?_)))
  k_with "subscriptTail Subscript" => ((k_here; (first | (with_reducible show wpAny _ _ (subscriptTail _ _ (Value.ref _) _) _ _ _) | (with_reducible show wpAny _ _ (subscriptTail _ _ (Value.str _ _) (Value.ref _)) _ _ _)); k_dflt (refine kba_turn (value' := PySem.Expr.Name (PySem.Str.ofString "_") ⟨0, 0, 0, 0⟩) (fun _ => rfl) ?_)))
  k_with "c dp" => (((try dsimp only); first | exact dp_of (by with_reducible assumption) (by exact Nat.le_of_ble_eq_true rfl) | exact dp_of1 (by with_reducible assumption) (by exact Nat.le_of_ble_eq_true rfl) | omega))
  k_with "c un" => (((try dsimp only); first | exact un_of (by with_reducible assumption) (by exact Nat.le_of_ble_eq_true rfl) | exact un_of1 (by with_reducible assumption) (by exact Nat.le_of_ble_eq_true rfl) | omega))
  k_with "c a" => (with_reducible assumption)
  k_with "c lt" => (first | with_reducible assumption | exact a0 (by k_extra "c a") | exact a1 (by k_extra "c a") | exact a2 (by k_extra "c a") | exact a3 (by k_extra "c a") | exact a4 (by k_extra "c a") | exact a5 (by k_extra "c a") | exact a6 (by k_extra "c a") | exact a7 (by k_extra "c a") | exact a8 (by k_extra "c a") | exact a9 (by k_extra "c a") | exact a10 (by k_extra "c a") | exact a11 (by k_extra "c a") | exact a12 (by k_extra "c a") | exact a13 (by k_extra "c a"))
  k_with "c p" => (first | with_reducible assumption | k_ne | exact Nat.le_of_ble_eq_true rfl | decide | omega | assumption | exact rfl)
  k_with "c ro" => (first | exact fun _ _ _ => trivial | (intro g' st' hr'; have hro9 := st' _ _ (by with_reducible assumption); exact ⟨_, _, _, _, _, hro9⟩))
  k_with "c fin2" => (((try case p1 => k_extra "c p"); (try case p2 => k_extra "c p"); (try case p3 => k_extra "c p"); (try case p4 => k_extra "c p"); (try case p5 => k_extra "c p"); (case h3 => k_extra "c ro"); k_whole))
  k_with "c fin" => ((k_extra "c use"; k_extra "c fin2"))
  k_with "c enter" => ((refine spec_enter (by assumption) (by assumption) (by assumption) (by assumption) (by assumption) (by assumption) (by k_is) (by k_is) (by first | exact room_of (by with_reducible assumption) | (simp only [recursionLimit]; omega)) (by first | exact BindsTo.of_eq rfl | exact binds_K (Frag.In.keeps (by assumption) (by assumption)) rfl (by k_is) rfl rfl rfl) (by exact locs rfl) ?_ (by exact rfl) (by exact rfl) (by exact rfl) (by decide); intro _ _ _ _; (try dsimp only); (try k_fold)))
  k_with "c part" => (first | exact Part.nil | (apply Part.out; (· k_mem); (· k_extra "c part")) | (apply Part.stay; (· k_all); (· k_extra "c part")) | (refine part_tail ?_; k_extra "c tail"))
  k_with "c tail" => (first | exact List.forall_mem_nil _ | (refine List.forall_mem_cons.mpr ⟨?_, ?_⟩; (· k_extra "c apart"); (· k_extra "c tail")))
  k_with "c apart" => (first | exact OwnOff.ne (by assumption) (by k_memK) | (refine allLt_apart ?_; k_extra "c conj"))
  k_with "c conj" => (first | assumption | exact And.right (by k_extra "c conj"))
  k_with "c adr" => (first | exact List.forall_mem_nil _ | (refine List.forall_mem_cons.mpr ⟨?_, ?_⟩; (· k_memK); (· k_extra "c adr")))
  k_with "c pre" => (first | exact List.forall_mem_nil _ | (refine List.forall_mem_cons.mpr ⟨?_, ?_⟩; (· k_mem); (· k_extra "c pre")))
  k_with "call builtin:len" => ((k_here; (with_reducible show wpAny _ _ (call (Value.builtin "len") [Value.ref _]) _ _ _); (with_unfolding_all refine len_mine (by is_list) (by (first | omega | (simp only [List.length_cons, List.length_nil, List.length_append]; omega))) ?_)))
  k_with "subscriptTail" => ((k_here; (with_reducible show wpAny _ _ (subscriptTail _ _ (Value.ref _) (Value.int _ _)) _ _ _); (with_unfolding_all refine item_open (by is_list) (by omega) (by omega) (by omega) ?_ (by with_unfolding_all rfl)); intro _ _ _))
  k_with "call type:range" => ((k_here; (with_reducible show wpAny _ _ (call _ [_]) _ _ _); (with_unfolding_all refine range1_rows (by k_asm) (by k_asm) ?_); intro _ _ _ _ _ _ _ _ _; (try k_sweep)))
  k_with "call builtin:list.append" => ((k_here; (with_reducible show wpAny _ _ (call (Value.builtin _) [Value.ref _, _]) _ _ _); k_dflt (refine append_K (by k_asm) (by k_asm) (by k_upd) ?_ (by first | exact small_size (by assumption) | size_fits)); intro _ _ _; (try k_sweep)))
  k_with "binaryOp Add str str" => ((k_here; (refine add_mine ?_ (by (first | omega | (simp only [Str.length_append]; omega))) (by (first | omega | (simp only [Str.length_append]; omega)))); intro _ _))
  k_with "call type:list" => ((k_here; (with_reducible show wpAny _ _ (call (Value.type "list") [Value.ref _]) _ _ _); k_dflt (refine list_mine (by k_asm) (by k_asm) (by k_mem) (by omega) ?_); intro _ _ _ _ _ l9; (try k_lt l9); (try (revert l9; intro _)); (try k_sweep)))
  k_with "callWith ref" => ((k_here; k_dflt (first | refine callWith_K (by with_reducible assumption) (by k_is) ?_ | refine callWith_K0 (by k_in) (by k_is) ?_)))
  k_with "subscriptTail" => (k_here; (with_reducible show wpAny _ _ (subscriptTail _ _ (Value.str _ _) (Value.int _ _)) _ _ _); (refine item_known (by with_reducible assumption) (by omega) (by omega) (by assumption) ?_ (by with_unfolding_all rfl) (by intro _; with_unfolding_all rfl)); (try dsimp only))
  k_with "subscriptTail Name Name str int" => k_extra "subscriptTail"
  k_with "subscriptTail Name BinOp str int" => k_extra "subscriptTail"
  k_with "compareOp In str str" => (k_here; first | refine in_b (by with_reducible assumption) ?_ | refine in_b (b := true) (by decide +kernel) ?_ | refine in_b (b := false) (by decide +kernel) ?_)
  k_with "compareOp Eq str str" => (k_here; first | refine eq_b (by with_reducible assumption) ?_ | refine eq_b (b := true) (by decide +kernel) ?_ | refine eq_b (b := false) (by decide +kernel) ?_)
  k_with "compareOp NotEq str str" => (k_here; first | refine ne_b (by with_reducible assumption) ?_ | refine ne_b (b := true) (by decide +kernel) ?_ | refine ne_b (b := false) (by decide +kernel) ?_)
  k_with "subscriptTail Name Slice str ref" => (k_here; (refine slice_known (s := ⟨_, _, _, _, _⟩) (by k_asm) (by k_asm) (by with_reducible assumption) (by assumption) ?_ (by with_unfolding_all rfl) (by intro _; with_unfolding_all rfl)); intro _ _ _ _ _; (try dsimp only); (try k_sweep))
  k_with "compareOp Eq int int" => (k_here; refine eqi_b (by with_reducible assumption) ?_)
  k_with "call ref" => (k_here; (with_reducible show wpAny _ _ (call (Value.ref 175) _) _ _ _); (try k_fold); k_dflt (refine use_by (by k_asm) (by k_asm) (by k_asm) (by k_asm) (by k_asm) (by exact rfl) (by exact rfl) (by k_extra "c pre") (by k_extra "c part") (by k_extra "c dp") (by k_extra "c un") (peek0K_spec (by k_extra "c p") (by k_extra "c p") (by k_extra "c p")) (by k_extra "c ro") ?_); walk_at "c in"; rename_i P'; obtain ⟨hv', htl'⟩ := P'; subst hv' htl'; (walk_at "c aftw"))
  k_with "call ref" => (k_here; (with_reducible show wpAny _ _ (call (Value.ref 175) [_, _]) _ _ _); (try k_fold); k_dflt (refine use_by (by k_asm) (by k_asm) (by k_asm) (by k_asm) (by k_asm) (by exact rfl) (by exact rfl) (by k_extra "c pre") (by k_extra "c part") (by k_extra "c dp") (by k_extra "c un") (peekK_spec (by k_extra "c p") (by k_extra "c p") (by k_extra "c p") (by k_extra "c p") (by k_extra "c p")) (by k_extra "c ro") ?_); walk_at "c in"; rename_i P'; obtain ⟨hv', htl'⟩ := P'; subst hv' htl'; (walk_at "c aftw"))
  k_with "subscriptTail Name Constant ref int" => (k_here; (with_reducible show wpAny _ _ (subscriptTail _ _ (Value.ref _) (Value.int _ _)) _ _ _); k_dflt (refine item_tupleL (by exact word_tup (by k_asm) (by with_reducible assumption)) (by decide) (by decide) (by rfl) (by rfl) ?_ (by with_unfolding_all rfl) (by intro _; with_unfolding_all rfl)))
  k_with "exec Raise some none" => (k_here; (with_reducible show wpAny _ _ (exec (Stmt.Raise (some (Expr.Call (Expr.Name _ _) (_ :: _) [] _)) none _) _) _ _ _); k_dflt (refine Raise_mine (by rfl) ?_))
  k_with "call ref" => (k_here; (with_reducible show wpAny _ _ (call (Value.ref 64) _) _ _ _); k_dflt (refine exc_make (by k_asm) (by k_asm) (by k_asm) (by k_asm) (by k_asm) (by exact rfl) (by exact rfl) (by k_extra "c dp") (by k_extra "c un") ?_); intro _ _ _ _ _ _ _ _ _ _ _ _)
  k_with "compareOp In str ref" => (k_here; (with_reducible show wpAny _ _ (compareOp CmpOp.In (Value.str _ _) (Value.ref 68)) _ _ _); k_dflt (refine in_kw (by k_asm) (by k_asm) (by with_reducible assumption) ?_))
  k_with "call ref" => (k_here; (with_reducible show wpAny _ _ (call (Value.ref 190) _) _ _ _); (try k_fold); k_dflt (refine use_by (by k_asm) (by k_asm) (by k_asm) (by k_asm) (by k_asm) (by exact rfl) (by exact rfl) (by k_extra "c pre") (by k_extra "c part") (by k_extra "c dp") (by k_extra "c un") (looks0_spec (by k_extra "c p") (by k_extra "c p") (by k_extra "c p")) (by k_extra "c ro") ?_); walk_at "c in"; rename_i P'; obtain ⟨hv', htl'⟩ := P'; subst hv' htl'; (walk_at "c aftw"))
  k_with "call ref" => (k_here; (with_reducible show wpAny _ _ (call (Value.ref 182) _) _ _ _); (try k_fold); k_dflt (refine use_by (by k_asm) (by k_asm) (by k_asm) (by k_asm) (by k_asm) (by exact rfl) (by exact rfl) (by k_extra "c pre") (by k_extra "c part") (by k_extra "c dp") (by k_extra "c un") (takew_spec (by k_extra "c p") (by k_extra "c p") (by k_extra "c p")) (by k_extra "c ro") ?_); walk_at "c in"; rename_i P'; obtain ⟨hv', _, htl'⟩ := P'; subst hv' htl'; (walk_at "c aftw"))
  exact rfl
def lookB (wd : Wd) (tt : Str) : Bool := sigK wd.k && wd.t == tt
set_option maxHeartbeats 2000000 in
theorem expect_spec {prog : Program} {w : World} {x d r b : Addr} {a : Nat} {t1 t2 t3 ta td tx : Tok} {tt : Str} {vs : List Value} {c : Nat} {wd : Wd} (hw : vs[a]? = some (.ref b)) (hl : vs.length ≤ 1000) (ha : a < vs.length) (htt : tt.length ≤ 1000) :
    CSpecX prog w 8 80 197 [.ref x, .str tt tx] (wsL w x d r a t1 t2 t3 ta td vs c) (fun g => WordAt g b wd)
      (fun v tl => lookB wd tt = true ∧ v = .ref b ∧ ∃ ta', tl = wsL w x d r ((if (wd.k != Str.ofString "end") = true then a + 1 else a : Nat) : Int) t1 t2 t3 ta' td vs c)
      (fun dx tl => lookB wd tt = false ∧ FaultLed w wd.pos (wsL w x d r a t1 t2 t3 ta td vs c) dx tl) := by
  w_top off
  unfold CSpecX
  intro dp un gd outer A₀ base g s p loose mean mg mb R B st sz X T N0 hro hd hu hret herr
  obtain ⟨hxd, hrd, hxr⟩ := ws_apart N0
  unfold wsL at N0
  obtain ⟨u1, u2, u3, v4, n4, hb⟩ := hro
  have hbb := hb
  walk_at "c enter"
  cases hn : (sigK wd.k && wd.t == tt) with
  | false =>
    repeat' ((fail_if_success (with_reducible show RaisedIs _ _ _)); first | (k_unfold; (try dsimp only)) | (k_end; wrow_close) | walk1 | (dsimp only; walk1) | (leave1; walk_say "STEP leave1"; try dsimp only) | fail "no step")
    rename_i e9 t9 dx9 k19 k29 h9 tk9 F9 N9 ap9 l19 l29
    refine ⟨e9, t9, dx9, rfl, exc_cls (X.keeps F9.keep), (N9 _ (.head _)).1, ?_⟩
    exact raise_end herr B F9 N9 (.head _) (.tail _ (.tail _ (.head _))) (fault_tl ap9 l19 l29) ⟨hn, _, _, _, _, _, rfl⟩ rfl
  | true =>
    repeat' ((fail_if_success (with_reducible show R _ _)); first | (k_unfold; (try dsimp only)) | (k_end; wrow_close) | walk1 | (dsimp only; walk1) | (leave1; walk_say "STEP leave1"; try dsimp only) | fail "no step")
    rename Fr _ _ _ _ => F9
    rename News _ _ _ _ => N9
    exact spec_end hret F9 N9 ⟨hn, rfl, _, rfl⟩
end
-- UseX2
section
theorem mth_apart {w : World} {h g : Heap} {x d r mth : Addr} {a : Int} {t1 t2 t3 ta td : Tok} {vs : List Value} {c : Nat} {f self : Value} (N : ∀ q ∈ (mth, methodObj f self) :: wsL w x d r a t1 t2 t3 ta td vs c, h.get? q.1 = some q.2 ∧ g.get? q.1 = none) : @Ne Nat mth x ∧ @Ne Nat mth d ∧ @Ne Nat mth r := by
  have h0 := (N _ (.head _)).1
  have h1 := (N _ (.tail _ (.head _))).1
  have h2 := (N _ (.tail _ (.tail _ (.head _)))).1
  have h3 := (N _ (.tail _ (.tail _ (.tail _ (.head _))))).1
  refine ⟨fun e => ?_, fun e => ?_, fun e => ?_⟩
  · subst e; rw [h0] at h1; exact absurd (congrArg Obj.cls (Option.some.inj h1)) (by intro e; cases e)
  · subst e; rw [h0] at h2
    exact absurd (show ("method" : String) = "dict" from congrArg (fun o : Obj => match o.cls with | .type s => s | _ => "") (Option.some.inj h2)) (by decide)
  · subst e; rw [h0] at h3
    exact absurd (show ("method" : String) = "list" from congrArg (fun o : Obj => match o.cls with | .type s => s | _ => "") (Option.some.inj h3)) (by decide)
end
-- GetExc
section
section
variable {prog : Program} {w : World} {A : Around} {E : Value → Shared → Prop} {s : Shared} {K : Frag} {x C : Addr} {ox : Obj} {od : Obj} {name : Str} {v : Value} {expr : Bool} {Q : Value → Shared → Prop}
set_option maxHeartbeats 1000000 in
theorem get_exc (X : K.In s.heap) (I : InstAt s.heap x ox C (some od)) (hga : findIn K (.ref C) "__getattribute__" = some (some (.builtin "BaseException.__getattribute__"))) (hgh : findIn K (.ref C) "__getattr__" = some none)
    (hsub : mroIn K C (.type "BaseException") = some true) (hf : findObj K C (some od) name = some (.value v)) (hh : handedIn v = true) (h : Q v { s with toks := s.toks + 1 }) :
    wpAny (model prog w) A (getAttr (.ref x) name expr) Q E s := by
  obtain ⟨hp, g, d, t, os⟩ := s
  have SF := PySem.F.attr_Exception.ga
  have L0 := I.type (M := model prog w)
  have L1 := looks_findIn (M := model prog w) X hga
  have L2 := looks_findIn (M := model prog w) X hgh
  have L3 := looks_find (M := model prog w) X I hf
  have Ls : Looks (model prog w) hp (isInstance (.ref x) (.type "BaseException")) true := L0.andThen (looks_mroIn X hsub)
  unfold getAttr getAttrBy
  refine wpAny_bind (wpAny_mkText (wpAny_holding (wpAny_bind (L0.at (wpAny_bind (L1.at ?_))))))
  show wpAny _ _ (getAttrByItsOwn (.ref x) (.str name t) (.ref C) (.builtin "BaseException.__getattribute__") true expr) _ _ _
  unfold getAttrByItsOwn hookBefore callGetattribute boundAndCalled
  refine wpAny_bind ?_
  show wpAny _ _ (typeLookup (.ref C) "__getattr__") _ _ _
  refine L2.at ?_
  refine wpAny_bind (wpAny_attempt (wpAny_holding ?_))
  have e9 : (expr && onTheHeap (.builtin "BaseException.__getattribute__")) = false := by cases expr <;> rfl
  rw [e9]
  show wpAny _ _ (bindSpecial (.builtin "BaseException.__getattribute__") (.ref x) >>= _) _ _ _
  refine wpAny_bind (wpAny_of_eq (SF.bind _) ?_)
  refine wpAny_call ?_
  refine codeAny_call_builtin SF.plain PySem.F.entry_bexc_ga (@check_slot (model prog w) _ _ _ "BaseException.__getattribute__" "BaseException" "__getattribute__" (.ref x) [.str name t] [] _ ?_ ?_ Ls (PySem.F.args_bexc_ga _ _) ?_)
  · decide +kernel
  · decide +kernel
  unfold Builtin.«object.__getattribute__»
  refine wpAny_bind (wpAny_pure (wpAny_bind (wpAny_pure (wpAny_bind (L0.at (wpAny_bind (L3.at ?_)))))))
  refine wpAny_pure ?_
  show wpAny _ _ (handedOut v) _ _ _
  rw [handedOut_of hh]; exact wpAny_pure h
end
end
-- GetSpot
section
theorem rows_GetSpot : hd.heap_39 = hd.heap_39 := by
  k_with_none
  k_with "subscriptTail Name Constant ref int" => ((k_here; (with_reducible show wpAny _ _ (subscriptTail _ _ (Value.ref _) (Value.int _ _)) _ _ _); (with_unfolding_all refine item_litK (by is_list) (by decide) (by decide) (by rfl) ?_ (by with_unfolding_all rfl))))
  k_with "binaryOp Mult int int" => (refine mul_int ?_ (IntMulOk.of_left (intBits_fmod (by decide) (by decide))))
  k_with "k_room" => (((try simp only [depth_mark, depth_under_make, depth_under_kw, depth_in1, depth_deeper, depth_caller]); (simp only [recursionLimit]; omega)))
  k_with "k_units" => (((try simp only [units_in1, units_deeper, Around.mark_units, units_caller]); (try dsimp only); first | exact line_of (by with_reducible assumption) (by exact Nat.le_of_ble_eq_true rfl) | (have hcL9 := cLine_is; omega)))
  k_with "k_in" => (exact Frag.In.keeps (by with_reducible assumption) (Fr.keep (by with_reducible assumption)))
  k_with "k_ne" => ((refine neN ?_; (try dsimp only); first | exact Nat.ne_of_lt (by k_extra "c lt") | exact Nat.ne_of_gt (by k_extra "c lt") | exact ne_l1 (by k_extra "c lt") | exact ne_l2 (by k_extra "c lt") | exact ne_r1 (by k_extra "c lt") | exact ne_r2 (by k_extra "c lt") | omega))
  k_with "c use" => (((case k1 => k_asm); (case k2 => k_asm); (case k3 => k_asm); (case k4 => k_asm); (case k5 => k_asm); (case k6 => exact rfl); (case k7 => exact rfl); (case h1 => k_extra "c pre"); (case h2 => k_extra "c part"); (case h4 => k_extra "c dp"); (case h5 => k_extra "c un")))
  k_with "until iter" => (repeat' ((fail_if_success (with_reducible show wpAny _ _ (pyIter _) _ _ _)); first | (k_unfold; (try dsimp only)) | (k_end; wrow_close) | walk1 | (dsimp only; walk1) | (leave1; walk_say "STEP leave1"; try dsimp only) | fail "no step"))
  k_with "until while" => (repeat' ((fail_if_success (with_reducible show wpAny _ _ (exec (Stmt.While _ _ _ _) _) _ _ _)); first | (k_unfold; (try dsimp only)) | (k_end; wrow_close) | walk1 | (dsimp only; walk1) | (leave1; walk_say "STEP leave1"; try dsimp only) | fail "no step"))
  k_with "until kswend" => (repeat' ((fail_if_success (with_reducible show KswEnd _ _ _ _ _ _ _ _ _ _ _ _)); first | (k_unfold; (try dsimp only)) | (k_end; wrow_close) | walk1 | (dsimp only; walk1) | (leave1; walk_say "STEP leave1"; try dsimp only) | fail "no step"))
  k_with "ite" => ((k_closed; first | with_reducible refine ite_pos (by decide) ?_ | with_reducible refine ite_neg (by decide) ?_))
  k_with "subscriptTail Call" => ((k_here; k_dflt (refine kba_turn (value' := PySem.Expr.Name (PySem.Str.ofString "_") ⟨0, 0, 0, 0⟩) (fun _ => rfl) ?_)))
  k_with "subscriptTail Subscript" => ((k_here; (first | (with_reducible show wpAny _ _ (subscriptTail _ _ (Value.ref _) _) _ _ _) | (with_reducible show wpAny _ _ (subscriptTail _ _ (Value.str _ _) (Value.ref _)) _ _ _)); k_dflt (refine kba_turn (value' := PySem.Expr.Name (PySem.Str.ofString "_") ⟨0, 0, 0, 0⟩) (fun _ => rfl) ?_)))
  k_with "c dp" => (((try dsimp only); first | exact dp_of (by with_reducible assumption) (by exact Nat.le_of_ble_eq_true rfl) | exact dp_of1 (by with_reducible assumption) (by exact Nat.le_of_ble_eq_true rfl) | omega))
  k_with "c un" => (((try dsimp only); first | exact un_of (by with_reducible assumption) (by exact Nat.le_of_ble_eq_true rfl) | exact un_of1 (by with_reducible assumption) (by exact Nat.le_of_ble_eq_true rfl) | omega))
  k_with "c a" => (with_reducible assumption)
  k_with "c lt" => (first | with_reducible assumption | exact a0 (by k_extra "c a") | exact a1 (by k_extra "c a") | exact a2 (by k_extra "c a") | exact a3 (by k_extra "c a") | exact a4 (by k_extra "c a") | exact a5 (by k_extra "c a") | exact a6 (by k_extra "c a") | exact a7 (by k_extra "c a") | exact a8 (by k_extra "c a") | exact a9 (by k_extra "c a") | exact a10 (by k_extra "c a") | exact a11 (by k_extra "c a") | exact a12 (by k_extra "c a") | exact a13 (by k_extra "c a"))
  k_with "c p" => (first | with_reducible assumption | k_ne | exact Nat.le_of_ble_eq_true rfl | decide | omega | assumption | exact rfl)
  k_with "c ro" => (first | exact fun _ _ _ => trivial | (intro g' st' hr'; have hro9 := st' _ _ (by with_reducible assumption); exact ⟨_, _, _, _, _, hro9⟩))
  k_with "c fin2" => (((try case p1 => k_extra "c p"); (try case p2 => k_extra "c p"); (try case p3 => k_extra "c p"); (try case p4 => k_extra "c p"); (try case p5 => k_extra "c p"); (case h3 => k_extra "c ro"); k_whole))
  k_with "c fin" => ((k_extra "c use"; k_extra "c fin2"))
  k_with "c enter" => ((refine spec_enter (by assumption) (by assumption) (by assumption) (by assumption) (by assumption) (by assumption) (by k_is) (by k_is) (by first | exact room_of (by with_reducible assumption) | (simp only [recursionLimit]; omega)) (by first | exact BindsTo.of_eq rfl | exact binds_K (Frag.In.keeps (by assumption) (by assumption)) rfl (by k_is) rfl rfl rfl) (by exact locs rfl) ?_ (by exact rfl) (by exact rfl) (by exact rfl) (by decide); intro _ _ _ _; (try dsimp only); (try k_fold)))
  k_with "c part" => (first | exact Part.nil | (apply Part.out; (· k_mem); (· k_extra "c part")) | (apply Part.stay; (· k_all); (· k_extra "c part")) | (refine part_tail ?_; k_extra "c tail"))
  k_with "c tail" => (first | exact List.forall_mem_nil _ | (refine List.forall_mem_cons.mpr ⟨?_, ?_⟩; (· k_extra "c apart"); (· k_extra "c tail")))
  k_with "c apart" => (first | exact OwnOff.ne (by assumption) (by k_memK) | (refine allLt_apart ?_; k_extra "c conj"))
  k_with "c conj" => (first | assumption | exact And.right (by k_extra "c conj"))
  k_with "c adr" => (first | exact List.forall_mem_nil _ | (refine List.forall_mem_cons.mpr ⟨?_, ?_⟩; (· k_memK); (· k_extra "c adr")))
  k_with "c pre" => (first | exact List.forall_mem_nil _ | (refine List.forall_mem_cons.mpr ⟨?_, ?_⟩; (· k_mem); (· k_extra "c pre")))
  k_with "call builtin:len" => ((k_here; (with_reducible show wpAny _ _ (call (Value.builtin "len") [Value.ref _]) _ _ _); (with_unfolding_all refine len_mine (by is_list) (by (first | omega | (simp only [List.length_cons, List.length_nil, List.length_append]; omega))) ?_)))
  k_with "subscriptTail" => ((k_here; (with_reducible show wpAny _ _ (subscriptTail _ _ (Value.ref _) (Value.int _ _)) _ _ _); (with_unfolding_all refine item_open (by is_list) (by omega) (by omega) (by omega) ?_ (by with_unfolding_all rfl)); intro _ _ _))
  k_with "call type:range" => ((k_here; (with_reducible show wpAny _ _ (call _ [_]) _ _ _); (with_unfolding_all refine range1_rows (by k_asm) (by k_asm) ?_); intro _ _ _ _ _ _ _ _ _; (try k_sweep)))
  k_with "call builtin:list.append" => ((k_here; (with_reducible show wpAny _ _ (call (Value.builtin _) [Value.ref _, _]) _ _ _); k_dflt (refine append_K (by k_asm) (by k_asm) (by k_upd) ?_ (by first | exact small_size (by assumption) | size_fits)); intro _ _ _; (try k_sweep)))
  k_with "binaryOp Add str str" => ((k_here; (refine add_mine ?_ (by (first | omega | (simp only [Str.length_append]; omega))) (by (first | omega | (simp only [Str.length_append]; omega)))); intro _ _))
  k_with "call type:list" => ((k_here; (with_reducible show wpAny _ _ (call (Value.type "list") [Value.ref _]) _ _ _); k_dflt (refine list_mine (by k_asm) (by k_asm) (by k_mem) (by omega) ?_); intro _ _ _ _ _ l9; (try k_lt l9); (try (revert l9; intro _)); (try k_sweep)))
  k_with "callWith ref" => ((k_here; k_dflt (first | refine callWith_K (by with_reducible assumption) (by k_is) ?_ | refine callWith_K0 (by k_in) (by k_is) ?_)))
  exact rfl
theorem get_spot {prog : Program} {w : World} {A : Around} {E : Value → Shared → Prop} {s : Shared} {h₀ : Heap} {L e dx : Addr} {m : Str → Option Value} {news : Led} {ws : Array Value} {sl : Array (Option Value)} {msg : Str} {tm : Tok} {spot : Int} {ts k1 k2 : Tok} {expr : Bool} {Q : Value → Shared → Prop}
    (F : Fr h₀ L s.heap m) (X₀ : (hd.heap_39 w.params).In h₀) (N : News h₀ L s.heap news) (he : (e, ({ cls := .ref 64, dict := some dx, data := .fields ws, slots := sl } : Obj)) ∈ news) (hd : (dx, faultD w msg tm spot ts k1 k2) ∈ news)
    (h : Q (.int spot ts) { s with toks := s.toks + 1 }) : wpAny (model prog w) A (getAttr (.ref e) (Str.ofString "spot") expr) Q E s := by
  have I : InstAt s.heap e { cls := .ref 64, dict := some dx, data := .fields ws, slots := sl } 64 (some (faultD w msg tm spot ts k1 k2)) := ⟨(N _ he).1, rfl, rfl, (N _ hd).1⟩
  refine get_exc (X₀.keeps F.keep) I (by k_is) (by k_is) (by k_is) (findObj_own (attr := none) (by k_is) (by k_is) (by k_is) (v := .int spot ts) ?_) rfl h
  rfl
end
-- UseT
section
theorem envL_mem {b L : Addr} {env : Env} {outer : List Env} (hf : env.frame = some L) (hm : b ∈ (env :: outer).filterMap (·.frame)) : b = L ∨ b ∈ outer.filterMap (·.frame) := by
  obtain ⟨e', he, hb⟩ := List.mem_filterMap.mp hm
  rcases List.mem_cons.mp he with rfl | he
  · rw [hf] at hb; exact .inl (Option.some.inj hb).symm
  · exact .inr (List.mem_filterMap.mpr ⟨e', he, hb⟩)
section
variable {prog : Program} {w : World} {A₀ : Around} {E : Value → Shared → Prop} {s : Shared} {base h₀ : Heap} {outer : List Env} {env : Env} {L : Addr} {m : Str → Option Value}
  {p : Program} {loose : List Str} {mean : ExcName → Option Value} {mg mb : Str → Option Value} {pre news rest : Led} {dp un d u : Nat} {gd : Option (List Code)} {f : Addr} {args : List Value} {ro : Heap → Prop} {Post : Value → Led → Prop} {Q : Value → Shared → Prop}
set_option maxHeartbeats 2000000 in
/-- a call of what may catch a fault: the ground turns -/
theorem use_codeT (B : Below A₀ base outer h₀) (F : Fr h₀ L s.heap m) (X : (hd.heap_39 w.params).In h₀) (N : News h₀ L s.heap news) (T : Top p loose mean mg mb h₀) (OB : OnBase w base h₀ outer p loose mean mg mb) (hf : env.frame = some L) (hk : env.scope.kind = .function)
    (C : CSpecT prog w d u f args pre ro Post) (hpre : ∀ q ∈ pre, q ∈ news) (hrest : Part news pre rest) (hro : ∀ g : Heap, h₀.StaysIn g → (∀ q ∈ rest, g.get? q.1 = some q.2) → ro g) (hd9 : dp + d < 900) (hu : un + u < 9000)
    (ret : ∀ v h' tk' tl h₁, KtsTurn (outer.filterMap (·.frame)) h₀ h₁ → Fr h₁ L h' m → News h₁ L h' (tl ++ rest) → Apart tl rest → Post v tl → Below A₀ base outer h₁ → (hd.heap_39 w.params).In h₁ → Top p loose mean mg mb h₁ → OnBase w base h₁ outer p loose mean mg mb → Q v { s with heap := h', toks := tk' }) :
    codeAny (model prog w) (ar dp un gd (env :: outer)) (.call (.ref f) ⟨args, []⟩) (fun r s' => match r with | .ok (.ret v) => Q v s' | .ok _ => False | .error e => E e s') s := by
  have Np : News h₀ L s.heap pre := fun q hq => N q (hpre q hq)
  obtain ⟨FG, BG, st, -⟩ := groundX (R := fun _ _ => True) (A := ar dp un gd (env :: outer)) B F Np rfl hf hk
  have hg : ∀ q ∈ rest, (hideAll s.heap (pre.map (·.1))).get? q.1 = some q.2 := fun q hq => hideAll_get _ (N q (hrest.rest q hq).1).1 fun hm => by
    obtain ⟨p', hp', e⟩ := List.mem_map.mp hm
    exact (hrest.rest q hq).2 p' hp' e
  have nL₀ : h₀.get? L = none := kts_self F
  obtain ⟨oL, es, ep, hL, r1, r2, r3⟩ := FG.ns
  have DG : KtsDicts ((env :: outer).filterMap (·.frame)) (hideAll s.heap (pre.map (·.1))) := fun b hb => by
    rcases envL_mem hf hb with rfl | hb
    · exact ⟨oL, es, ep, hL, r1⟩
    · obtain ⟨o, es', n', ho', hd'⟩ := OB.D b hb
      exact ⟨o, es', n', st b o ho', hd'⟩
  refine C dp un gd (env :: outer) _ base _ s p loose mean mg mb _ BG (fun b o e => of_hideAll _ e) (Nat.le_of_eq (hideAll_size _ _)) (X.keeps st) (T.keeps st) (fun q hq => ⟨(Np q hq).1, hideAll_none _ (List.mem_map_of_mem hq)⟩) (hro _ st hg) ⟨OB.XB, OB.TB, DG⟩ hd9 hu ?_
  intro v h' tk' tl g' T' st' ntl P
  obtain ⟨sl, hs⟩ := T'.up hL
  have inH : ∀ b o, h₀.get? b = some o → b ∉ outer.filterMap (·.frame) → h'.get? b = some o := fun b o e nmem => st' b o (T'.other b o (st b o e) (fun q => by
    rcases envL_mem hf q with z | z
    · rw [z, nL₀] at e
      cases e
    · exact nmem z))
  obtain ⟨T₁, S₁⟩ := kts_turn_at (h := h') (fs := outer.filterMap (·.frame)) (g := h₀)
    (fun b hb => by
      obtain ⟨_, o, ho', _⟩ := B.frames.mem hb
      exact ⟨o, ho'⟩)
    inH
    (fun b o e hm => by
      obtain ⟨sl', hs'⟩ := T'.up (st b o e)
      exact ⟨sl', st' _ _ hs'⟩)
  have B₃ : Below A₀ base outer (ktsHeap h' (outer.filterMap (·.frame)) h₀) := ⟨B.stack, fun b o e => T₁.other b o (B.stays b o e) (fun hm => by
    rw [(B.frames.mem hm).1] at e
    cases e), B.frames.of_keeps fun b o e _ => by
    obtain ⟨sl', hs'⟩ := T₁.up e
    exact ⟨_, hs', rfl⟩⟩
  have gone : ∀ b, g'.get? b = none → h₀.get? b = none := fun b e => by
    cases q : h₀.get? b with
    | none => rfl
    | some o =>
      obtain ⟨sl', hs'⟩ := T'.up (st _ _ q)
      rw [hs'] at e
      cases e
  have notF : ∀ q ∈ rest, q.1 ∉ (env :: outer).filterMap (·.frame) := fun q hq hm => by
    rcases envL_mem hf hm with z | z
    · exact (N q (hrest.rest q hq).1).2.1 z
    · obtain ⟨_, o, ho', _⟩ := B.frames.mem z
      rw [(N q (hrest.rest q hq).1).2.2] at ho'
      cases ho'
  have hg' : ∀ q ∈ rest, g'.get? q.1 = some q.2 := fun q hq => T'.other _ _ (hg q hq) (notF q hq)
  refine ret v h' tk' tl _ T₁ ⟨⟨_, es, ep, st' _ _ hs, r1, r2, r3⟩, S₁, by rw [T₁.size]; exact F.above⟩ (fun q hq => ?_) (fun q hq p' hp' e => ?_) P B₃ (OB.XB.keeps B₃.stays) (OB.TB.keeps B₃.stays) ⟨OB.XB, OB.TB, OB.D.turn T₁⟩
  · rcases List.mem_append.mp hq with hq | hq
    · refine ⟨(ntl q hq).1, fun e => ?_, T₁.none_ _ (gone _ (ntl q hq).2)⟩
      have := (ntl q hq).2; rw [e, hs] at this; cases this
    · exact ⟨st' _ _ (hg' q hq), (N q (hrest.rest q hq).1).2.1, T₁.none_ _ (N q (hrest.rest q hq).1).2.2⟩
  · have := hg' p' hp'; rw [e, (ntl q hq).2] at this; cases this
theorem use_specT (B : Below A₀ base outer h₀) (F : Fr h₀ L s.heap m) (X : (hd.heap_39 w.params).In h₀) (N : News h₀ L s.heap news) (T : Top p loose mean mg mb h₀) (OB : OnBase w base h₀ outer p loose mean mg mb) (hf : env.frame = some L) (hk : env.scope.kind = .function)
    (C : CSpecT prog w d u f args pre ro Post) (hpre : ∀ q ∈ pre, q ∈ news) (hrest : Part news pre rest) (hro : ∀ g : Heap, h₀.StaysIn g → (∀ q ∈ rest, g.get? q.1 = some q.2) → ro g) (hd9 : dp + d < 900) (hu : un + u < 9000)
    (ret : ∀ v h' tk' tl h₁, KtsTurn (outer.filterMap (·.frame)) h₀ h₁ → Fr h₁ L h' m → News h₁ L h' (tl ++ rest) → Apart tl rest → Post v tl → Below A₀ base outer h₁ → (hd.heap_39 w.params).In h₁ → Top p loose mean mg mb h₁ → OnBase w base h₁ outer p loose mean mg mb → Q v { s with heap := h', toks := tk' }) :
    wpAny (model prog w) (ar dp un gd (env :: outer)) (call (.ref f) args) Q E s := wpAny_call (use_codeT B F X N T OB hf hk C hpre hrest hro hd9 hu ret)
end
end
-- Lam
section
theorem rows_Lam : hd.heap_39 = hd.heap_39 := by
  k_with "subscriptTail" => (k_here; (with_reducible show wpAny _ _ (subscriptTail _ _ (Value.str _ _) (Value.int _ _)) _ _ _); (refine item_known (by with_reducible assumption) (by omega) (by omega) (by assumption) ?_ (by with_unfolding_all rfl) (by intro _; with_unfolding_all rfl)); (try dsimp only))
  k_with "subscriptTail Name Name str int" => k_extra "subscriptTail"
  k_with "subscriptTail Name BinOp str int" => k_extra "subscriptTail"
  k_with "compareOp In str str" => (k_here; first | refine in_b (by with_reducible assumption) ?_ | refine in_b (b := true) (by decide +kernel) ?_ | refine in_b (b := false) (by decide +kernel) ?_)
  k_with "compareOp Eq str str" => (k_here; first | refine eq_b (by with_reducible assumption) ?_ | refine eq_b (b := true) (by decide +kernel) ?_ | refine eq_b (b := false) (by decide +kernel) ?_)
  k_with "compareOp NotEq str str" => (k_here; first | refine ne_b (by with_reducible assumption) ?_ | refine ne_b (b := true) (by decide +kernel) ?_ | refine ne_b (b := false) (by decide +kernel) ?_)
  k_with "subscriptTail Name Slice str ref" => (k_here; (refine slice_known (s := ⟨_, _, _, _, _⟩) (by k_asm) (by k_asm) (by with_reducible assumption) (by assumption) ?_ (by with_unfolding_all rfl) (by intro _; with_unfolding_all rfl)); intro _ _ _ _ _; (try dsimp only); (try k_sweep))
  k_with "compareOp Eq int int" => (k_here; refine eqi_b (by with_reducible assumption) ?_)
  k_with "call ref" => (k_here; (with_reducible show wpAny _ _ (call (Value.ref 175) _) _ _ _); (try k_fold); k_dflt (refine use_by (by k_asm) (by k_asm) (by k_asm) (by k_asm) (by k_asm) (by exact rfl) (by exact rfl) (by k_extra "c pre") (by k_extra "c part") (by k_extra "c dp") (by k_extra "c un") (peek0K_spec (by k_extra "c p") (by k_extra "c p") (by k_extra "c p")) (by k_extra "c ro") ?_); walk_at "c in"; rename_i P'; obtain ⟨hv', htl'⟩ := P'; subst hv' htl'; (walk_at "c aftw"))
  k_with "call ref" => (k_here; (with_reducible show wpAny _ _ (call (Value.ref 175) [_, _]) _ _ _); (try k_fold); k_dflt (refine use_by (by k_asm) (by k_asm) (by k_asm) (by k_asm) (by k_asm) (by exact rfl) (by exact rfl) (by k_extra "c pre") (by k_extra "c part") (by k_extra "c dp") (by k_extra "c un") (peekK_spec (by k_extra "c p") (by k_extra "c p") (by k_extra "c p") (by k_extra "c p") (by k_extra "c p")) (by k_extra "c ro") ?_); walk_at "c in"; rename_i P'; obtain ⟨hv', htl'⟩ := P'; subst hv' htl'; (walk_at "c aftw"))
  k_with "subscriptTail Name Constant ref int" => (k_here; (with_reducible show wpAny _ _ (subscriptTail _ _ (Value.ref _) (Value.int _ _)) _ _ _); k_dflt (refine item_tupleL (by exact word_tup (by k_asm) (by with_reducible assumption)) (by decide) (by decide) (by rfl) (by rfl) ?_ (by with_unfolding_all rfl) (by intro _; with_unfolding_all rfl)))
  exact rfl
abbrev noArgs : Arguments := { posonlyargs := [], args := [], vararg := none, kwonlyargs := [], kw_defaults := [], kwarg := none, defaults := [] }
abbrev lp (p : Nat × Nat) : PySem.Pos := ⟨230, p.1, 230, p.2⟩
abbrev lamB (p1 p2 p3 p4 : Nat × Nat) : PySem.Expr := .Call (.Attribute (.Name (Str.ofString "here") (lp p1)) (Str.ofString "expect") (lp p2)) [.Name (Str.ofString "text") (lp p3)] [] (lp p4)
abbrev lamS : Scope := { kind := .function, names := [(Str.ofString "here", .free), (Str.ofString "text", .free)], isGenerator := false, isCoroutine := false, more := [] }
abbrev lamC (k1 k2 : Addr) : List (Str × Addr) := [(Str.ofString "text", k2), (Str.ofString "here", k1)]
abbrev lamO (qual : Str) (p1 p2 p3 p4 : Nat × Nat) (k1 k2 : Addr) (pm : Value) (c' : Addr) (ctv : Value) : Obj := kla_obj (Str.ofString "<lambda>") qual noArgs (lamB p1 p2 p3 p4) lamS (lamC k1 k2) pm c' ctv
section
variable {M : Model} {A : Around} {E : Value → Shared → Prop} {s' : Shared} {base g g₂ h : Heap} {outer : List Env} {env : Env} {L a e t dx : Addr} {m : Str → Option Value} {Q : Unit → Shared → Prop} {news tl rest : Led} {vs : List Value}
theorem leave_onXS {cls : Value} (K : Below A base outer g) (F : Fr g L g₂ m) (hf : env.frame = some L) (R : RaisedS base g₂ (env :: outer) e cls t vs news s'.heap) (hsm : g₂.UpToSlots s'.heap)
    (hr : ∀ q ∈ rest, g₂.get? q.1 = some q.2 ∧ g.get? q.1 = none ∧ q.1 ≠ L)
    (hQ : ∀ h', RaisedS base g outer e cls t vs (news ++ rest) h' → g.UpToSlots h' → Q () { s' with heap := h' }) :
    wpAny M (A.deeper env) (leaving env (.ref e)) Q E s' := by
  obtain ⟨⟨B, hB, hBG, hl, hfl, hnew⟩, htup⟩ := R
  have nf : ∀ b, g.get? b = none → b ≠ L → b ∉ (env :: outer).filterMap (·.frame) := fun b hb hn hm => by
    rcases envL_mem hf hm with z | z
    · exact hn z
    · obtain ⟨_, o, ho, _⟩ := K.frames.mem z
      rw [hb] at ho; cases ho
  have key : ∀ q ∈ news ++ rest, B.get? q.1 = some q.2 ∧ g.get? q.1 = none ∧ base.get? q.1 = none := fun q hq => by
    rcases List.mem_append.mp hq with hq | hq
    · exact ⟨(hl q hq).1, kts_none F.keep (hl q hq).2.1, (hl q hq).2.2⟩
    · exact ⟨hBG _ _ (hr q hq).1 (nf _ (hr q hq).2.1 (hr q hq).2.2), (hr q hq).2.1, fresh_of_stays K.stays (hr q hq).2.1⟩
  exact wpAny_leaves_onW (Around.frames_deeper K.stack) hf hfl fun h' x1 x2 =>
    have R : RaisedS base g outer e cls t vs (news ++ rest) h' := ⟨⟨B, hB, fun b o q nm => hBG b o (F.keep b o q) (fun hm => by
      rcases envL_mem hf hm with z | z
      · rw [z, kts_self F] at q
        cases q
      · exact nm z), key, x1, hnew⟩, htup.of_slots x2⟩
    hQ h' R ((Heap.UpToSlots.of_keeps F.keep).trans (hsm.trans x2))
theorem leave_onX (K : Below A base outer g) (F : Fr g L g₂ m) (hf : env.frame = some L) (R : RaisedX base g₂ (env :: outer) e t dx tl s'.heap) (hr : ∀ q ∈ rest, g₂.get? q.1 = some q.2 ∧ g.get? q.1 = none ∧ q.1 ≠ L)
    (hQ : ∀ h', RaisedX base g outer e t dx (tl ++ rest) h' → Q () { s' with heap := h' }) :
    wpAny M (A.deeper env) (leaving env (.ref e)) Q E s' := by
  obtain ⟨⟨vs, R⟩, hsm, oe, hoe, hod⟩ := R
  refine wpAny_mono (keeps_any (keeps_leaving _ _) (leave_onXS (Q := fun _ s₂ => ∃ h', s₂ = { s' with heap := h' } ∧ RaisedS base g outer e (.ref 64) t vs (tl ++ rest) h' ∧ g.UpToSlots h') K F hf R hsm hr fun h' x y => ⟨h', rfl, x, y⟩)) (fun u s₂ hz => ?_) (fun e' s₂ hz => hz.1)
  obtain ⟨⟨h', rfl, x, y⟩, dk⟩ := hz
  obtain ⟨⟨B, _, _, _, hfl, _⟩, _⟩ := id x
  obtain ⟨oe', hoe', _⟩ := hfl.there
  exact hQ h' ⟨⟨vs, x⟩, y, oe', hoe', (dict_at dk hoe hoe').trans hod⟩
end
section
variable {prog : Program} {w : World} {A₀ : Around} {s : Shared} {base g : Heap} {outer : List Env} {K : Frag}
  {R : Result → Shared → Prop} {name qual : Str} {params : Arguments} {body : PySem.Expr} {scope : Scope} {cl : List (Str × Addr)} {pm ctv : Value} {c' f : Addr} {args : Args} {binds : List (Str × Value)}
  {p : Program} {loose : List Str} {mean : ExcName → Option Value} {mg mb : Str → Option Value} {pre : Led} {dp un : Nat} {gd : Option (List Code)}
theorem spec_enterL (_B : Below A₀ base outer g) (st : g.StaysIn s.heap) (sz : g.objs.size ≤ s.heap.objs.size) (T : Top p loose mean mg mb g) (N : ∀ q ∈ pre, s.heap.get? q.1 = some q.2 ∧ g.get? q.1 = none)
    (ho : (f, kla_obj name qual params body scope cl pm c' ctv) ∈ pre) (hcd : s.heap.CodeRec (.ref c') qual) (hroom : dp < recursionLimit)
    (hbind : bindArgs (kla_fn name qual params body scope cl pm (.ref c') ctv) args = pure binds) (hloc : ∀ y ∈ binds, scope.names.lookup y.1 = some .local)
    (h : ∀ L' h₁, Fr g L' h₁ (fun y => binds.reverse.lookup y) → News g L' h₁ pre →
      wpAny (model prog w) ((ar dp un gd outer).deeper (envX qual scope L' f (.ref c') cl)) (eval body (envX qual scope L' f (.ref c') cl))
        (fun v s' => R (.ok (.ret v)) s')
        (fun e s' => wpAny (model prog w) ((ar dp un gd outer).deeper (envX qual scope L' f (.ref c') cl)) (leaving (envX qual scope L' f (.ref c') cl) e) (fun _ s'' => R (.error e) s'') (fun e' s'' => R (.error e') s'') s')
        { s with heap := h₁, toks := s.toks + binds.length })
    (hco : scope.isCoroutine = false := by rfl) (hgen : scope.isGenerator = false := by rfl) (hk : scope.kind = .function := by rfl)
    (hcell : ∀ x ∈ scope.names, x.2 ≠ .cell := by decide) : codeAny (model prog w) (ar dp un gd outer) (.call (.ref f) args) R s := by
  refine kla_callFunE hroom (N _ ho).1 rfl hco hgen rfl hcd ?_
  rw [hbind]
  refine wpAny_pure (wpAny_newFunctionEnv hcell hloc (fun h₁ hns hsb => ⟨((T.nolimit).keeps st).fresh _ hsb, ?_⟩) hk)
  show codeAny _ _ (.expr body (envX qual scope s.heap.objs.size f (.ref c') cl)) _ _
  have hk₁ : ∀ b o, s.heap.get? b = some o → h₁.get? b = some o := fun b o e => hsb.extBut b o (Nat.ne_of_lt (Heap.lt_size e)) (Heap.get?_push_of_some _ e)
  exact kla_codeExpr (h s.heap.objs.size h₁ ⟨hns, fun b o e => hk₁ b o (st b o e), sz⟩ fun q hq => ⟨hk₁ _ _ (N q hq).1, Nat.ne_of_lt (Heap.lt_size (N q hq).1), (N q hq).2⟩)
end
local macro_rules | `(tactic| walk_at "eval Name") => `(tactic| (k_here; kc_free; k_dflt (refine' nameX_F ?N ?c ?m ?d ?_ ?a ?b; (case a => rfl); (case b => rfl); (case N => k_asm); (case c => rfl); (case m => k_mem); (case d => with_reducible assumption); k_whole)))
abbrev lamL (f : Addr) (qual : Str) (p1 p2 p3 p4 : Nat × Nat) (k1 k2 : Addr) (pm : Value) (c' : Addr) (ctv : Value) (o1 o2 : Obj) : Led := [(f, lamO qual p1 p2 p3 p4 k1 k2 pm c' ctv), (k1, o1), (k2, o2)]
set_option maxHeartbeats 2000000 in
theorem lam_spec {prog : Program} {w : World} {x d r b f c' k1 k2 : Addr} {qual : Str} {p1 p2 p3 p4 : Nat × Nat} {pm ctv : Value} {oc o1 o2 : Obj} {cs : Array Value} {tq : Tok} {a : Nat} {t1 t2 t3 ta td tx : Tok} {tt : Str} {vs : List Value} {c : Nat} {wd : Wd}
    (hw : vs[a]? = some (.ref b)) (hl : vs.length ≤ 1000) (ha : a < vs.length) (htt : tt.length ≤ 1000) (hoc : oc.data = .fields cs) (hcs : cs[1]? = some (.str qual tq)) (h1 : o1.data = .cell (some (.ref x))) (h2 : o2.data = .cell (some (.str tt tx)))
    (hap : ∀ q ∈ wsL w x d r a t1 t2 t3 ta td vs c, ∀ p ∈ lamL f qual p1 p2 p3 p4 k1 k2 pm c' ctv o1 o2, @Ne Nat q.1 p.1) :
    CSpecX prog w 12 120 f [] (lamL f qual p1 p2 p3 p4 k1 k2 pm c' ctv o1 o2 ++ wsL w x d r a t1 t2 t3 ta td vs c) (fun g => WordAt g b wd ∧ g.get? c' = some oc)
      (fun v tl => lookB wd tt = true ∧ v = .ref b ∧ ∃ ta', tl = wsL w x d r ((if (wd.k != Str.ofString "end") = true then a + 1 else a : Nat) : Int) t1 t2 t3 ta' td vs c ++ lamL f qual p1 p2 p3 p4 k1 k2 pm c' ctv o1 o2)
      (fun dx tl => lookB wd tt = false ∧ FaultLed w wd.pos (wsL w x d r a t1 t2 t3 ta td vs c ++ lamL f qual p1 p2 p3 p4 k1 k2 pm c' ctv o1 o2) dx tl) := by
  w_top off
  unfold CSpecX
  intro dp un gd outer A₀ base g s p loose mean mg mb R B st sz X T N0 hro hd hu hret herr
  obtain ⟨⟨u1, u2, u3, v4, n4, hb⟩, hgc⟩ := hro
  have hbb := hb
  have hcode : s.heap.CodeRec (.ref c') qual := ⟨c', oc, cs, tq, rfl, st _ _ hgc, hoc, hcs⟩
  refine spec_enterL (binds := []) B st sz T N0 (.head _) hcode (by simp only [recursionLimit]; omega) rfl (fun y hy => nomatch hy) ?_
  intro L' h' F' N'
  simp only [lamL, wsL, List.cons_append, List.nil_append] at N'
  dsimp only [lamB, lamC, lamS, lp]
  repeat' ((fail_if_success (with_reducible show wpAny _ _ (call (Value.ref _) _) _ _ _)); first | (k_unfold; (try dsimp only)) | (k_end; wrow_close) | walk1 | (dsimp only; walk1) | (leave1; walk_say "STEP leave1"; try dsimp only) | fail "no step")
  (try k_fold); k_dflt (refine' use_specX ?k1 ?k2 ?k3 ?k4 ?k5 ?k6 ?k7 (expect_spec ?p1 ?p2 ?p3 ?p4) ?h1 ?h2 ?h3 ?h4 ?h5 ?r1 ?r2)
  case k1 => k_asm
  case k2 => k_asm
  case k3 => k_asm
  case k4 => k_asm
  case k5 => k_asm
  case k6 => exact rfl
  case k7 => exact rfl
  case h1 => walk_at "c pre"
  case p1 => with_reducible assumption
  case p2 => first | with_reducible assumption | omega
  case p3 => first | with_reducible assumption | omega
  case p4 => first | with_reducible assumption | omega
  case h2 =>
    refine .stay ?q1 (.stay ?q2 (.stay ?q3 (.out (.head _) (.out (.tail _ (.head _)) (.out (.tail _ (.tail _ (.head _))) .nil)))))
    case q1 => exact fun q hq => hap q hq _ (.head _)
    case q2 => exact fun q hq => hap q hq _ (.tail _ (.head _))
    case q3 => exact fun q hq => hap q hq _ (.tail _ (.tail _ (.head _)))
  case h4 => walk_at "c dp"
  case h5 => walk_at "c un"
  case h3 => (intro g' st' hr'; have hro9 := st' _ _ hbb; exact ⟨_, _, _, _, _, hro9⟩)
  case r1 =>
    intro v h' tk' tl F9 N9 ap P
    obtain ⟨ho, rfl, ta', rfl⟩ := P
    exact spec_end hret F9 N9 ⟨ho, rfl, _, rfl⟩
  case r2 =>
    intro e t dx h' tk' tl RX P
    obtain ⟨ho, msg, tm, ts, y1, y2, rfl⟩ := P
    obtain ⟨G, RX', FG, hr⟩ := RX.out
    exact leave_onX (below_ar B dp un gd) FG rfl RX' hr fun h₂ RX₂ => herr e t dx h₂ _ _ RX₂ ⟨ho, _, _, _, _, _, rfl⟩
end
section

-- Heard
section
theorem rows_Heard : hd.heap_39 = hd.heap_39 := by
  k_with_none
  k_with "subscriptTail Name Constant ref int" => ((k_here; (with_reducible show wpAny _ _ (subscriptTail _ _ (Value.ref _) (Value.int _ _)) _ _ _); (with_unfolding_all refine item_litK (by is_list) (by decide) (by decide) (by rfl) ?_ (by with_unfolding_all rfl))))
  k_with "binaryOp Mult int int" => (refine mul_int ?_ (IntMulOk.of_left (intBits_fmod (by decide) (by decide))))
  k_with "k_room" => (((try simp only [depth_mark, depth_under_make, depth_under_kw, depth_in1, depth_deeper, depth_caller]); (simp only [recursionLimit]; omega)))
  k_with "k_units" => (((try simp only [units_in1, units_deeper, Around.mark_units, units_caller]); (try dsimp only); first | exact line_of (by with_reducible assumption) (by exact Nat.le_of_ble_eq_true rfl) | (have hcL9 := cLine_is; omega)))
  k_with "k_in" => (exact Frag.In.keeps (by with_reducible assumption) (Fr.keep (by with_reducible assumption)))
  k_with "k_ne" => ((refine neN ?_; (try dsimp only); first | exact Nat.ne_of_lt (by k_extra "c lt") | exact Nat.ne_of_gt (by k_extra "c lt") | exact ne_l1 (by k_extra "c lt") | exact ne_l2 (by k_extra "c lt") | exact ne_r1 (by k_extra "c lt") | exact ne_r2 (by k_extra "c lt") | omega))
  k_with "c use" => (((case k1 => k_asm); (case k2 => k_asm); (case k3 => k_asm); (case k4 => k_asm); (case k5 => k_asm); (case k6 => exact rfl); (case k7 => exact rfl); (case h1 => k_extra "c pre"); (case h2 => k_extra "c part"); (case h4 => k_extra "c dp"); (case h5 => k_extra "c un")))
  k_with "until iter" => (repeat' ((fail_if_success (with_reducible show wpAny _ _ (pyIter _) _ _ _)); first | (k_unfold; (try dsimp only)) | (k_end; wrow_close) | walk1 | (dsimp only; walk1) | (leave1; walk_say "STEP leave1"; try dsimp only) | fail "no step"))
  k_with "until while" => (repeat' ((fail_if_success (with_reducible show wpAny _ _ (exec (Stmt.While _ _ _ _) _) _ _ _)); first | (k_unfold; (try dsimp only)) | (k_end; wrow_close) | walk1 | (dsimp only; walk1) | (leave1; walk_say "STEP leave1"; try dsimp only) | fail "no step"))
  k_with "until kswend" => (repeat' ((fail_if_success (with_reducible show KswEnd _ _ _ _ _ _ _ _ _ _ _ _)); first | (k_unfold; (try dsimp only)) | (k_end; wrow_close) | walk1 | (dsimp only; walk1) | (leave1; walk_say "STEP leave1"; try dsimp only) | fail "no step"))
  k_with "ite" => ((k_closed; first | with_reducible refine ite_pos (by decide) ?_ | with_reducible refine ite_neg (by decide) ?_))
  k_with "subscriptTail Call" => ((k_here; k_dflt (refine kba_turn (value' := PySem.Expr.Name (PySem.Str.ofString "_") ⟨0, 0, 0, 0⟩) (fun _ => rfl) ?_)))
  k_with "subscriptTail Subscript" => ((k_here; (first | (with_reducible show wpAny _ _ (subscriptTail _ _ (Value.ref _) _) _ _ _) | (with_reducible show wpAny _ _ (subscriptTail _ _ (Value.str _ _) (Value.ref _)) _ _ _)); k_dflt (refine kba_turn (value' := PySem.Expr.Name (PySem.Str.ofString "_") ⟨0, 0, 0, 0⟩) (fun _ => rfl) ?_)))
  k_with "c dp" => (((try dsimp only); first | exact dp_of (by with_reducible assumption) (by exact Nat.le_of_ble_eq_true rfl) | exact dp_of1 (by with_reducible assumption) (by exact Nat.le_of_ble_eq_true rfl) | omega))
  k_with "c un" => (((try dsimp only); first | exact un_of (by with_reducible assumption) (by exact Nat.le_of_ble_eq_true rfl) | exact un_of1 (by with_reducible assumption) (by exact Nat.le_of_ble_eq_true rfl) | omega))
  k_with "c a" => (with_reducible assumption)
  k_with "c lt" => (first | with_reducible assumption | exact a0 (by k_extra "c a") | exact a1 (by k_extra "c a") | exact a2 (by k_extra "c a") | exact a3 (by k_extra "c a") | exact a4 (by k_extra "c a") | exact a5 (by k_extra "c a") | exact a6 (by k_extra "c a") | exact a7 (by k_extra "c a") | exact a8 (by k_extra "c a") | exact a9 (by k_extra "c a") | exact a10 (by k_extra "c a") | exact a11 (by k_extra "c a") | exact a12 (by k_extra "c a") | exact a13 (by k_extra "c a"))
  k_with "c p" => (first | with_reducible assumption | k_ne | exact Nat.le_of_ble_eq_true rfl | decide | omega | assumption | exact rfl)
  k_with "c ro" => (first | exact fun _ _ _ => trivial | (intro g' st' hr'; have hro9 := st' _ _ (by with_reducible assumption); exact ⟨_, _, _, _, _, hro9⟩))
  k_with "c fin2" => (((try case p1 => k_extra "c p"); (try case p2 => k_extra "c p"); (try case p3 => k_extra "c p"); (try case p4 => k_extra "c p"); (try case p5 => k_extra "c p"); (case h3 => k_extra "c ro"); k_whole))
  k_with "c fin" => ((k_extra "c use"; k_extra "c fin2"))
  k_with "c enter" => ((refine spec_enter (by assumption) (by assumption) (by assumption) (by assumption) (by assumption) (by assumption) (by k_is) (by k_is) (by first | exact room_of (by with_reducible assumption) | (simp only [recursionLimit]; omega)) (by first | exact BindsTo.of_eq rfl | exact binds_K (Frag.In.keeps (by assumption) (by assumption)) rfl (by k_is) rfl rfl rfl) (by exact locs rfl) ?_ (by exact rfl) (by exact rfl) (by exact rfl) (by decide); intro _ _ _ _; (try dsimp only); (try k_fold)))
  k_with "c part" => (first | exact Part.nil | (apply Part.out; (· k_mem); (· k_extra "c part")) | (apply Part.stay; (· k_all); (· k_extra "c part")) | (refine part_tail ?_; k_extra "c tail"))
  k_with "c tail" => (first | exact List.forall_mem_nil _ | (refine List.forall_mem_cons.mpr ⟨?_, ?_⟩; (· k_extra "c apart"); (· k_extra "c tail")))
  k_with "c apart" => (first | exact OwnOff.ne (by assumption) (by k_memK) | (refine allLt_apart ?_; k_extra "c conj"))
  k_with "c conj" => (first | assumption | exact And.right (by k_extra "c conj"))
  k_with "c adr" => (first | exact List.forall_mem_nil _ | (refine List.forall_mem_cons.mpr ⟨?_, ?_⟩; (· k_memK); (· k_extra "c adr")))
  k_with "c pre" => (first | exact List.forall_mem_nil _ | (refine List.forall_mem_cons.mpr ⟨?_, ?_⟩; (· k_mem); (· k_extra "c pre")))
  k_with "call builtin:len" => ((k_here; (with_reducible show wpAny _ _ (call (Value.builtin "len") [Value.ref _]) _ _ _); (with_unfolding_all refine len_mine (by is_list) (by (first | omega | (simp only [List.length_cons, List.length_nil, List.length_append]; omega))) ?_)))
  k_with "subscriptTail" => ((k_here; (with_reducible show wpAny _ _ (subscriptTail _ _ (Value.ref _) (Value.int _ _)) _ _ _); (with_unfolding_all refine item_open (by is_list) (by omega) (by omega) (by omega) ?_ (by with_unfolding_all rfl)); intro _ _ _))
  k_with "call type:range" => ((k_here; (with_reducible show wpAny _ _ (call _ [_]) _ _ _); (with_unfolding_all refine range1_rows (by k_asm) (by k_asm) ?_); intro _ _ _ _ _ _ _ _ _; (try k_sweep)))
  k_with "call builtin:list.append" => ((k_here; (with_reducible show wpAny _ _ (call (Value.builtin _) [Value.ref _, _]) _ _ _); k_dflt (refine append_K (by k_asm) (by k_asm) (by k_upd) ?_ (by first | exact small_size (by assumption) | size_fits)); intro _ _ _; (try k_sweep)))
  k_with "binaryOp Add str str" => ((k_here; (refine add_mine ?_ (by (first | omega | (simp only [Str.length_append]; omega))) (by (first | omega | (simp only [Str.length_append]; omega)))); intro _ _))
  k_with "call type:list" => ((k_here; (with_reducible show wpAny _ _ (call (Value.type "list") [Value.ref _]) _ _ _); k_dflt (refine list_mine (by k_asm) (by k_asm) (by k_mem) (by omega) ?_); intro _ _ _ _ _ l9; (try k_lt l9); (try (revert l9; intro _)); (try k_sweep)))
  k_with "callWith ref" => ((k_here; k_dflt (first | refine callWith_K (by with_reducible assumption) (by k_is) ?_ | refine callWith_K0 (by k_in) (by k_is) ?_)))
  k_with "exec Raise some none" => (k_here; (with_reducible show wpAny _ _ (exec (Stmt.Raise (some (Expr.Call (Expr.Name _ _) (_ :: _) [] _)) none _) _) _ _ _); k_dflt (refine Raise_mine (by rfl) ?_))
  k_with "call ref" => (k_here; (with_reducible show wpAny _ _ (call (Value.ref 64) _) _ _ _); k_dflt (refine exc_make (by k_asm) (by k_asm) (by k_asm) (by k_asm) (by k_asm) (by exact rfl) (by exact rfl) (by k_extra "c dp") (by k_extra "c un") ?_); intro _ _ _ _ _ _ _ _ _ _ _ _)
  k_with "compareOp In str ref" => (k_here; (with_reducible show wpAny _ _ (compareOp CmpOp.In (Value.str _ _) (Value.ref 68)) _ _ _); k_dflt (refine in_kw (by k_asm) (by k_asm) (by with_reducible assumption) ?_))
  k_with "getAttr ref" => (k_here; (with_reducible show wpAny _ _ (getAttr (Value.ref _) (Str.ofString "spot") _) _ _ _); k_dflt (refine get_spot (by k_asm) (by k_asm) (by k_asm) (by k_mem) (by k_mem) ?_))
  exact rfl
theorem turn_end {fs : List Addr} {g g' : Heap} {L : Addr} {h : Heap} {m : Str → Option Value} {news tl : Led} {s : Shared} {tk : Nat} {v : Value} {R : Result → Shared → Prop} {Post : Value → Led → Prop}
    (hret : ∀ v h' tk' tl g', KtsTurn fs g g' → g'.StaysIn h' → (∀ q ∈ tl, h'.get? q.1 = some q.2 ∧ g'.get? q.1 = none) → Post v tl → R (.ok (.ret v)) { s with heap := h', toks := tk' })
    (T : KtsTurn fs g g') (F : Fr g' L h m) (N : News g' L h news) (hs : ∀ q ∈ tl, q ∈ news) (P : Post v tl) : R (.ok (.ret v)) { s with heap := h, toks := tk } :=
  hret v h tk tl g' T F.keep (fun q hq => ⟨(N q (hs q hq)).1, (N q (hs q hq)).2.2⟩) P
set_option maxHeartbeats 2000000 in
theorem heard_name {prog : Program} {w : World} {x d r b mth : Addr} {a : Nat} {t1 t2 t3 ta td : Tok} {vs : List Value} {c : Nat} {wd : Wd} (hw : vs[a]? = some (.ref b)) (hl : vs.length ≤ 1000) (ha : a < vs.length) :
    CSpecT prog w 20 200 260 [.ref mth] ((mth, methodObj (.ref 204) (.ref x)) :: wsL w x d r a t1 t2 t3 ta td vs c) (fun g => WordAt g b wd)
      (fun v tl => (nameOkB wd = true ∧ ∃ q u1 u2 n ta', v = .ref q ∧ tl = (q, ({ cls := .type "tuple", data := .seq [.str wd.t u1, .int wd.pos u2].toArray n } : Obj)) :: wsL w x d r ((a + 1 : Nat) : Int) t1 t2 t3 ta' td vs c) ∨
        (nameOkB wd = false ∧ ∃ q u1 u2 n, v = .ref q ∧ tl = (q, ({ cls := .type "tuple", data := .seq [.str (Str.ofString "refused") u1, .int wd.pos u2].toArray n } : Obj)) :: wsL w x d r a t1 t2 t3 ta td vs c)) := by
  w_top off
  unfold CSpecT
  intro dp un gd outer A₀ base g s p loose mean mg mb R B st sz X T N0 hro OB hd hu hret
  obtain ⟨u1, u2, u3, v4, n4, hb⟩ := hro
  obtain ⟨hxd, hrd, hxr⟩ := ws_apart fun q hq => N0 q (.tail _ hq)
  obtain ⟨hmx, hmd, hmr⟩ := mth_apart N0
  have hbb := hb
  unfold wsL at N0
  walk_at "c enter"
  repeat' ((fail_if_success (with_reducible show wpAny _ _ (call (Value.ref _) _) _ _ _)); first | (k_unfold; (try dsimp only)) | (k_end; wrow_close) | walk1 | (dsimp only; walk1) | (leave1; walk_say "STEP leave1"; try dsimp only) | fail "no step")
  (try k_fold); k_dflt (refine' use_boundX ?k1 ?k2 ?k3 ?k4 ?k5 ?k6 ?k7 ?km (name_spec ?p1 ?p2 ?p3) ?h1 ?h2 ?h3 ?h4 ?h5 ?r1 ?r2)
  case k1 => k_asm
  case k2 => k_asm
  case k3 => k_asm
  case k4 => k_asm
  case k5 => k_asm
  case k6 => exact rfl
  case k7 => exact rfl
  case km => k_mem
  case h1 => walk_at "c pre"
  case p1 => with_reducible assumption
  case p2 => first | with_reducible assumption | omega
  case p3 => first | with_reducible assumption | omega
  case h2 =>
    refine .stay ?_ (.out (.head _) (.out (.tail _ (.head _)) (.out (.tail _ (.tail _ (.head _))) .nil)))
    exact List.forall_mem_cons.mpr ⟨Ne.symm hmx, List.forall_mem_cons.mpr ⟨Ne.symm hmd, List.forall_mem_cons.mpr ⟨Ne.symm hmr, List.forall_mem_nil _⟩⟩⟩
  case h4 => walk_at "c dp"
  case h5 => walk_at "c un"
  case h3 => (intro g' st' hr'; have hro9 := st' _ _ hbb; exact ⟨_, _, _, _, _, hro9⟩)
  case r1 =>
    intro v h' tk' tl F9 N9 ap P
    obtain ⟨ho, q, y1, y2, n, ta', rfl, rfl⟩ := P
    exact hret _ h' tk' _ g KtsTurn.refl F9.keep (fun q hq => ⟨(N9 q (List.mem_append_left _ hq)).1, (N9 q (List.mem_append_left _ hq)).2.2⟩) (.inl ⟨ho, _, _, _, _, _, rfl, rfl⟩)
  case r2 =>
    intro e t dx h' tk' tl RX P
    obtain ⟨ho, msg, tm, ts, k1, k2, rfl⟩ := P
    obtain ⟨G, RX', FG, hr⟩ := RX.out
    refine caught_mine RX' FG (below_ar B dp un gd) OB.XB OB.TB OB.D hr ?ex ?_ (hx := rfl) (hlo := rfl)
    case ex => k_is
    intro h₂ g₂ tk₂ oe T2 F2 N2 hoc hod hws K2 X2 P2 D2
    obtain ⟨ws, hws⟩ := hws
    obtain ⟨oc, od, oda, osl⟩ := oe
    dsimp only at hoc hod hws
    subst hoc hod hws
    repeat' ((fail_if_success (with_reducible show R _ _)); first | (k_unfold; (try dsimp only)) | (k_end; wrow_close) | walk1 | (dsimp only; walk1) | (leave1; walk_say "STEP leave1"; try dsimp only) | fail "no step")
    rename Fr _ _ _ _ => F9
    rename News _ _ _ _ => N9
    refine' turn_end hret T2 F9 N9 ?hs (.inr ⟨ho, _, _, _, _, rfl, rfl⟩)
    case hs => walk_at "c pre"
end
-- Heard2
section
set_option maxHeartbeats 2000000 in
theorem heard_close {prog : Program} {w : World} {x d r b mth : Addr} {a : Nat} {t1 t2 t3 ta td : Tok} {vs : List Value} {c : Nat} {wd : Wd} (hw : vs[a]? = some (.ref b)) (hl : vs.length ≤ 1000) (ha : a < vs.length) (htt : wd.t.length ≤ 1000) (hpp : 0 ≤ wd.pos ∧ wd.pos ≤ 1000) :
    CSpecT prog w 20 200 260 [.ref mth] ((mth, methodObj (.ref 211) (.ref x)) :: wsL w x d r a t1 t2 t3 ta td vs c) (fun g => WordAt g b wd)
      (fun v tl => (closeB wd = true ∧ ∃ q u1 u2 u3 n, v = .ref q ∧
        (((wd.t == Str.ofString ">") = true ∧ ∃ ta', tl = (q, wordO ⟨Str.ofString "sign", Str.ofString ">", wd.pos, false⟩ u1 u2 u3 .none n) :: wsL w x d r ((a + 1 : Nat) : Int) t1 t2 t3 ta' td vs c) ∨
         ((wd.t == Str.ofString ">") = false ∧ ∃ z y1 y2 y3 n2, tl = (q, wordO ⟨Str.ofString "sign", Str.ofString ">", wd.pos, false⟩ u1 u2 u3 .none n) :: (z, wordO (restW wd) y1 y2 y3 .none n2) :: wsL w x d r a t1 t2 t3 ta td (vs.set a (.ref z)) c ∧ @Ne Nat z q))) ∨
        (closeB wd = false ∧ ∃ q u1 u2 n, v = .ref q ∧ tl = (q, ({ cls := .type "tuple", data := .seq [.str (Str.ofString "refused") u1, .int wd.pos u2].toArray n } : Obj)) :: wsL w x d r a t1 t2 t3 ta td vs c)) := by
  w_top off
  unfold CSpecT
  intro dp un gd outer A₀ base g s p loose mean mg mb R B st sz X T N0 hro OB hd hu hret
  obtain ⟨u1, u2, u3, v4, n4, hb⟩ := hro
  obtain ⟨hxd, hrd, hxr⟩ := ws_apart fun q hq => N0 q (.tail _ hq)
  obtain ⟨hmx, hmd, hmr⟩ := mth_apart N0
  have hbb := hb
  unfold wsL at N0
  walk_at "c enter"
  repeat' ((fail_if_success (with_reducible show wpAny _ _ (call (Value.ref _) _) _ _ _)); first | (k_unfold; (try dsimp only)) | (k_end; wrow_close) | walk1 | (dsimp only; walk1) | (leave1; walk_say "STEP leave1"; try dsimp only) | fail "no step")
  (try k_fold); k_dflt (refine' use_boundX ?k1 ?k2 ?k3 ?k4 ?k5 ?k6 ?k7 ?km (split_spec ?p1 ?p2 ?p3 ?p4 ?p5) ?h1 ?h2 ?h3 ?h4 ?h5 ?r1 ?r2)
  case k1 => k_asm
  case k2 => k_asm
  case k3 => k_asm
  case k4 => k_asm
  case k5 => k_asm
  case k6 => exact rfl
  case k7 => exact rfl
  case km => k_mem
  case h1 => walk_at "c pre"
  case p1 => with_reducible assumption
  case p2 => first | with_reducible assumption | omega
  case p3 => first | with_reducible assumption | omega
  case p4 => with_reducible assumption
  case p5 => with_reducible assumption
  case h2 =>
    refine .stay ?_ (.out (.head _) (.out (.tail _ (.head _)) (.out (.tail _ (.tail _ (.head _))) .nil)))
    exact List.forall_mem_cons.mpr ⟨Ne.symm hmx, List.forall_mem_cons.mpr ⟨Ne.symm hmd, List.forall_mem_cons.mpr ⟨Ne.symm hmr, List.forall_mem_nil _⟩⟩⟩
  case h4 => walk_at "c dp"
  case h5 => walk_at "c un"
  case h3 => (intro g' st' hr'; have hro9 := st' _ _ hbb; exact ⟨_, _, _, _, _, hro9⟩)
  case r1 =>
    intro v h' tk' tl F9 N9 ap P
    exact hret _ h' tk' tl g KtsTurn.refl F9.keep (fun q hq => ⟨(N9 q (List.mem_append_left _ hq)).1, (N9 q (List.mem_append_left _ hq)).2.2⟩) (.inl P)
  case r2 =>
    intro e t dx h' tk' tl RX P
    obtain ⟨ho, msg, tm, ts, k1, k2, rfl⟩ := P
    obtain ⟨G, RX', FG, hr⟩ := RX.out
    refine caught_mine RX' FG (below_ar B dp un gd) OB.XB OB.TB OB.D hr ?ex ?_ (hx := rfl) (hlo := rfl)
    case ex => k_is
    intro h₂ g₂ tk₂ oe T2 F2 N2 hoc hod hws K2 X2 P2 D2
    obtain ⟨ws, hws⟩ := hws
    obtain ⟨oc, od, oda, osl⟩ := oe
    dsimp only at hoc hod hws
    subst hoc hod hws
    repeat' ((fail_if_success (with_reducible show R _ _)); first | (k_unfold; (try dsimp only)) | (k_end; wrow_close) | walk1 | (dsimp only; walk1) | (leave1; walk_say "STEP leave1"; try dsimp only) | fail "no step")
    rename Fr _ _ _ _ => F9
    rename News _ _ _ _ => N9
    refine' turn_end hret T2 F9 N9 ?hs (.inr ⟨ho, _, _, _, _, rfl, rfl⟩)
    case hs => walk_at "c pre"
end
-- Heard3
section
local macro_rules | `(tactic| walk_at "callWith ref") => `(tactic| (k_here; k_dflt (refine' callWith_F0 ?k1 ?_; (case k1 => exact FnAt.of (by k_asm) (by k_mem)); k_whole; try dsimp only [List.nil_append, List.cons_append])))
abbrev refO (pos : Int) (u1 u2 : Tok) (n : Nat) : Obj := { cls := .type "tuple", data := .seq [.str (Str.ofString "refused") u1, .int pos u2].toArray n }
set_option maxHeartbeats 2000000 in
theorem heard_lam {prog : Program} {w : World} {x d r b f c' k1 k2 : Addr} {qual : Str} {p1 p2 p3 p4 : Nat × Nat} {pm ctv : Value} {oc o1 o2 : Obj} {cs : Array Value} {tq : Tok} {a : Nat} {t1 t2 t3 ta td tx : Tok} {tt : Str} {vs : List Value} {c : Nat} {wd : Wd}
    (hw : vs[a]? = some (.ref b)) (hl : vs.length ≤ 1000) (ha : a < vs.length) (htt : tt.length ≤ 1000) (hoc : oc.data = .fields cs) (hcs : cs[1]? = some (.str qual tq)) (ho1 : o1.data = .cell (some (.ref x))) (ho2 : o2.data = .cell (some (.str tt tx)))
    (hap : ∀ q ∈ wsL w x d r a t1 t2 t3 ta td vs c, ∀ p ∈ lamL f qual p1 p2 p3 p4 k1 k2 pm c' ctv o1 o2, @Ne Nat q.1 p.1) :
    CSpecT prog w 24 240 260 [.ref f] (lamL f qual p1 p2 p3 p4 k1 k2 pm c' ctv o1 o2 ++ wsL w x d r a t1 t2 t3 ta td vs c) (fun g => WordAt g b wd ∧ g.get? c' = some oc)
      (fun v tl => (lookB wd tt = true ∧ v = .ref b ∧ ∃ ta', tl = wsL w x d r ((if (wd.k != Str.ofString "end") = true then a + 1 else a : Nat) : Int) t1 t2 t3 ta' td vs c ++ lamL f qual p1 p2 p3 p4 k1 k2 pm c' ctv o1 o2) ∨
        (lookB wd tt = false ∧ ∃ q u1 u2 n, v = .ref q ∧ tl = (q, refO wd.pos u1 u2 n) :: wsL w x d r a t1 t2 t3 ta td vs c ++ lamL f qual p1 p2 p3 p4 k1 k2 pm c' ctv o1 o2)) := by
  w_top off
  unfold CSpecT
  intro dp un gd outer A₀ base g s p loose mean mg mb R B st sz X T N0 hro OB hd hu hret
  obtain ⟨⟨u1, u2, u3, v4, n4, hb⟩, hgc⟩ := hro
  have hbb := hb
  simp only [lamL, wsL, List.cons_append, List.nil_append] at N0
  walk_at "c enter"
  repeat' ((fail_if_success (with_reducible show wpAny _ _ (call (Value.ref _) _) _ _ _)); first | (k_unfold; (try dsimp only)) | (k_end; wrow_close) | walk1 | (dsimp only; walk1) | (leave1; walk_say "STEP leave1"; try dsimp only) | fail "no step")
  (try k_fold); k_dflt (refine' use_specX ?k1 ?k2 ?k3 ?k4 ?k5 ?k6 ?k7 (lam_spec ?p1 ?p2 ?p3 ?p4 ?p5 ?p6 ?p7 ?p8 ?p9) ?h1 ?h2 ?h3 ?h4 ?h5 ?r1 ?r2)
  case k1 => k_asm
  case k2 => k_asm
  case k3 => k_asm
  case k4 => k_asm
  case k5 => k_asm
  case k6 => exact rfl
  case k7 => exact rfl
  case p1 => exact hw
  case p2 => first | with_reducible assumption | omega
  case p3 => first | with_reducible assumption | omega
  case p4 => exact htt
  case p5 => exact hoc
  case p6 => exact hcs
  case p7 => exact ho1
  case p8 => exact ho2
  case p9 => exact hap
  case h1 => simp only [lamL, wsL, List.cons_append, List.nil_append]; walk_at "c pre"
  case h2 => simp only [lamL, wsL, List.cons_append, List.nil_append]; walk_at "c part"
  case h4 => walk_at "c dp"
  case h5 => walk_at "c un"
  case h3 => (intro g' st' hr'; have hro9 := st' _ _ hbb; exact ⟨⟨_, _, _, _, _, hro9⟩, st' _ _ hgc⟩)
  case r1 =>
    intro v h' tk' tl F9 N9 ap P
    obtain ⟨ho, rfl, ta', rfl⟩ := P
    exact hret _ h' tk' _ g KtsTurn.refl F9.keep (fun q hq => ⟨(N9 q (List.mem_append_left _ hq)).1, (N9 q (List.mem_append_left _ hq)).2.2⟩) (.inl ⟨ho, rfl, _, rfl⟩)
  case r2 =>
    intro e t dx h' tk' tl RX P
    obtain ⟨ho, msg, tm, ts, y1, y2, rfl⟩ := P
    obtain ⟨G, RX', FG, hr⟩ := RX.out
    refine caught_mine RX' FG (below_ar B dp un gd) OB.XB OB.TB OB.D hr ?ex ?_ (hx := rfl) (hlo := rfl)
    case ex => k_is
    intro h₂ g₂ tk₂ oe T2 F2 N2 hoc2 hod hws K2 X2 P2 D2
    obtain ⟨ws, hws⟩ := hws
    obtain ⟨oec, od, oda, osl⟩ := oe
    dsimp only at hoc2 hod hws
    subst hoc2 hod hws
    simp only [lamL, wsL, List.cons_append, List.nil_append] at N2
    repeat' ((fail_if_success (with_reducible show R _ _)); first | (k_unfold; (try dsimp only)) | (k_end; wrow_close) | walk1 | (dsimp only; walk1) | (leave1; walk_say "STEP leave1"; try dsimp only) | fail "no step")
    rename Fr _ _ _ _ => F9
    rename News _ _ _ _ => N9
    refine' turn_end hret T2 F9 N9 ?hs (.inr ⟨ho, _, _, _, _, rfl, rfl⟩)
    case hs => simp only [lamL, wsL, List.cons_append, List.nil_append]; walk_at "c pre"
end
end
-- IsLooked
section
theorem rows_IsLooked : hd.heap_39 = hd.heap_39 := by
  k_with_none
  k_with "subscriptTail Name Constant ref int" => ((k_here; (with_reducible show wpAny _ _ (subscriptTail _ _ (Value.ref _) (Value.int _ _)) _ _ _); (with_unfolding_all refine item_litK (by is_list) (by decide) (by decide) (by rfl) ?_ (by with_unfolding_all rfl))))
  k_with "binaryOp Mult int int" => (refine mul_int ?_ (IntMulOk.of_left (intBits_fmod (by decide) (by decide))))
  k_with "k_room" => (((try simp only [depth_mark, depth_under_make, depth_under_kw, depth_in1, depth_deeper, depth_caller]); (simp only [recursionLimit]; omega)))
  k_with "k_units" => (((try simp only [units_in1, units_deeper, Around.mark_units, units_caller]); (try dsimp only); first | exact line_of (by with_reducible assumption) (by exact Nat.le_of_ble_eq_true rfl) | (have hcL9 := cLine_is; omega)))
  k_with "k_in" => (exact Frag.In.keeps (by with_reducible assumption) (Fr.keep (by with_reducible assumption)))
  k_with "k_ne" => ((refine neN ?_; (try dsimp only); first | exact Nat.ne_of_lt (by k_extra "c lt") | exact Nat.ne_of_gt (by k_extra "c lt") | exact ne_l1 (by k_extra "c lt") | exact ne_l2 (by k_extra "c lt") | exact ne_r1 (by k_extra "c lt") | exact ne_r2 (by k_extra "c lt") | omega))
  k_with "c use" => (((case k1 => k_asm); (case k2 => k_asm); (case k3 => k_asm); (case k4 => k_asm); (case k5 => k_asm); (case k6 => exact rfl); (case k7 => exact rfl); (case h1 => k_extra "c pre"); (case h2 => k_extra "c part"); (case h4 => k_extra "c dp"); (case h5 => k_extra "c un")))
  k_with "until iter" => (repeat' ((fail_if_success (with_reducible show wpAny _ _ (pyIter _) _ _ _)); first | (k_unfold; (try dsimp only)) | (k_end; wrow_close) | walk1 | (dsimp only; walk1) | (leave1; walk_say "STEP leave1"; try dsimp only) | fail "no step"))
  k_with "until while" => (repeat' ((fail_if_success (with_reducible show wpAny _ _ (exec (Stmt.While _ _ _ _) _) _ _ _)); first | (k_unfold; (try dsimp only)) | (k_end; wrow_close) | walk1 | (dsimp only; walk1) | (leave1; walk_say "STEP leave1"; try dsimp only) | fail "no step"))
  k_with "until kswend" => (repeat' ((fail_if_success (with_reducible show KswEnd _ _ _ _ _ _ _ _ _ _ _ _)); first | (k_unfold; (try dsimp only)) | (k_end; wrow_close) | walk1 | (dsimp only; walk1) | (leave1; walk_say "STEP leave1"; try dsimp only) | fail "no step"))
  k_with "ite" => ((k_closed; first | with_reducible refine ite_pos (by decide) ?_ | with_reducible refine ite_neg (by decide) ?_))
  k_with "subscriptTail Call" => ((k_here; k_dflt (refine kba_turn (value' := PySem.Expr.Name (PySem.Str.ofString "_") ⟨0, 0, 0, 0⟩) (fun _ => rfl) ?_)))
  k_with "subscriptTail Subscript" => ((k_here; (first | (with_reducible show wpAny _ _ (subscriptTail _ _ (Value.ref _) _) _ _ _) | (with_reducible show wpAny _ _ (subscriptTail _ _ (Value.str _ _) (Value.ref _)) _ _ _)); k_dflt (refine kba_turn (value' := PySem.Expr.Name (PySem.Str.ofString "_") ⟨0, 0, 0, 0⟩) (fun _ => rfl) ?_)))
  k_with "c dp" => (((try dsimp only); first | exact dp_of (by with_reducible assumption) (by exact Nat.le_of_ble_eq_true rfl) | exact dp_of1 (by with_reducible assumption) (by exact Nat.le_of_ble_eq_true rfl) | omega))
  k_with "c un" => (((try dsimp only); first | exact un_of (by with_reducible assumption) (by exact Nat.le_of_ble_eq_true rfl) | exact un_of1 (by with_reducible assumption) (by exact Nat.le_of_ble_eq_true rfl) | omega))
  k_with "c a" => (with_reducible assumption)
  k_with "c lt" => (first | with_reducible assumption | exact a0 (by k_extra "c a") | exact a1 (by k_extra "c a") | exact a2 (by k_extra "c a") | exact a3 (by k_extra "c a") | exact a4 (by k_extra "c a") | exact a5 (by k_extra "c a") | exact a6 (by k_extra "c a") | exact a7 (by k_extra "c a") | exact a8 (by k_extra "c a") | exact a9 (by k_extra "c a") | exact a10 (by k_extra "c a") | exact a11 (by k_extra "c a") | exact a12 (by k_extra "c a") | exact a13 (by k_extra "c a"))
  k_with "c p" => (first | with_reducible assumption | k_ne | exact Nat.le_of_ble_eq_true rfl | decide | omega | assumption | exact rfl)
  k_with "c ro" => (first | exact fun _ _ _ => trivial | (intro g' st' hr'; have hro9 := st' _ _ (by with_reducible assumption); exact ⟨_, _, _, _, _, hro9⟩))
  k_with "c fin2" => (((try case p1 => k_extra "c p"); (try case p2 => k_extra "c p"); (try case p3 => k_extra "c p"); (try case p4 => k_extra "c p"); (try case p5 => k_extra "c p"); (case h3 => k_extra "c ro"); k_whole))
  k_with "c fin" => ((k_extra "c use"; k_extra "c fin2"))
  k_with "c enter" => ((refine spec_enter (by assumption) (by assumption) (by assumption) (by assumption) (by assumption) (by assumption) (by k_is) (by k_is) (by first | exact room_of (by with_reducible assumption) | (simp only [recursionLimit]; omega)) (by first | exact BindsTo.of_eq rfl | exact binds_K (Frag.In.keeps (by assumption) (by assumption)) rfl (by k_is) rfl rfl rfl) (by exact locs rfl) ?_ (by exact rfl) (by exact rfl) (by exact rfl) (by decide); intro _ _ _ _; (try dsimp only); (try k_fold)))
  k_with "c part" => (first | exact Part.nil | (apply Part.out; (· k_mem); (· k_extra "c part")) | (apply Part.stay; (· k_all); (· k_extra "c part")) | (refine part_tail ?_; k_extra "c tail"))
  k_with "c tail" => (first | exact List.forall_mem_nil _ | (refine List.forall_mem_cons.mpr ⟨?_, ?_⟩; (· k_extra "c apart"); (· k_extra "c tail")))
  k_with "c apart" => (first | exact OwnOff.ne (by assumption) (by k_memK) | (refine allLt_apart ?_; k_extra "c conj"))
  k_with "c conj" => (first | assumption | exact And.right (by k_extra "c conj"))
  k_with "c adr" => (first | exact List.forall_mem_nil _ | (refine List.forall_mem_cons.mpr ⟨?_, ?_⟩; (· k_memK); (· k_extra "c adr")))
  k_with "c pre" => (first | exact List.forall_mem_nil _ | (refine List.forall_mem_cons.mpr ⟨?_, ?_⟩; (· k_mem); (· k_extra "c pre")))
  k_with "call builtin:len" => ((k_here; (with_reducible show wpAny _ _ (call (Value.builtin "len") [Value.ref _]) _ _ _); (with_unfolding_all refine len_mine (by is_list) (by (first | omega | (simp only [List.length_cons, List.length_nil, List.length_append]; omega))) ?_)))
  k_with "subscriptTail" => ((k_here; (with_reducible show wpAny _ _ (subscriptTail _ _ (Value.ref _) (Value.int _ _)) _ _ _); (with_unfolding_all refine item_open (by is_list) (by omega) (by omega) (by omega) ?_ (by with_unfolding_all rfl)); intro _ _ _))
  k_with "call type:range" => ((k_here; (with_reducible show wpAny _ _ (call _ [_]) _ _ _); (with_unfolding_all refine range1_rows (by k_asm) (by k_asm) ?_); intro _ _ _ _ _ _ _ _ _; (try k_sweep)))
  k_with "call builtin:list.append" => ((k_here; (with_reducible show wpAny _ _ (call (Value.builtin _) [Value.ref _, _]) _ _ _); k_dflt (refine append_K (by k_asm) (by k_asm) (by k_upd) ?_ (by first | exact small_size (by assumption) | size_fits)); intro _ _ _; (try k_sweep)))
  k_with "binaryOp Add str str" => ((k_here; (refine add_mine ?_ (by (first | omega | (simp only [Str.length_append]; omega))) (by (first | omega | (simp only [Str.length_append]; omega)))); intro _ _))
  k_with "call type:list" => ((k_here; (with_reducible show wpAny _ _ (call (Value.type "list") [Value.ref _]) _ _ _); k_dflt (refine list_mine (by k_asm) (by k_asm) (by k_mem) (by omega) ?_); intro _ _ _ _ _ l9; (try k_lt l9); (try (revert l9; intro _)); (try k_sweep)))
  k_with "callWith ref" => ((k_here; k_dflt (first | refine callWith_K (by with_reducible assumption) (by k_is) ?_ | refine callWith_K0 (by k_in) (by k_is) ?_)))
  k_with "subscriptTail" => (k_here; (with_reducible show wpAny _ _ (subscriptTail _ _ (Value.str _ _) (Value.int _ _)) _ _ _); (refine item_known (by with_reducible assumption) (by omega) (by omega) (by assumption) ?_ (by with_unfolding_all rfl) (by intro _; with_unfolding_all rfl)); (try dsimp only))
  k_with "subscriptTail Name Name str int" => k_extra "subscriptTail"
  k_with "subscriptTail Name BinOp str int" => k_extra "subscriptTail"
  k_with "compareOp In str str" => (k_here; first | refine in_b (by with_reducible assumption) ?_ | refine in_b (b := true) (by decide +kernel) ?_ | refine in_b (b := false) (by decide +kernel) ?_)
  k_with "compareOp Eq str str" => (k_here; first | refine eq_b (by with_reducible assumption) ?_ | refine eq_b (b := true) (by decide +kernel) ?_ | refine eq_b (b := false) (by decide +kernel) ?_)
  k_with "compareOp NotEq str str" => (k_here; first | refine ne_b (by with_reducible assumption) ?_ | refine ne_b (b := true) (by decide +kernel) ?_ | refine ne_b (b := false) (by decide +kernel) ?_)
  k_with "subscriptTail Name Slice str ref" => (k_here; (refine slice_known (s := ⟨_, _, _, _, _⟩) (by k_asm) (by k_asm) (by with_reducible assumption) (by assumption) ?_ (by with_unfolding_all rfl) (by intro _; with_unfolding_all rfl)); intro _ _ _ _ _; (try dsimp only); (try k_sweep))
  k_with "compareOp Eq int int" => (k_here; refine eqi_b (by with_reducible assumption) ?_)
  k_with "subscriptTail Name Constant ref int" => (k_here; (with_reducible show wpAny _ _ (subscriptTail _ _ (Value.ref _) (Value.int _ _)) _ _ _); k_dflt (refine item_tupleL (by exact word_tup (by k_asm) (by with_reducible assumption)) (by decide) (by decide) (by rfl) (by rfl) ?_ (by with_unfolding_all rfl) (by intro _; with_unfolding_all rfl)))
  exact rfl
set_option maxHeartbeats 2000000 in
theorem islooked_spec {prog : Program} {w : World} {b : Addr} {tx : Tok} {tt : Str} {wd : Wd} :
    CSpec prog w 1 20 267 [.ref b, .str tt tx] [] (fun g => WordAt g b wd)
      (fun v tl => v = .bool (lookB wd tt) ∧ tl = []) := by
  w_top off
  unfold CSpec
  intro dp un gd outer A₀ base g s p loose mean mg mb R B st sz X T N0 hro hd hu hret
  obtain ⟨u1, u2, u3, v4, n4, hb⟩ := hro
  have hbb := hb
  walk_at "c enter"
  repeat' ((fail_if_success (with_reducible show R _ _)); first | (k_unfold; (try dsimp only)) | (k_end; wrow_close) | walk1 | (dsimp only; walk1) | (leave1; walk_say "STEP leave1"; try dsimp only) | fail "no step")
  · rename Fr _ _ _ _ => F9
    rename News _ _ _ _ => N9
    rename _ = true => h9
    refine' spec_endS hret F9 N9 ?k ⟨?_, rfl⟩
    case k => walk_at "c pre"
    have h8 : sigK wd.k = true := h9
    unfold lookB
    rw [h8, Bool.true_and]
  · rename Fr _ _ _ _ => F9
    rename News _ _ _ _ => N9
    rename _ = false => h9
    refine' spec_endS hret F9 N9 ?k ⟨?_, rfl⟩
    case k => walk_at "c pre"
    have h8 : sigK wd.k = false := h9
    unfold lookB
    rw [h8, Bool.false_and]
    exact congrArg Value.bool h9
end
-- Due
section
theorem rows_Due : hd.heap_39 = hd.heap_39 := by
  k_with "setItem ref int" => (k_here; k_dflt (refine set_mine (by k_asm) (by k_asm) (by omega) (by omega) (by k_upd) ?_); intro _ _ _; (try k_sweep))
  exact rfl
theorem item_at {prog : Program} {w : World} {A : Around} {E : Value → Shared → Prop} {s : Shared} {l : Addr} {vs : List Value} {a : Nat} {u : Tok} {v : Value} {Q : Value → Shared → Prop} {value slice : PySem.Expr} (hw : vs[a]? = some v) (hl : s.heap.IsList l vs.toArray) (hfit : a ≤ 1000) (h : Q v s)
    (hs : subscripted slice false (.ref l) (.int (a : Int) u) = operate [.ref l, .int (a : Int) u] (getItem (.ref l) (.int (a : Int) u)) := by with_unfolding_all rfl) :
    wpAny (model prog w) A (subscriptTail value slice (.ref l) (.int (a : Int) u)) Q E s :=
  item_litK hl (by omega) (by omega) (by rw [Int.toNat_natCast]; exact hw) h hs
local macro_rules | `(tactic| walk_at "subscriptTail") => `(tactic| (k_here; (with_reducible show wpAny _ _ (subscriptTail _ _ (Value.ref _) (Value.int _ _)) _ _ _); k_dflt (refine' item_at ?k1 ?k2 ?k3 ?_ ?k6; (case k1 => with_reducible assumption); (case k2 => is_list); (case k3 => omega); (case k6 => with_unfolding_all rfl); k_whole)))
def dueName (wd : Wd) : Bool := (wd.k == Str.ofString "name") && !([Str.ofString "fn", Str.ofString "self", Str.ofString "Self", Str.ofString "_"].any fun x => x == wd.t)
set_option maxHeartbeats 2000000 in
theorem namedue_spec {prog : Program} {w : World} {sa wl b : Addr} {a : Nat} {ta : Tok} {n c : Nat} {vs : List Value} {wd : Wd} (hw : vs[a]? = some (.ref b)) (hl : vs.length ≤ 1000) (ha : a < vs.length) (hne : @Ne Nat sa wl) :
    CSpec prog w 1 30 274 [.ref sa] [(sa, listOf #[.ref wl, .int (a : Int) ta] n), (wl, listOf vs.toArray c)] (fun g => WordAt g b wd)
      (fun v tl => (dueName wd = true ∧ ∃ q u1 u2 n1 n2 ta', v = .ref q ∧ tl = (q, ({ cls := .type "tuple", data := .seq [.str wd.t u1, .int wd.pos u2].toArray n1 } : Obj)) :: [(sa, listOf #[.ref wl, .int ((a : Int) + 1) ta'] n2), (wl, listOf vs.toArray c)]) ∨
        (dueName wd = false ∧ ∃ q u1 u2 n1, v = .ref q ∧ tl = (q, ({ cls := .type "tuple", data := .seq [.str (Str.ofString "refused") u1, .int wd.pos u2].toArray n1 } : Obj)) :: [(sa, listOf #[.ref wl, .int (a : Int) ta] n), (wl, listOf vs.toArray c)])) := by
  w_top off
  unfold CSpec
  intro dp un gd outer A₀ base g s p loose mean mg mb R B st sz X T N0 hro hd hu hret
  obtain ⟨u1, u2, u3, v4, n4, hb⟩ := hro
  have hbb := hb
  walk_at "c enter"
  cases hn : (wd.k != Str.ofString "name") with
  | true =>
    have hn' : (wd.k == Str.ofString "name") = false := by rw [← Bool.not_eq_true', ← hn]; rfl
    repeat' ((fail_if_success (with_reducible show R _ _)); first | (k_unfold; (try dsimp only)) | (k_end; wrow_close) | walk1 | (dsimp only; walk1) | (leave1; walk_say "STEP leave1"; try dsimp only) | fail "no step")
    rename Fr _ _ _ _ => F9
    rename News _ _ _ _ => N9
    refine' spec_endS hret F9 N9 ?k (.inr ⟨by unfold dueName; rw [hn']; rfl, _, _, _, _, rfl, rfl⟩)
    case k => walk_at "c pre"
  | false =>
    have hn' : (wd.k == Str.ofString "name") = true := by
      have : (!(wd.k == Str.ofString "name")) = false := hn
      rw [Bool.not_eq_false'] at this; exact this
    repeat' ((fail_if_success (with_reducible show R _ _)); first | (k_unfold; (try dsimp only)) | (k_end; wrow_close) | walk1 | (dsimp only; walk1) | (leave1; walk_say "STEP leave1"; try dsimp only) | fail "no step")
    · rename Fr _ _ _ _ => F9
      rename News _ _ _ _ => N9
      rename _ = true => h9
      refine' spec_endS hret F9 N9 ?k (.inr ⟨by unfold dueName; rw [hn', h9]; rfl, _, _, _, _, rfl, rfl⟩)
      case k => walk_at "c pre"
    · rename Fr _ _ _ _ => F9
      rename News _ _ _ _ => N9
      rename _ = false => h9
      refine' spec_endS hret F9 N9 ?k (.inl ⟨by unfold dueName; rw [hn', h9]; rfl, _, _, _, _, _, _, rfl, rfl⟩)
      case k => walk_at "c pre"
end
section

-- Due2
section
theorem rows_Due2 : hd.heap_39 = hd.heap_39 := by
  k_with_none
  k_with "subscriptTail Name Constant ref int" => ((k_here; (with_reducible show wpAny _ _ (subscriptTail _ _ (Value.ref _) (Value.int _ _)) _ _ _); (with_unfolding_all refine item_litK (by is_list) (by decide) (by decide) (by rfl) ?_ (by with_unfolding_all rfl))))
  k_with "binaryOp Mult int int" => (refine mul_int ?_ (IntMulOk.of_left (intBits_fmod (by decide) (by decide))))
  k_with "k_room" => (((try simp only [depth_mark, depth_under_make, depth_under_kw, depth_in1, depth_deeper, depth_caller]); (simp only [recursionLimit]; omega)))
  k_with "k_units" => (((try simp only [units_in1, units_deeper, Around.mark_units, units_caller]); (try dsimp only); first | exact line_of (by with_reducible assumption) (by exact Nat.le_of_ble_eq_true rfl) | (have hcL9 := cLine_is; omega)))
  k_with "k_in" => (exact Frag.In.keeps (by with_reducible assumption) (Fr.keep (by with_reducible assumption)))
  k_with "k_ne" => ((refine neN ?_; (try dsimp only); first | exact Nat.ne_of_lt (by k_extra "c lt") | exact Nat.ne_of_gt (by k_extra "c lt") | exact ne_l1 (by k_extra "c lt") | exact ne_l2 (by k_extra "c lt") | exact ne_r1 (by k_extra "c lt") | exact ne_r2 (by k_extra "c lt") | omega))
  k_with "c use" => (((case k1 => k_asm); (case k2 => k_asm); (case k3 => k_asm); (case k4 => k_asm); (case k5 => k_asm); (case k6 => exact rfl); (case k7 => exact rfl); (case h1 => k_extra "c pre"); (case h2 => k_extra "c part"); (case h4 => k_extra "c dp"); (case h5 => k_extra "c un")))
  k_with "until iter" => (repeat' ((fail_if_success (with_reducible show wpAny _ _ (pyIter _) _ _ _)); first | (k_unfold; (try dsimp only)) | (k_end; wrow_close) | walk1 | (dsimp only; walk1) | (leave1; walk_say "STEP leave1"; try dsimp only) | fail "no step"))
  k_with "until while" => (repeat' ((fail_if_success (with_reducible show wpAny _ _ (exec (Stmt.While _ _ _ _) _) _ _ _)); first | (k_unfold; (try dsimp only)) | (k_end; wrow_close) | walk1 | (dsimp only; walk1) | (leave1; walk_say "STEP leave1"; try dsimp only) | fail "no step"))
  k_with "until kswend" => (repeat' ((fail_if_success (with_reducible show KswEnd _ _ _ _ _ _ _ _ _ _ _ _)); first | (k_unfold; (try dsimp only)) | (k_end; wrow_close) | walk1 | (dsimp only; walk1) | (leave1; walk_say "STEP leave1"; try dsimp only) | fail "no step"))
  k_with "ite" => ((k_closed; first | with_reducible refine ite_pos (by decide) ?_ | with_reducible refine ite_neg (by decide) ?_))
  k_with "subscriptTail Call" => ((k_here; k_dflt (refine kba_turn (value' := PySem.Expr.Name (PySem.Str.ofString "_") ⟨0, 0, 0, 0⟩) (fun _ => rfl) ?_)))
  k_with "subscriptTail Subscript" => ((k_here; (first | (with_reducible show wpAny _ _ (subscriptTail _ _ (Value.ref _) _) _ _ _) | (with_reducible show wpAny _ _ (subscriptTail _ _ (Value.str _ _) (Value.ref _)) _ _ _)); k_dflt (refine kba_turn (value' := PySem.Expr.Name (PySem.Str.ofString "_") ⟨0, 0, 0, 0⟩) (fun _ => rfl) ?_)))
  k_with "c dp" => (((try dsimp only); first | exact dp_of (by with_reducible assumption) (by exact Nat.le_of_ble_eq_true rfl) | exact dp_of1 (by with_reducible assumption) (by exact Nat.le_of_ble_eq_true rfl) | omega))
  k_with "c un" => (((try dsimp only); first | exact un_of (by with_reducible assumption) (by exact Nat.le_of_ble_eq_true rfl) | exact un_of1 (by with_reducible assumption) (by exact Nat.le_of_ble_eq_true rfl) | omega))
  k_with "c a" => (with_reducible assumption)
  k_with "c lt" => (first | with_reducible assumption | exact a0 (by k_extra "c a") | exact a1 (by k_extra "c a") | exact a2 (by k_extra "c a") | exact a3 (by k_extra "c a") | exact a4 (by k_extra "c a") | exact a5 (by k_extra "c a") | exact a6 (by k_extra "c a") | exact a7 (by k_extra "c a") | exact a8 (by k_extra "c a") | exact a9 (by k_extra "c a") | exact a10 (by k_extra "c a") | exact a11 (by k_extra "c a") | exact a12 (by k_extra "c a") | exact a13 (by k_extra "c a"))
  k_with "c p" => (first | with_reducible assumption | k_ne | exact Nat.le_of_ble_eq_true rfl | decide | omega | assumption | exact rfl)
  k_with "c ro" => (first | exact fun _ _ _ => trivial | (intro g' st' hr'; have hro9 := st' _ _ (by with_reducible assumption); exact ⟨_, _, _, _, _, hro9⟩))
  k_with "c fin2" => (((try case p1 => k_extra "c p"); (try case p2 => k_extra "c p"); (try case p3 => k_extra "c p"); (try case p4 => k_extra "c p"); (try case p5 => k_extra "c p"); (case h3 => k_extra "c ro"); k_whole))
  k_with "c fin" => ((k_extra "c use"; k_extra "c fin2"))
  k_with "c enter" => ((refine spec_enter (by assumption) (by assumption) (by assumption) (by assumption) (by assumption) (by assumption) (by k_is) (by k_is) (by first | exact room_of (by with_reducible assumption) | (simp only [recursionLimit]; omega)) (by first | exact BindsTo.of_eq rfl | exact binds_K (Frag.In.keeps (by assumption) (by assumption)) rfl (by k_is) rfl rfl rfl) (by exact locs rfl) ?_ (by exact rfl) (by exact rfl) (by exact rfl) (by decide); intro _ _ _ _; (try dsimp only); (try k_fold)))
  k_with "c part" => (first | exact Part.nil | (apply Part.out; (· k_mem); (· k_extra "c part")) | (apply Part.stay; (· k_all); (· k_extra "c part")) | (refine part_tail ?_; k_extra "c tail"))
  k_with "c tail" => (first | exact List.forall_mem_nil _ | (refine List.forall_mem_cons.mpr ⟨?_, ?_⟩; (· k_extra "c apart"); (· k_extra "c tail")))
  k_with "c apart" => (first | exact OwnOff.ne (by assumption) (by k_memK) | (refine allLt_apart ?_; k_extra "c conj"))
  k_with "c conj" => (first | assumption | exact And.right (by k_extra "c conj"))
  k_with "c adr" => (first | exact List.forall_mem_nil _ | (refine List.forall_mem_cons.mpr ⟨?_, ?_⟩; (· k_memK); (· k_extra "c adr")))
  k_with "c pre" => (first | exact List.forall_mem_nil _ | (refine List.forall_mem_cons.mpr ⟨?_, ?_⟩; (· k_mem); (· k_extra "c pre")))
  k_with "call builtin:len" => ((k_here; (with_reducible show wpAny _ _ (call (Value.builtin "len") [Value.ref _]) _ _ _); (with_unfolding_all refine len_mine (by is_list) (by (first | omega | (simp only [List.length_cons, List.length_nil, List.length_append]; omega))) ?_)))
  k_with "subscriptTail" => ((k_here; (with_reducible show wpAny _ _ (subscriptTail _ _ (Value.ref _) (Value.int _ _)) _ _ _); (with_unfolding_all refine item_open (by is_list) (by omega) (by omega) (by omega) ?_ (by with_unfolding_all rfl)); intro _ _ _))
  k_with "call type:range" => ((k_here; (with_reducible show wpAny _ _ (call _ [_]) _ _ _); (with_unfolding_all refine range1_rows (by k_asm) (by k_asm) ?_); intro _ _ _ _ _ _ _ _ _; (try k_sweep)))
  k_with "call builtin:list.append" => ((k_here; (with_reducible show wpAny _ _ (call (Value.builtin _) [Value.ref _, _]) _ _ _); k_dflt (refine append_K (by k_asm) (by k_asm) (by k_upd) ?_ (by first | exact small_size (by assumption) | size_fits)); intro _ _ _; (try k_sweep)))
  k_with "binaryOp Add str str" => ((k_here; (refine add_mine ?_ (by (first | omega | (simp only [Str.length_append]; omega))) (by (first | omega | (simp only [Str.length_append]; omega)))); intro _ _))
  k_with "call type:list" => ((k_here; (with_reducible show wpAny _ _ (call (Value.type "list") [Value.ref _]) _ _ _); k_dflt (refine list_mine (by k_asm) (by k_asm) (by k_mem) (by omega) ?_); intro _ _ _ _ _ l9; (try k_lt l9); (try (revert l9; intro _)); (try k_sweep)))
  k_with "callWith ref" => ((k_here; k_dflt (first | refine callWith_K (by with_reducible assumption) (by k_is) ?_ | refine callWith_K0 (by k_in) (by k_is) ?_)))
  k_with "subscriptTail" => (k_here; (with_reducible show wpAny _ _ (subscriptTail _ _ (Value.str _ _) (Value.int _ _)) _ _ _); (refine item_known (by with_reducible assumption) (by omega) (by omega) (by assumption) ?_ (by with_unfolding_all rfl) (by intro _; with_unfolding_all rfl)); (try dsimp only))
  k_with "subscriptTail Name Name str int" => k_extra "subscriptTail"
  k_with "subscriptTail Name BinOp str int" => k_extra "subscriptTail"
  k_with "compareOp In str str" => (k_here; first | refine in_b (by with_reducible assumption) ?_ | refine in_b (b := true) (by decide +kernel) ?_ | refine in_b (b := false) (by decide +kernel) ?_)
  k_with "compareOp Eq str str" => (k_here; first | refine eq_b (by with_reducible assumption) ?_ | refine eq_b (b := true) (by decide +kernel) ?_ | refine eq_b (b := false) (by decide +kernel) ?_)
  k_with "compareOp NotEq str str" => (k_here; first | refine ne_b (by with_reducible assumption) ?_ | refine ne_b (b := true) (by decide +kernel) ?_ | refine ne_b (b := false) (by decide +kernel) ?_)
  k_with "subscriptTail Name Slice str ref" => (k_here; (refine slice_known (s := ⟨_, _, _, _, _⟩) (by k_asm) (by k_asm) (by with_reducible assumption) (by assumption) ?_ (by with_unfolding_all rfl) (by intro _; with_unfolding_all rfl)); intro _ _ _ _ _; (try dsimp only); (try k_sweep))
  k_with "compareOp Eq int int" => (k_here; refine eqi_b (by with_reducible assumption) ?_)
  k_with "subscriptTail Name Constant ref int" => (k_here; (with_reducible show wpAny _ _ (subscriptTail _ _ (Value.ref _) (Value.int _ _)) _ _ _); k_dflt (refine item_tupleL (by exact word_tup (by k_asm) (by with_reducible assumption)) (by decide) (by decide) (by rfl) (by rfl) ?_ (by with_unfolding_all rfl) (by intro _; with_unfolding_all rfl)))
  k_with "call ref" => (k_here; (with_reducible show wpAny _ _ (call (Value.ref 267) _) _ _ _); (try k_fold); k_dflt (refine use_by (by k_asm) (by k_asm) (by k_asm) (by k_asm) (by k_asm) (by exact rfl) (by exact rfl) (by k_extra "c pre") (by k_extra "c part") (by k_extra "c dp") (by k_extra "c un") islooked_spec (by k_extra "c ro") ?_); walk_at "c in"; rename_i P'; obtain ⟨hv', htl'⟩ := P'; subst hv' htl'; (walk_at "c aft"))
  k_with "subscriptTail" => (k_here; (with_reducible show wpAny _ _ (subscriptTail _ _ (Value.ref _) (Value.int _ _)) _ _ _); k_dflt (refine item_at (by with_reducible assumption) (by is_list) (by omega) ?_ (by with_unfolding_all rfl)))
  k_with "setItem ref int" => (k_here; k_dflt (refine set_mine (by k_asm) (by k_asm) (by omega) (by omega) (by k_upd) ?_); intro _ _ _; (try k_sweep))
  exact rfl
set_option maxHeartbeats 2000000 in
theorem expdue_spec {prog : Program} {w : World} {sa wl b : Addr} {a : Nat} {ta tx : Tok} {n c : Nat} {vs : List Value} {wd : Wd} {tt : Str} (hw : vs[a]? = some (.ref b)) (hl : vs.length ≤ 1000) (ha : a < vs.length) (hne : @Ne Nat sa wl) :
    CSpec prog w 3 60 281 [.ref sa, .str tt tx] [(sa, listOf #[.ref wl, .int (a : Int) ta] n), (wl, listOf vs.toArray c)] (fun g => WordAt g b wd)
      (fun v tl => (lookB wd tt = true ∧ v = .ref b ∧ ∃ n2 ta', tl = [(sa, listOf #[.ref wl, .int ((a : Int) + 1) ta'] n2), (wl, listOf vs.toArray c)]) ∨
        (lookB wd tt = false ∧ ∃ q u1 u2 n1, v = .ref q ∧ tl = (q, ({ cls := .type "tuple", data := .seq [.str (Str.ofString "refused") u1, .int wd.pos u2].toArray n1 } : Obj)) :: [(sa, listOf #[.ref wl, .int (a : Int) ta] n), (wl, listOf vs.toArray c)])) := by
  w_top off
  unfold CSpec
  intro dp un gd outer A₀ base g s p loose mean mg mb R B st sz X T N0 hro hd hu hret
  obtain ⟨u1, u2, u3, v4, n4, hb⟩ := hro
  have hbb := hb
  walk_at "c enter"
  cases hn : lookB wd tt with
  | true =>
    repeat' ((fail_if_success (with_reducible show R _ _)); first | (k_unfold; (try dsimp only)) | (k_end; wrow_close) | walk1 | (dsimp only; walk1) | (leave1; walk_say "STEP leave1"; try dsimp only) | fail "no step")
    rename Fr _ _ _ _ => F9
    rename News _ _ _ _ => N9
    refine' spec_endS hret F9 N9 ?k (.inl ⟨hn, rfl, _, _, rfl⟩)
    case k => walk_at "c pre"
  | false =>
    repeat' ((fail_if_success (with_reducible show R _ _)); first | (k_unfold; (try dsimp only)) | (k_end; wrow_close) | walk1 | (dsimp only; walk1) | (leave1; walk_say "STEP leave1"; try dsimp only) | fail "no step")
    rename Fr _ _ _ _ => F9
    rename News _ _ _ _ => N9
    refine' spec_endS hret F9 N9 ?k (.inr ⟨hn, _, _, _, _, rfl, rfl⟩)
    case k => walk_at "c pre"
end
-- Due3
section
def closeDue (wd : Wd) : Bool := (wd.k == Str.ofString "sign") && (Txt.item wd.t 0 == Str.ofString ">")
theorem bne_false {x y : Str} (h : (x != y) = false) : (x == y) = true := by
  have : (!(x == y)) = false := h
  rw [Bool.not_eq_false'] at this; exact this
theorem bne_true {x y : Str} (h : (x != y) = true) : (x == y) = false := by
  have : (!(x == y)) = true := h
  rw [Bool.not_eq_true'] at this; exact this
set_option maxHeartbeats 2000000 in
theorem closedue_spec {prog : Program} {w : World} {sa wl b : Addr} {a : Nat} {ta : Tok} {n c : Nat} {vs : List Value} {wd : Wd} (hw : vs[a]? = some (.ref b)) (hl : vs.length ≤ 1000) (ha : a < vs.length) (hne : @Ne Nat sa wl) (htt : wd.t.length ≤ 1000) (ht0 : wd.k = Str.ofString "sign" → 0 < wd.t.length) (hpp : 0 ≤ wd.pos ∧ wd.pos ≤ 1000) :
    CSpec prog w 1 60 288 [.ref sa] [(sa, listOf #[.ref wl, .int (a : Int) ta] n), (wl, listOf vs.toArray c)] (fun g => WordAt g b wd)
      (fun v tl => (closeDue wd = true ∧ ∃ q u1 u2 u3 n1, v = .ref q ∧
          (((wd.t == Str.ofString ">") = true ∧ ∃ n2 ta', tl = (q, wordO ⟨Str.ofString "sign", Str.ofString ">", wd.pos, false⟩ u1 u2 u3 .none n1) :: [(sa, listOf #[.ref wl, .int ((a : Int) + 1) ta'] n2), (wl, listOf vs.toArray c)]) ∨
           ((wd.t == Str.ofString ">") = false ∧ ∃ z y1 y2 y3 n3, tl = (q, wordO ⟨Str.ofString "sign", Str.ofString ">", wd.pos, false⟩ u1 u2 u3 .none n1) :: (z, wordO (restW wd) y1 y2 y3 .none n3) :: [(sa, listOf #[.ref wl, .int (a : Int) ta] n), (wl, listOf (vs.set a (.ref z)).toArray c)]))) ∨
        (closeDue wd = false ∧ ∃ q u1 u2 n1, v = .ref q ∧ tl = (q, ({ cls := .type "tuple", data := .seq [.str (Str.ofString "refused") u1, .int wd.pos u2].toArray n1 } : Obj)) :: [(sa, listOf #[.ref wl, .int (a : Int) ta] n), (wl, listOf vs.toArray c)])) := by
  w_top off
  unfold CSpec
  intro dp un gd outer A₀ base g s p loose mean mg mb R B st sz X T N0 hro hd hu hret
  obtain ⟨u1, u2, u3, v4, n4, hb⟩ := hro
  have hbb := hb
  walk_at "c enter"
  cases hn : (wd.k != Str.ofString "sign") with
  | true =>
    repeat' ((fail_if_success (with_reducible show R _ _)); first | (k_unfold; (try dsimp only)) | (k_end; wrow_close) | walk1 | (dsimp only; walk1) | (leave1; walk_say "STEP leave1"; try dsimp only) | fail "no step")
    rename Fr _ _ _ _ => F9
    rename News _ _ _ _ => N9
    refine' spec_endS hret F9 N9 ?k (.inr ⟨by unfold closeDue; rw [bne_true hn]; rfl, _, _, _, _, rfl, rfl⟩)
    case k => walk_at "c pre"
  | false =>
    have hn' := bne_false hn
    have ht1 := ht0 (eq_of_beq hn')
    obtain ⟨c1, hc1⟩ : ∃ c1, Txt.item wd.t 0 = c1 := ⟨_, rfl⟩
    cases hs : (c1 != Str.ofString ">") with
    | true =>
      repeat' ((fail_if_success (with_reducible show R _ _)); first | (k_unfold; (try dsimp only)) | (k_end; wrow_close) | walk1 | (dsimp only; walk1) | (leave1; walk_say "STEP leave1"; try dsimp only) | fail "no step")
      rename Fr _ _ _ _ => F9
      rename News _ _ _ _ => N9
      refine' spec_endS hret F9 N9 ?k (.inr ⟨by unfold closeDue; rw [hn', hc1, bne_true hs]; rfl, _, _, _, _, rfl, rfl⟩)
      case k => walk_at "c pre"
    | false =>
      have hcd : closeDue wd = true := by unfold closeDue; rw [hn', hc1, bne_false hs]; rfl
      cases he : (wd.t == Str.ofString ">") with
      | true =>
        repeat' ((fail_if_success (with_reducible show R _ _)); first | (k_unfold; (try dsimp only)) | (k_end; wrow_close) | walk1 | (dsimp only; walk1) | (leave1; walk_say "STEP leave1"; try dsimp only) | fail "no step")
        rename Fr _ _ _ _ => F9
        rename News _ _ _ _ => N9
        refine' spec_endS hret F9 N9 ?k (.inl ⟨hcd, _, _, _, _, _, rfl, .inl ⟨he, _, _, rfl⟩⟩)
        case k => walk_at "c pre"
      | false =>
        repeat' ((fail_if_success (with_reducible show R _ _)); first | (k_unfold; (try dsimp only)) | (k_end; wrow_close) | walk1 | (dsimp only; walk1) | (leave1; walk_say "STEP leave1"; try dsimp only) | fail "no step")
        rename Fr _ _ _ _ => F9
        rename News _ _ _ _ => N9
        refine' spec_endS hret F9 N9 ?k (.inl ⟨hcd, _, _, _, _, _, rfl, .inr ⟨he, _, _, _, _, _, rfl⟩⟩)
        case k => walk_at "c pre"
end
end
end
end
end
-- DatEq
section
section
variable {prog : Program} {w : World} {A : Around} {E : Value → Shared → Prop} {s : Shared} {h₀ : Heap} {L : Addr} {news : Led} {u v : Value} {d e : Dat} {Q : Value → Shared → Prop}
theorem shaped_dat (h : kqdOk 8 d = true) : SeqAt.shaped (kqdP d) = true := by
  have l := kqd_lay 8 d h
  unfold SeqAt.shaped; rw [l.1, Bool.true_and]; exact decide_eq_true (Nat.le_trans l.2 (by decide))
theorem eqv_dat (hd : kqdOk 8 d = true) (he : kqdOk 8 e = true) (b : Bool) (hb : b = true ↔ d = e) : PyData.eqv (kqdP d) (kqdP e) = b := by
  have q := kqd_eqv 8 d e 8 hd he
  rw [Bool.eq_iff_iff, q, hb]
/-- two data compared -/
theorem eq_dat (N : News h₀ L s.heap news) (Du : DatIn news u d) (Dv : DatIn news v e) (hd : kqdOk 8 d = true) (he : kqdOk 8 e = true) (hu : A.units + 64 < cLine) (b : Bool) (hb : b = true ↔ d = e) (h : Q (.bool b) s) :
    wpAny (model prog w) A (compareOp .Eq u v) Q E s := by
  obtain ⟨as, ra⟩ := kqd_in N 8 Du hd
  obtain ⟨bs, rb⟩ := kqd_in N 8 Dv he
  exact eq_dataH ra rb (shaped_dat hd) (shaped_dat he) hu (by rw [eqv_dat hd he b hb]; exact h)
theorem ne_dat (N : News h₀ L s.heap news) (Du : DatIn news u d) (Dv : DatIn news v e) (hd : kqdOk 8 d = true) (he : kqdOk 8 e = true) (hu : A.units + 64 < cLine) (b : Bool) (hb : b = true ↔ d = e) (h : Q (.bool !b) s) :
    wpAny (model prog w) A (compareOp .NotEq u v) Q E s := by
  obtain ⟨as, ra⟩ := kqd_in N 8 Du hd
  obtain ⟨bs, rb⟩ := kqd_in N 8 Dv he
  exact ne_dataH ra rb (shaped_dat hd) (shaped_dat he) hu (by rw [eqv_dat hd he b hb]; exact h)
theorem eq_same (N : News h₀ L s.heap news) (Du : DatIn news u d) (Dv : DatIn news v e) (hd : kqdOk 8 d = true) (hde : d = e) (hu : A.units + 64 < cLine) (h : Q (.bool true) s) :
    wpAny (model prog w) A (compareOp .Eq u v) Q E s := by
  subst hde
  exact eq_dat N Du Dv hd hd hu true ⟨fun _ => rfl, fun _ => rfl⟩ h
theorem ne_same (N : News h₀ L s.heap news) (Du : DatIn news u d) (Dv : DatIn news v e) (hd : kqdOk 8 d = true) (hde : d = e) (hu : A.units + 64 < cLine) (h : Q (.bool false) s) :
    wpAny (model prog w) A (compareOp .NotEq u v) Q E s := by
  subst hde
  exact ne_dat N Du Dv hd hd hu true ⟨fun _ => rfl, fun _ => rfl⟩ h
end
theorem DatAll.set {news : Led} {v : Value} {d : Dat} : ∀ {vs : List Value} {ds : List Dat} (a : Nat), DatAll news vs ds → DatIn news v d → DatAll news (vs.set a v) (ds.set a d)
  | _, _, _, .nil, _ => .nil
  | _, _, 0, .cons _ r, hv => .cons hv r
  | _, _, a + 1, .cons h r, hv => .cons h (DatAll.set a r hv)
theorem datIn_wordInv {T : Led} {v : Value} {wd : Wd} (h : DatIn T v wd.dat) : ∃ b t1 t2 t3 v4 n, v = .ref b ∧ (b, wordO wd t1 t2 t3 v4 n) ∈ T := by
  rw [wordDat] at h
  cases h with
  | tuple hm r =>
    cases r with
    | cons h1 r =>
      cases r with
      | cons h2 r =>
        cases r with
        | cons h3 r =>
          cases r with
          | cons h4 r =>
            cases r with
            | cons h5 r =>
              cases r
              cases h1; cases h2; cases h3; cases h5
              exact ⟨_, _, _, _, _, _, rfl, hm⟩
theorem word_at {T : Led} {vs : List Value} {W : List Wd} (D : DatAll T vs (W.map Wd.dat)) {a : Nat} {wd : Wd} (ha : W[a]? = some wd) :
    ∃ b t1 t2 t3 v4 n, vs[a]? = some (.ref b) ∧ (b, wordO wd t1 t2 t3 v4 n) ∈ T ∧ DatIn T (.ref b) wd.dat := by
  obtain ⟨hlt, e⟩ := List.getElem?_eq_some_iff.mp ha
  obtain ⟨v, hv, hd⟩ := DatAll.get D (k := a) (by rw [List.length_map]; exact hlt)
  have e2 : (W.map Wd.dat)[a]'(by rw [List.length_map]; exact hlt) = wd.dat := by rw [List.getElem_map, e]
  rw [e2] at hd
  obtain ⟨b, t1, t2, t3, v4, n, rfl, hm⟩ := datIn_wordInv hd
  exact ⟨b, t1, t2, t3, v4, n, hv, hm, hd⟩
/-- a word of the law: kind and text are drawn ones, its place is small -/
def Good (wd : Wd) : Prop := (∃ p ∈ toks, wd.k = Str.ofString p.1 ∧ wd.t = Str.ofString p.2) ∧ 0 ≤ wd.pos ∧ wd.pos + wd.t.length ≤ 100
def GoodE (wd : Wd) : Prop := Good wd ∨ ∃ n : Int, wd = endW n ∧ 0 ≤ n ∧ n ≤ 100
/-- kind and text of a word, or of the end -/
def ktOk (k t : Str) : Bool :=
  decide (t.length ≤ 4) && PyData.strOk k && PyData.strOk t && (!(k == Str.ofString "sign") || decide (0 < t.length)) &&
  (dueName ⟨k, t, 0, false⟩ == nameOkB ⟨k, t, 0, false⟩) &&
  (closeB ⟨k, t, 0, false⟩ == ((k == Str.ofString "sign") && (Txt.item t 0 == Str.ofString ">")))
theorem toks_ok : ∀ p ∈ ("end", "") :: toks, ktOk (Str.ofString p.1) (Str.ofString p.2) = true := by decide +kernel
theorem toks_noend : ∀ p ∈ toks, (Str.ofString p.1 != Str.ofString "end") = true := by decide +kernel
theorem toks_rest : ∀ p ∈ toks, closeB ⟨Str.ofString p.1, Str.ofString p.2, 0, false⟩ = true → (Str.ofString p.2 == Str.ofString ">") = false →
    ∃ q ∈ toks, Str.ofString "sign" = Str.ofString q.1 ∧ Txt.slice (Str.ofString p.2) (some 1) none = Str.ofString q.2 ∧ (Str.ofString q.2).length + 1 = (Str.ofString p.2).length := by decide +kernel
theorem goodE_kt {wd : Wd} (h : GoodE wd) : ktOk wd.k wd.t = true := by
  rcases h with ⟨⟨p, hp, e1, e2⟩, -⟩ | ⟨n, rfl, -⟩
  · rw [e1, e2]; exact toks_ok p (.tail _ hp)
  · exact toks_ok ("end", "") (.head _)
structure WOk (wd : Wd) : Prop where
  len : wd.t.length ≤ 1000
  pos : 0 ≤ wd.pos ∧ wd.pos ≤ 1000
  ok : kqdOk 8 wd.dat = true
  okk : PyData.strOk wd.k = true
  okt : PyData.strOk wd.t = true
  sign : wd.k = Str.ofString "sign" → 0 < wd.t.length
  name : dueName wd = nameOkB wd
  close : closeB wd = ((wd.k == Str.ofString "sign") && (Txt.item wd.t 0 == Str.ofString ">"))
theorem dat_ok {wd : Wd} (h1 : PyData.strOk wd.k = true) (h2 : PyData.strOk wd.t = true) : kqdOk 8 wd.dat = true := by
  rw [wordDat]
  cases wd.seven <;> simp [kqdOk, h1, h2]
theorem goodE_ok {wd : Wd} (h : GoodE wd) : WOk wd := by
  have k := goodE_kt h
  unfold ktOk at k
  simp only [Bool.and_eq_true, decide_eq_true_eq, Bool.or_eq_true, Bool.not_eq_true', beq_eq_false_iff_ne, beq_iff_eq] at k
  obtain ⟨⟨⟨⟨⟨k1, k2⟩, k3⟩, k4⟩, k5⟩, k6⟩ := k
  have hp : 0 ≤ wd.pos ∧ wd.pos ≤ 1000 := by
    rcases h with ⟨-, h1, h2⟩ | ⟨n, rfl, h1, h2⟩
    · omega
    · exact ⟨h1, by show n ≤ 1000; omega⟩
  refine ⟨by omega, hp, dat_ok k2 k3, k2, k3, fun e => ?_, k5, k6⟩
  rcases k4 with k4 | k4
  · exact absurd e k4
  · exact k4
theorem good_rest {wd : Wd} (h : GoodE wd) (hc : closeB wd = true) (hn : (wd.t == Str.ofString ">") = false) : Good (restW wd) := by
  rcases h with ⟨⟨p, hp, e1, e2⟩, h1, h2⟩ | ⟨n, rfl, h1, h2⟩
  · have hc' : closeB ⟨Str.ofString p.1, Str.ofString p.2, 0, false⟩ = true := by rw [← e1, ← e2]; exact hc
    obtain ⟨q, hq, x1, x2, x3⟩ := toks_rest p hp hc' (by rw [← e2]; exact hn)
    have x4 : Txt.slice wd.t (some 1) none = Str.ofString q.2 := by rw [e2]; exact x2
    refine ⟨⟨q, hq, x1, x4⟩, ?_, ?_⟩
    · show 0 ≤ wd.pos + 1; omega
    · show wd.pos + 1 + ((Txt.slice wd.t (some 1) none).length : Int) ≤ 100
      rw [x4]
      have : (Str.ofString p.2).length = wd.t.length := by rw [e2]
      omega
  · exact absurd (show closeB (endW 0) = true from hc) (by decide +kernel)
/-- the law's words: drawn ones, the end last -/
def GoodL (U : List Wd) (n : Int) : Prop := (∀ wd ∈ U, Good wd) ∧ 2 ≤ U.length ∧ U.length ≤ 6 ∧ 0 ≤ n ∧ n ≤ 100
abbrev wl_ (U : List Wd) (n : Int) : List Wd := U ++ [endW n]
theorem wl_len (U : List Wd) (n : Int) : (wl_ U n).length = U.length + 1 := by simp [wl_]
theorem wl_get {U : List Wd} {n : Int} (h : GoodL U n) {a : Nat} (ha : a ≤ U.length) : ∃ wd, (wl_ U n)[a]? = some wd ∧ GoodE wd ∧ ((wd.k != Str.ofString "end") = decide (a < U.length)) := by
  by_cases h1 : a < U.length
  · refine ⟨U[a], ?_, .inl (h.1 _ (List.getElem_mem h1)), ?_⟩
    · show (U ++ [endW n])[a]? = _
      rw [List.getElem?_append_left h1, List.getElem?_eq_getElem h1]
    · obtain ⟨⟨p, hp, e1, -⟩, -⟩ := h.1 _ (List.getElem_mem h1)
      rw [e1, toks_noend p hp]; exact (decide_eq_true h1).symm
  · have e : a = U.length := by omega
    subst e
    refine ⟨endW n, ?_, .inr ⟨n, rfl, h.2.2.2⟩, ?_⟩
    · show (U ++ [endW n])[U.length]? = _
      rw [List.getElem?_append_right (Nat.le_refl _)]; simp
    · rw [decide_eq_false h1]; rfl
theorem wl_set {U : List Wd} {n : Int} {a : Nat} {x : Wd} (ha : a < U.length) : (wl_ U n).set a x = wl_ (U.set a x) n := by
  show (U ++ [endW n]).set a x = U.set a x ++ [endW n]
  rw [List.set_append_left _ _ ha]
theorem good_set {U : List Wd} {n : Int} {a : Nat} {x : Wd} (h : GoodL U n) (hx : Good x) : GoodL (U.set a x) n := by
  refine ⟨fun wd hw => ?_, by rw [List.length_set]; exact h.2.1, by rw [List.length_set]; exact h.2.2.1, h.2.2.2⟩
  rcases List.mem_or_eq_of_mem_set hw with hw | rfl
  · exact h.1 _ hw
  · exact hx
end
-- Deed0
section
section
variable {prog : Program} {w : World} {A₀ : Around} {s : Shared} {base g : Heap} {outer : List Env} {K : Frag}
  {R : Result → Shared → Prop} {name qual : Str} {params : Arguments} {body : List Stmt} {scope : Scope} {dV kV doc pm cdv ct oc : Value} {an od : Option Addr} {osl : Array (Option Value)} {f : Addr} {args : Args} {binds : List (Str × Value)}
  {p : Program} {loose : List Str} {mean : ExcName → Option Value} {mg mb : Str → Option Value} {pre : Led} {dp un : Nat} {gd : Option (List Code)}
/-- a contract's entry of a def with cells -/
theorem spec_enterC (_B : Below A₀ base outer g) (st : g.StaysIn s.heap) (sz : g.objs.size ≤ s.heap.objs.size) (X : K.In g) (T : Top p loose mean mg mb g) (N : ∀ q ∈ pre, s.heap.get? q.1 = some q.2 ∧ g.get? q.1 = none)
    (ho : K.lookup f = some ⟨oc, od, .func (fnOf name qual params body scope dV kV doc pm an cdv ct), osl⟩) (hcd : codeIn K cdv qual = true) (hroom : dp < recursionLimit)
    (hbind : BindsTo s (fnOf name qual params body scope dV kV doc pm an cdv ct) args binds) (hkind : (binds.all fun y => scope.names.lookup y.1 == some .local || scope.names.lookup y.1 == some .cell) = true)
    (hnd : ((cellsFrom 0 scope.names []).map (·.1)).Nodup)
    (h : ∀ L' h₁ tk cells, Fr g L' h₁ (bindL (envOfC qual scope L' f cdv).kindOf binds fun _ => none) → News g L' h₁ (cells ++ pre) →
      CellsAre (bindC (envOfC qual scope L' f cdv).kindOf binds fun _ => none) (cellsFrom (L' + 1) scope.names []) cells → (∀ q ∈ pre, @LT.lt Nat _ q.1 L') →
      wpAny (model prog w) ((ar dp un gd outer).deeper (envOfC qual scope L' f cdv)) (execs body (envOfC qual scope L' f cdv))
        (fun fl s' => R (.ok (.ret (match fl with | .ret v => v | _ => .none))) s')
        (fun e s' => wpAny (model prog w) ((ar dp un gd outer).deeper (envOfC qual scope L' f cdv)) (leaving (envOfC qual scope L' f cdv) e) (fun _ s'' => R (.error e) s'') (fun e' s'' => R (.error e') s'') s')
        { s with heap := h₁, toks := tk })
    (hco : scope.isCoroutine = false := by rfl) (hgen : scope.isGenerator = false := by rfl) (hk : scope.kind = .function := by rfl) : codeAny (model prog w) (ar dp un gd outer) (.call (.ref f) args) R s := by
  refine codeAny_call_function hroom (st _ _ (X _ _ ho)) rfl hco hgen rfl (codeRec_of (X.keeps st) hcd) (hbind _ _ _ _ ?_)
  refine wpAny_newFunctionEnv_cells hk (kindsX hkind _) fun env' he s' x => ?_
  subst he
  refine ⟨(T.nolimit.keeps st).keeps x.toInCall.keep, codeAny_func ?_⟩
  obtain ⟨h₁, tk, rfl, _⟩ := x.done
  have hk₁ := x.toInCall.keep
  obtain ⟨cells, NC, Y⟩ := Cl.news (h₀ := s.heap) (Nat.le_refl _) fun n c hm => ⟨x.cell n c (lookup_of_mem_nodup (cellsFrom_names scope.names 0 (s.heap.objs.size + 1) [] [] rfl ▸ hnd) hm), x.above n c hm⟩
  refine h s.heap.objs.size h₁ tk cells ⟨x.toInCall.ns, fun b o e => hk₁ b o (st b o e), sz⟩ (fun q hq => ?_) Y (fun q hq => Heap.lt_size (N q hq).1)
  · rcases List.mem_append.mp hq with hq | hq
    · refine ⟨(NC q hq).1, (NC q hq).2.1, ?_⟩
      cases z : g.get? q.1 with
      | none => rfl
      | some o => have := st _ _ z; rw [(NC q hq).2.2] at this; cases this
    · exact ⟨hk₁ _ _ (N q hq).1, Nat.ne_of_lt (Heap.lt_size (N q hq).1), (N q hq).2⟩
end
/-- two addresses apart (hidden from omega) -/
def Nq (a b : Nat) : Prop := a ≠ b
theorem Nq.ne {a b : Nat} (h : Nq a b) : a ≠ b := h
theorem Nq.ne' {a b : Nat} (h : Nq a b) : b ≠ a := Ne.symm h
/-- the law's state ahead of a deed -/
structure DSt where
  x : Int
  y : Int
  tx : Tok
  ty : Tok
  n : Nat
  a : Nat
  ta : Tok
  vs : List Value
  c : Nat
  tb : Tok
  n2 : Nat
  ws : List Value
  c2 : Nat
  ps : Array Value
  U : List Wd
  e : Int
/-- the state's addresses and what never changes -/
structure DAd where
  src : Addr
  sa : Addr
  wl : Addr
  xw : Addr
  d : Addr
  r : Addr
  t1 : Tok
  t2 : Tok
  t3 : Tok
  td : Tok
def DAd.adr (D : DAd) : List Addr := [D.src, D.sa, D.wl, 290, D.xw, D.d, D.r]
abbrev dL (w : World) (D : DAd) (S : DSt) : Led :=
  [(D.src, listOf #[.int S.x S.tx, .int S.y S.ty] S.n), (D.sa, listOf #[.ref D.wl, .int (S.a : Int) S.tb] S.n2), (D.wl, listOf S.ws.toArray S.c2), (290, tabObj S.ps),
   (D.xw, instObj 214 D.d), (D.d, wordsD w D.r (S.a : Int) D.t1 D.t2 D.t3 S.ta D.td), (D.r, listOf S.vs.toArray S.c)]
abbrev lamQ : Str := (Str.ofString "_law_deed_right" ++ Str.ofString ".<locals>.") ++ Str.ofString "<lambda>"
/-- the table of the deeds' code: empty, or with the lambda's code -/
def TabOk (ps : Array Value) (T : Led) : Prop :=
  ps = #[] ∨ ∃ (c' : Addr) (oc : Obj) (cs : Array Value) (tq : Tok), ps = #[rawInt 230, rawInt 26, .ref c'] ∧ (c', oc) ∈ T ∧ oc.data = .fields cs ∧ cs[1]? = some (.str lamQ tq)
theorem TabOk.mono {ps : Array Value} {T T' : Led} (h : TabOk ps T) (hs : ∀ q ∈ T, q ∈ T') : TabOk ps T' := by
  rcases h with h | ⟨c', oc, cs, tq, e, hm, r⟩
  · exact .inl h
  · exact .inr ⟨c', oc, cs, tq, e, hs _ hm, r⟩
structure OkD (D : DAd) (T : Led) (S : DSt) : Prop where
  x0 : 0 ≤ S.x
  good : GoodL S.U S.e
  a : S.a ≤ S.U.length
  D1 : DatAll T S.vs ((wl_ S.U S.e).map Wd.dat)
  D2 : DatAll T S.ws ((wl_ S.U S.e).map Wd.dat)
  tab : TabOk S.ps T
  off : OwnOff T D.adr
/-- the addresses apart -/
structure AdOk (D : DAd) : Prop where
  src_sa : Nq D.src D.sa
  src_wl : Nq D.src D.wl
  src_t : Nq D.src 290
  src_x : Nq D.src D.xw
  src_d : Nq D.src D.d
  src_r : Nq D.src D.r
  sa_wl : Nq D.sa D.wl
  sa_t : Nq D.sa 290
  sa_x : Nq D.sa D.xw
  sa_d : Nq D.sa D.d
  sa_r : Nq D.sa D.r
  wl_t : Nq D.wl 290
  wl_x : Nq D.wl D.xw
  wl_d : Nq D.wl D.d
  wl_r : Nq D.wl D.r
  t_x : Nq 290 D.xw
  t_d : Nq 290 D.d
  t_r : Nq 290 D.r
  x_d : Nq D.xw D.d
  x_r : Nq D.xw D.r
  d_r : Nq D.d D.r
theorem off_lt {T : Led} {L : Addr} (h : ∀ q ∈ T, @LT.lt Nat _ q.1 L) : OwnOff T [L + 1, L + 1 + 1] := fun q hq b hb => by
  have h1 := h q hq
  rcases List.mem_cons.mp hb with rfl | hb
  · exact Nat.ne_of_lt (Nat.lt_succ_of_lt h1)
  · rcases List.mem_cons.mp hb with rfl | hb
    · exact Nat.ne_of_lt (Nat.lt_succ_of_lt (Nat.lt_succ_of_lt h1))
    · cases hb
theorem off_app {T : Led} {a b : List Addr} (h : OwnOff T a) (k : OwnOff T b) : OwnOff T (a ++ b) := fun q hq c hc => (List.mem_append.mp hc).elim (h q hq c) (k q hq c)
end
-- Fix0
section
abbrev psF : List Pc := [⟨"name", "fn", " "⟩, ⟨"sign", ">>=", " "⟩, ⟨"name", "b", ""⟩]
abbrev wF0 : Wd := ⟨Str.ofString "name", Str.ofString "fn", 0, false⟩
abbrev wF1 : Wd := ⟨Str.ofString "sign", Str.ofString ">>=", 3, false⟩
abbrev wF2 : Wd := ⟨Str.ofString "name", Str.ofString "b", 7, false⟩
abbrev wF4 : Wd := ⟨Str.ofString "sign", Str.ofString ">=", 4, false⟩
abbrev wF5 : Wd := ⟨Str.ofString "sign", Str.ofString "=", 5, false⟩
theorem rdF : RdAt psF := ⟨by decide +kernel, .inl (by decide +kernel), by decide +kernel, .inl (by decide +kernel), by decide +kernel, .inr ⟨rfl, rfl, by decide +kernel⟩, trivial⟩
theorem flatF : (Str.ofString "fn >>= b").cps.toList = flat psF := by decide +kernel
theorem wdsF : wdsAt 0 psF ++ [endW ((Str.ofString "fn >>= b").length : Nat)] = [wF0, wF1, wF2, endW 8] := by
  have h1 : (Str.ofString "fn").length = 2 := by decide +kernel
  have h2 : (Str.ofString ">>=").length = 3 := by decide +kernel
  have h3 : (Str.ofString " ").length = 1 := by decide +kernel
  have h4 : (Str.ofString "fn >>= b").length = 8 := by decide +kernel
  have b1 : (Str.ofString "name" == Str.ofString "int") = false := by decide +kernel
  have b2 : (Str.ofString "sign" == Str.ofString "int") = false := by decide +kernel
  simp only [wdsAt, wdAt, h1, h2, h3, h4, b1, b2]
  rfl
theorem restF1 : restW wF1 = wF4 := by
  show (⟨Str.ofString "sign", Txt.slice (Str.ofString ">>=") (some 1) none, 3 + 1, false⟩ : Wd) = _
  rw [show Txt.slice (Str.ofString ">>=") (some 1) none = Str.ofString ">=" by decide +kernel]; rfl
theorem restF4 : restW wF4 = wF5 := by
  show (⟨Str.ofString "sign", Txt.slice (Str.ofString ">=") (some 1) none, 4 + 1, false⟩ : Wd) = _
  rw [show Txt.slice (Str.ofString ">=") (some 1) none = Str.ofString "=" by decide +kernel]; rfl
theorem dF_of {T : Led} {vs : List Value} (h : DatAll T vs ([wF0, wF1, wF2, endW 8].map Wd.dat)) : ∃ b0 b1 b2 b3, vs = [.ref b0, .ref b1, .ref b2, .ref b3] ∧
    (∃ t1 t2 t3 v4 n, (b0, wordO wF0 t1 t2 t3 v4 n) ∈ T ∧ DatIn T (.ref b0) wF0.dat) ∧ (∃ t1 t2 t3 v4 n, (b1, wordO wF1 t1 t2 t3 v4 n) ∈ T ∧ DatIn T (.ref b1) wF1.dat) ∧
    (∃ t1 t2 t3 v4 n, (b2, wordO wF2 t1 t2 t3 v4 n) ∈ T ∧ DatIn T (.ref b2) wF2.dat) ∧ (∃ t1 t2 t3 v4 n, (b3, wordO (endW 8) t1 t2 t3 v4 n) ∈ T ∧ DatIn T (.ref b3) (endW 8).dat) := by
  simp only [List.map_cons, List.map_nil] at h
  cases h with
  | cons h0 h =>
    cases h with
    | cons h1 h =>
      cases h with
      | cons h2 h =>
        cases h with
        | cons h3 h =>
          cases h
          obtain ⟨b0, x1, x2, x3, x4, x5, rfl, m0⟩ := datIn_wordInv h0
          obtain ⟨b1, y1, y2, y3, y4, y5, rfl, m1⟩ := datIn_wordInv h1
          obtain ⟨b2, z1, z2, z3, z4, z5, rfl, m2⟩ := datIn_wordInv h2
          obtain ⟨b3, u1, u2, u3, u4, u5, rfl, m3⟩ := datIn_wordInv h3
          exact ⟨b0, b1, b2, b3, rfl, ⟨_, _, _, _, _, m0, h0⟩, ⟨_, _, _, _, _, m1, h1⟩, ⟨_, _, _, _, _, m2, h2⟩, ⟨_, _, _, _, _, m3, h3⟩⟩
theorem news_cut {g h : Heap} {L : Addr} {l l' : Led} (N : News g L h l) (hs : ∀ q ∈ l', q ∈ l) : News g L h l' := fun q hq => N q (hs q hq)
end
-- Law0
section
theorem fr_turn0 {h₀ h₁ h : Heap} {L : Addr} {m : Str → Option Value} (T : KtsTurn [] h₀ h₁) (F : Fr h₁ L h m) : Fr h₀ L h m :=
  ⟨F.ns, fun b o e => F.keep b o (T.other b o e (fun hm => nomatch hm)), by rw [← T.size]; exact F.above⟩
theorem news_turn0 {h₀ h₁ h : Heap} {L : Addr} {news : Led} (T : KtsTurn [] h₀ h₁) (N : News h₁ L h news) : News h₀ L h news := fun q hq =>
  ⟨(N q hq).1, (N q hq).2.1, kts_none (fun b o e => T.other b o e (fun hm => nomatch hm)) (N q hq).2.2⟩
section
variable {prog : Program} {w : World} {A₀ : Around} {E : Value → Shared → Prop} {s : Shared} {base h₀ : Heap} {env : Env} {L : Addr} {m : Str → Option Value}
  {p : Program} {loose : List Str} {mean : ExcName → Option Value} {mg mb : Str → Option Value} {pre news rest : Led} {dp un d u : Nat} {gd : Option (List Code)} {f : Addr} {args : List Value} {ro : Heap → Prop} {Post : Value → Led → Prop} {Q : Value → Shared → Prop}
/-- the call of what may catch, from the law's own frame: the ground stays -/
theorem use_specT0 (B : Below A₀ base [] h₀) (F : Fr h₀ L s.heap m) (X : (hd.heap_39 w.params).In h₀) (N : News h₀ L s.heap news) (T : Top p loose mean mg mb h₀) (OB : OnBase w base h₀ [] p loose mean mg mb) (hf : env.frame = some L) (hk : env.scope.kind = .function)
    (C : CSpecT prog w d u f args pre ro Post) (hpre : ∀ q ∈ pre, q ∈ news) (hrest : Part news pre rest) (hro : ∀ g : Heap, h₀.StaysIn g → (∀ q ∈ rest, g.get? q.1 = some q.2) → ro g) (hd9 : dp + d < 900) (hu : un + u < 9000)
    (ret : ∀ v h' tk' tl, Fr h₀ L h' m → News h₀ L h' (tl ++ rest) → Apart tl rest → Post v tl → Q v { s with heap := h', toks := tk' }) :
    wpAny (model prog w) (ar dp un gd [env]) (call (.ref f) args) Q E s :=
  use_specT B F X N T OB hf hk C hpre hrest hro hd9 hu fun v h' tk' tl h₁ T1 F1 N1 ap P _ _ _ _ => ret v h' tk' tl (fr_turn0 T1 F1) (news_turn0 T1 N1) ap P
end
theorem part_app {l own pre : Led} (hl : ∀ q ∈ l, q ∈ pre) (ho : ∀ q ∈ own, ∀ p ∈ pre, @Ne Nat p.1 q.1) : Part (l ++ own) pre own := by
  induction l with
  | nil => exact .tail ho
  | cons q l ih => exact .out (hl q (.head _)) (ih fun q hq => hl q (.tail _ hq))
theorem okD_mono {D : DAd} {T T' : Led} {S : DSt} (h : OkD D T S) (h1 : ∀ q ∈ T, q ∈ T') (h2 : ∀ q ∈ T', q ∈ T) : OkD D T' S :=
  ⟨h.x0, h.good, h.a, DatAll.mono h1 h.D1, DatAll.mono h1 h.D2, h.tab.mono h1, fun q hq => h.off q (h2 q hq)⟩
end
-- Law1
section
theorem good_dues : ∀ ps : List Pc, (∀ p ∈ ps, OkPc p) → ∀ wd ∈ duesOf ps, (∃ p ∈ toks, wd.k = Str.ofString p.1 ∧ wd.t = Str.ofString p.2) ∧ 0 ≤ wd.pos ∧ wd.pos + (wd.t.length : Int) ≤ ((textOf ps).length : Int) := by
  refine snoc_ind ?_ ?_
  · intro _ wd h
    rw [duesOf_nil] at h
    cases h
  · intro l a ih h wd hw
    have h2 := h a (List.mem_append_right _ (.head _))
    rw [duesOf_snoc] at hw
    rw [textOf_snoc, Str.length_append, Str.length_append]
    rcases List.mem_append.mp hw with hw | hw
    · obtain ⟨h3, h4, h5⟩ := ih (fun p hp => h p (List.mem_append_left _ hp)) wd hw
      exact ⟨h3, h4, by omega⟩
    · obtain rfl := List.mem_singleton.mp hw
      refine ⟨⟨(a.k, a.t), h2.1, rfl, rfl⟩, ?_, ?_⟩
      · dsimp only; omega
      · dsimp only; omega
theorem good_text {ps : List Pc} (h : OkText ps) : GoodL (duesOf ps) ((textOf ps).length : Int) := by
  have h1 := textOf_len ps h.2.2
  have h2 := h.1
  have h3 := h.2.1
  refine ⟨fun wd hw => ?_, by rw [duesOf_len]; exact h2, by rw [duesOf_len]; exact h3, by omega, by omega⟩
  obtain ⟨g1, g2, g3⟩ := good_dues ps h.2.2 wd hw
  exact ⟨g1, g2, by omega⟩
section
variable {w : World} {D : DAd} {c : DSt} {own C0 tl7 own7 add : Led} {adr : List Addr}
theorem dL_adr {p : Addr × Obj} (h : p ∈ dL w D c) : p.1 ∈ D.adr := by
  have e : (dL w D c).map (·.1) = D.adr := rfl
  rw [← e]
  exact List.mem_map_of_mem h
theorem inner_adr (w : World) (D : DAd) (c : DSt) (own C0 : Led) : ((dL w D c ++ own) ++ C0).map (·.1) = D.adr ++ (own ++ C0).map (·.1) := by
  rw [List.append_assoc, List.map_append]; rfl
theorem adr_own (ha : adr = D.adr ++ (own ++ C0).map (·.1)) {p : Addr × Obj} (h : p ∈ own) : p.1 ∈ adr := by
  rw [ha]; exact List.mem_append_right _ (List.mem_map_of_mem (List.mem_append_left _ h))
theorem adr_cst (ha : adr = D.adr ++ (own ++ C0).map (·.1)) {p : Addr × Obj} (h : p ∈ C0) : p.1 ∈ adr := by
  rw [ha]; exact List.mem_append_right _ (List.mem_map_of_mem (List.mem_append_right _ h))
theorem adr_led (ha : adr = D.adr ++ (own ++ C0).map (·.1)) {b : Addr} (h : b ∈ D.adr) : b ∈ adr := by
  rw [ha]; exact List.mem_append_left _ h
theorem inner_part (w : World) (c : DSt) (ha : adr = D.adr ++ (own ++ C0).map (·.1)) (hs : KdSep own7 tl7 adr) (hD : OwnOff own D.adr) (hC : ∀ q ∈ C0, ∀ p ∈ own, @Ne Nat p.1 q.1) :
    ∀ q ∈ own ++ own7, ∀ p ∈ dL w D c ++ (C0 ++ tl7), @Ne Nat p.1 q.1 := by
  intro q hq p hp
  rcases List.mem_append.mp hq with hq | hq
  · rcases List.mem_append.mp hp with hp | hp
    · exact Ne.symm (hD q hq _ (dL_adr hp))
    · rcases List.mem_append.mp hp with hp | hp
      · exact Ne.symm (hC p hp q hq)
      · exact hs.three p hp _ (adr_own ha hq)
  · rcases List.mem_append.mp hp with hp | hp
    · exact Ne.symm (hs.one q hq _ (adr_led ha (dL_adr hp)))
    · rcases List.mem_append.mp hp with hp | hp
      · exact Ne.symm (hs.one q hq _ (adr_cst ha hp))
      · exact Ne.symm (hs.two q hq _ (List.mem_map_of_mem hp))
theorem inner_sub {X : Led} : ∀ q ∈ (X ++ (C0 ++ tl7)) ++ (own ++ own7), q ∈ (X ++ own) ++ (C0 ++ (tl7 ++ own7)) := by
  intro q hq
  simp only [List.mem_append] at hq ⊢
  rcases hq with (h | h | h) | h | h <;> simp [h]
/-- the tail behind the deed's ledger is off that ledger -/
theorem inner_off (ha : adr = D.adr ++ (own ++ C0).map (·.1)) (hs : KdSep own7 tl7 adr) (hD : OwnOff own D.adr) (hO : OwnOff (add ++ (C0 ++ tl7)) D.adr) : OwnOff ((add ++ (C0 ++ tl7)) ++ (own ++ own7)) D.adr := by
  intro q hq b hb
  rcases List.mem_append.mp hq with hq | hq
  · exact hO q hq b hb
  · rcases List.mem_append.mp hq with hq | hq
    · exact hD q hq b hb
    · exact hs.one q hq b (adr_led ha hb)
/-- what the deed adds is off all that stays -/
theorem inner_add (w : World) (c : DSt) (ha : adr = D.adr ++ (own ++ C0).map (·.1)) (hO : OwnOff (add ++ (C0 ++ tl7)) D.adr) (h2 : OwnOff add ((C0 ++ tl7).map (·.1))) (ap : Apart (dL w D c ++ (add ++ (C0 ++ tl7))) (own ++ own7)) :
    ∀ q ∈ add, ∀ b ∈ adr, b ≠ q.1 := by
  intro q hq b hb
  rw [ha] at hb
  rcases List.mem_append.mp hb with hb | hb
  · exact Ne.symm (hO q (List.mem_append_left _ hq) b hb)
  · obtain ⟨p, hp, rfl⟩ := List.mem_map.mp hb
    rcases List.mem_append.mp hp with hp | hp
    · exact ap q (List.mem_append_right _ (List.mem_append_left _ hq)) p (List.mem_append_left _ hp)
    · exact Ne.symm (h2 q hq _ (List.mem_map_of_mem (List.mem_append_left _ hp)))
theorem inner_own (ap : Apart (dL w D c ++ (add ++ (C0 ++ tl7))) (own ++ own7)) : ∀ q ∈ add, ∀ p ∈ own7, p.1 ≠ q.1 := fun q hq p hp =>
  ap q (List.mem_append_right _ (List.mem_append_left _ hq)) p (List.mem_append_right _ hp)
theorem inner_swap : ∀ q ∈ add ++ (C0 ++ tl7), q ∈ C0 ++ (add ++ tl7) := by
  intro q hq
  simp only [List.mem_append] at hq ⊢
  rcases hq with h | h | h <;> simp [h]
theorem inner_swap' : ∀ q ∈ C0 ++ (add ++ tl7), q ∈ add ++ (C0 ++ tl7) := by
  intro q hq
  simp only [List.mem_append] at hq ⊢
  rcases hq with h | h | h <;> simp [h]
theorem inner_mem {X : Led} {T20 : Led} (e : (add ++ (C0 ++ tl7)) ++ (own ++ own7) = T20) : ∀ q ∈ (X ++ own) ++ (C0 ++ (add ++ tl7)), q ∈ X ++ T20 := by
  subst e
  intro q hq
  simp only [List.mem_append] at hq ⊢
  rcases hq with (h | h) | h | h | h <;> simp [h]
theorem inner_mem7 {T20 : Led} (e : (add ++ (C0 ++ tl7)) ++ (own ++ own7) = T20) : ∀ q ∈ own7, q ∈ T20 := by
  subst e
  intro q hq
  simp [hq]
theorem inner_datT {T20 : Led} (e : (add ++ (C0 ++ tl7)) ++ (own ++ own7) = T20) : ∀ q ∈ add ++ (C0 ++ tl7), q ∈ T20 := by
  subst e
  intro q hq
  exact List.mem_append_left _ hq
end
theorem perm43 {a b c e f g h : Addr × Obj} {T : Led} : ∀ q ∈ a :: b :: c :: e :: f :: g :: h :: T, q ∈ f :: g :: h :: a :: b :: c :: e :: T := by
  intro q hq
  simp only [List.mem_cons] at hq ⊢
  rcases hq with h | h | h | h | h | h | h | h <;> simp [h]
theorem mem_seven {a b c e f g h q : Addr × Obj} {T : Led} (hq : q ∈ T) : q ∈ a :: b :: c :: e :: f :: g :: h :: T :=
  .tail _ (.tail _ (.tail _ (.tail _ (.tail _ (.tail _ (.tail _ hq))))))
section
variable {D : DAd} {own C0 tl7 tupr tups tl X : Led} {adr : List Addr}
theorem outer_mem (hC : tupr ++ (tups ++ tl) = C0) {x : Addr × Obj} (hx : x ∈ X) : ∀ q ∈ [x] ++ ([] ++ ((tl7 ++ (tupr ++ tups)) ++ tl)), q ∈ (X ++ own) ++ (C0 ++ tl7) := by
  subst hC
  intro q hq
  simp only [List.mem_append, List.mem_cons, List.not_mem_nil, or_false, false_or] at hq ⊢
  rcases hq with h | (h | h | h) | h
  · rw [h]; simp [hx]
  · simp [h]
  · simp [h]
  · simp [h]
  · simp [h]
theorem outer_sub (hC : tupr ++ (tups ++ tl) = C0) : ∀ q ∈ tl7 ++ (tupr ++ tups), q ∈ C0 ++ tl7 := by
  subst hC
  intro q hq
  simp only [List.mem_append] at hq ⊢
  rcases hq with h | h | h <;> simp [h]
theorem outer_sub' (hC : tupr ++ (tups ++ tl) = C0) : ∀ q ∈ C0 ++ tl7, q ∈ [] ++ ((tl7 ++ (tupr ++ tups)) ++ tl) := by
  subst hC
  intro q hq
  simp only [List.mem_append, List.not_mem_nil, false_or] at hq ⊢
  rcases hq with (h | h | h) | h <;> simp [h]
theorem outer_off (hC : tupr ++ (tups ++ tl) = C0) (hO : OwnOff (C0 ++ tl7) D.adr) : ∀ q ∈ tl7 ++ (tupr ++ tups), ∀ b ∈ [(290 : Addr)], b ≠ q.1 := fun q hq b hb =>
  Ne.symm (hO q (outer_sub hC q hq) b (by
    rw [List.mem_singleton.mp hb]
    exact .tail _ (.tail _ (.tail _ (.head _)))))
theorem outer_own (hC : tupr ++ (tups ++ tl) = C0) (ha : adr = D.adr ++ (own ++ C0).map (·.1)) (hT : OwnOff tl7 adr) (hOC : ∀ q ∈ C0, ∀ p ∈ own, @Ne Nat p.1 q.1) : ∀ q ∈ tl7 ++ (tupr ++ tups), ∀ p ∈ own, p.1 ≠ q.1 := fun q hq p hp => by
  rcases List.mem_append.mp hq with h | h
  · exact Ne.symm (hT q h _ (adr_own ha hp))
  · refine hOC q ?_ p hp
    subst hC
    rcases List.mem_append.mp h with h | h
    · exact List.mem_append_left _ h
    · exact List.mem_append_right _ (List.mem_append_left _ h)
end
end
section


theorem word_tupN {g h : Heap} {L b : Addr} {news : Led} {wd : Wd} {t1 t2 t3 : Tok} {v4 : Value} {n : Nat} (N : News g L h news) (hm : (b, wordO wd t1 t2 t3 v4 n) ∈ news) : IsTup h b [Value.str wd.k t1, .str wd.t t2, .int wd.pos t3, v4, .none].toArray := ⟨_, (N _ hm).1, rfl, _, rfl⟩

-- Fixed
section
local macro_rules | `(tactic| walk_at "c pad 0") => `(tactic| fail "c_pad")
theorem rows_Fixed : hd.heap_39 = hd.heap_39 := by
  k_with_none
  k_with "subscriptTail Name Constant ref int" => ((k_here; (with_reducible show wpAny _ _ (subscriptTail _ _ (Value.ref _) (Value.int _ _)) _ _ _); (with_unfolding_all refine item_litK (by is_list) (by decide) (by decide) (by rfl) ?_ (by with_unfolding_all rfl))))
  k_with "binaryOp Mult int int" => (refine mul_int ?_ (IntMulOk.of_left (intBits_fmod (by decide) (by decide))))
  k_with "k_room" => (((try simp only [depth_mark, depth_under_make, depth_under_kw, depth_in1, depth_deeper, depth_caller]); (simp only [recursionLimit]; omega)))
  k_with "k_units" => (((try simp only [units_in1, units_deeper, Around.mark_units, units_caller]); (try dsimp only); first | exact line_of (by with_reducible assumption) (by exact Nat.le_of_ble_eq_true rfl) | (have hcL9 := cLine_is; omega)))
  k_with "k_in" => (exact Frag.In.keeps (by with_reducible assumption) (Fr.keep (by with_reducible assumption)))
  k_with "k_ne" => ((refine neN ?_; (try dsimp only); first | exact Nat.ne_of_lt (by k_extra "c lt") | exact Nat.ne_of_gt (by k_extra "c lt") | exact ne_l1 (by k_extra "c lt") | exact ne_l2 (by k_extra "c lt") | exact ne_r1 (by k_extra "c lt") | exact ne_r2 (by k_extra "c lt") | omega))
  k_with "c use" => (((case k1 => k_asm); (case k2 => k_asm); (case k3 => k_asm); (case k4 => k_asm); (case k5 => k_asm); (case k6 => exact rfl); (case k7 => exact rfl); (case h1 => k_extra "c pre"); (case h2 => k_extra "c part"); (case h4 => k_extra "c dp"); (case h5 => k_extra "c un")))
  k_with "until iter" => (repeat' ((fail_if_success (with_reducible show wpAny _ _ (pyIter _) _ _ _)); first | (k_unfold; (try dsimp only)) | (k_end; wrow_close) | walk1 | (dsimp only; walk1) | (leave1; walk_say "STEP leave1"; try dsimp only) | fail "no step"))
  k_with "until while" => (repeat' ((fail_if_success (with_reducible show wpAny _ _ (exec (Stmt.While _ _ _ _) _) _ _ _)); first | (k_unfold; (try dsimp only)) | (k_end; wrow_close) | walk1 | (dsimp only; walk1) | (leave1; walk_say "STEP leave1"; try dsimp only) | fail "no step"))
  k_with "until kswend" => (repeat' ((fail_if_success (with_reducible show KswEnd _ _ _ _ _ _ _ _ _ _ _ _)); first | (k_unfold; (try dsimp only)) | (k_end; wrow_close) | walk1 | (dsimp only; walk1) | (leave1; walk_say "STEP leave1"; try dsimp only) | fail "no step"))
  k_with "ite" => ((k_closed; first | with_reducible refine ite_pos (by decide) ?_ | with_reducible refine ite_neg (by decide) ?_))
  k_with "subscriptTail Call" => ((k_here; k_dflt (refine kba_turn (value' := PySem.Expr.Name (PySem.Str.ofString "_") ⟨0, 0, 0, 0⟩) (fun _ => rfl) ?_)))
  k_with "subscriptTail Subscript" => ((k_here; (first | (with_reducible show wpAny _ _ (subscriptTail _ _ (Value.ref _) _) _ _ _) | (with_reducible show wpAny _ _ (subscriptTail _ _ (Value.str _ _) (Value.ref _)) _ _ _)); k_dflt (refine kba_turn (value' := PySem.Expr.Name (PySem.Str.ofString "_") ⟨0, 0, 0, 0⟩) (fun _ => rfl) ?_)))
  k_with "c dp" => (((try dsimp only); first | exact dp_of (by with_reducible assumption) (by exact Nat.le_of_ble_eq_true rfl) | exact dp_of1 (by with_reducible assumption) (by exact Nat.le_of_ble_eq_true rfl) | omega))
  k_with "c un" => (((try dsimp only); first | exact un_of (by with_reducible assumption) (by exact Nat.le_of_ble_eq_true rfl) | exact un_of1 (by with_reducible assumption) (by exact Nat.le_of_ble_eq_true rfl) | omega))
  k_with "c a" => (with_reducible assumption)
  k_with "c lt" => (first | with_reducible assumption | exact a0 (by k_extra "c a") | exact a1 (by k_extra "c a") | exact a2 (by k_extra "c a") | exact a3 (by k_extra "c a") | exact a4 (by k_extra "c a") | exact a5 (by k_extra "c a") | exact a6 (by k_extra "c a") | exact a7 (by k_extra "c a") | exact a8 (by k_extra "c a") | exact a9 (by k_extra "c a") | exact a10 (by k_extra "c a") | exact a11 (by k_extra "c a") | exact a12 (by k_extra "c a") | exact a13 (by k_extra "c a"))
  k_with "c p" => (first | with_reducible assumption | k_ne | exact Nat.le_of_ble_eq_true rfl | decide | omega | assumption | exact rfl)
  k_with "c ro" => (first | exact fun _ _ _ => trivial | (intro g' st' hr'; have hro9 := st' _ _ (by with_reducible assumption); exact ⟨_, _, _, _, _, hro9⟩))
  k_with "c fin2" => (((try case p1 => k_extra "c p"); (try case p2 => k_extra "c p"); (try case p3 => k_extra "c p"); (try case p4 => k_extra "c p"); (try case p5 => k_extra "c p"); (case h3 => k_extra "c ro"); k_whole))
  k_with "c fin" => ((k_extra "c use"; k_extra "c fin2"))
  k_with "c enter" => ((refine spec_enter (by assumption) (by assumption) (by assumption) (by assumption) (by assumption) (by assumption) (by k_is) (by k_is) (by first | exact room_of (by with_reducible assumption) | (simp only [recursionLimit]; omega)) (by first | exact BindsTo.of_eq rfl | exact binds_K (Frag.In.keeps (by assumption) (by assumption)) rfl (by k_is) rfl rfl rfl) (by exact locs rfl) ?_ (by exact rfl) (by exact rfl) (by exact rfl) (by decide); intro _ _ _ _; (try dsimp only); (try k_fold)))
  k_with "c part" => (first | exact Part.nil | (apply Part.out; (· k_mem); (· k_extra "c part")) | (apply Part.stay; (· k_all); (· k_extra "c part")) | (refine part_tail ?_; k_extra "c tail"))
  k_with "c tail" => (first | exact List.forall_mem_nil _ | (refine List.forall_mem_cons.mpr ⟨?_, ?_⟩; (· k_extra "c apart"); (· k_extra "c tail")))
  k_with "c apart" => (first | exact OwnOff.ne (by assumption) (by k_memK) | (refine allLt_apart ?_; k_extra "c conj"))
  k_with "c conj" => (first | assumption | exact And.right (by k_extra "c conj"))
  k_with "c adr" => (first | exact List.forall_mem_nil _ | (refine List.forall_mem_cons.mpr ⟨?_, ?_⟩; (· k_memK); (· k_extra "c adr")))
  k_with "c pre" => (first | exact List.forall_mem_nil _ | (refine List.forall_mem_cons.mpr ⟨?_, ?_⟩; (· k_mem); (· k_extra "c pre")))
  k_with "call builtin:len" => ((k_here; (with_reducible show wpAny _ _ (call (Value.builtin "len") [Value.ref _]) _ _ _); (with_unfolding_all refine len_mine (by is_list) (by (first | omega | (simp only [List.length_cons, List.length_nil, List.length_append]; omega))) ?_)))
  k_with "subscriptTail" => ((k_here; (with_reducible show wpAny _ _ (subscriptTail _ _ (Value.ref _) (Value.int _ _)) _ _ _); (with_unfolding_all refine item_open (by is_list) (by omega) (by omega) (by omega) ?_ (by with_unfolding_all rfl)); intro _ _ _))
  k_with "call type:range" => ((k_here; (with_reducible show wpAny _ _ (call _ [_]) _ _ _); (with_unfolding_all refine range1_rows (by k_asm) (by k_asm) ?_); intro _ _ _ _ _ _ _ _ _; (try k_sweep)))
  k_with "call builtin:list.append" => ((k_here; (with_reducible show wpAny _ _ (call (Value.builtin _) [Value.ref _, _]) _ _ _); k_dflt (refine append_K (by k_asm) (by k_asm) (by k_upd) ?_ (by first | exact small_size (by assumption) | size_fits)); intro _ _ _; (try k_sweep)))
  k_with "binaryOp Add str str" => ((k_here; (refine add_mine ?_ (by (first | omega | (simp only [Str.length_append]; omega))) (by (first | omega | (simp only [Str.length_append]; omega)))); intro _ _))
  k_with "call type:list" => ((k_here; (with_reducible show wpAny _ _ (call (Value.type "list") [Value.ref _]) _ _ _); k_dflt (refine list_mine (by k_asm) (by k_asm) (by k_mem) (by omega) ?_); intro _ _ _ _ _ l9; (try k_lt l9); (try (revert l9; intro _)); (try k_sweep)))
  k_with "callWith ref" => ((k_here; k_dflt (first | refine callWith_K (by with_reducible assumption) (by k_is) ?_ | refine callWith_K0 (by k_in) (by k_is) ?_)))
  k_with "subscriptTail" => (k_here; (with_reducible show wpAny _ _ (subscriptTail _ _ (Value.str _ _) (Value.int _ _)) _ _ _); (refine item_known (by with_reducible assumption) (by omega) (by omega) (by assumption) ?_ (by with_unfolding_all rfl) (by intro _; with_unfolding_all rfl)); (try dsimp only))
  k_with "subscriptTail Name Name str int" => k_extra "subscriptTail"
  k_with "subscriptTail Name BinOp str int" => k_extra "subscriptTail"
  k_with "compareOp In str str" => (k_here; first | refine in_b (by with_reducible assumption) ?_ | refine in_b (b := true) (by decide +kernel) ?_ | refine in_b (b := false) (by decide +kernel) ?_)
  k_with "compareOp Eq str str" => (k_here; first | refine eq_b (by with_reducible assumption) ?_ | refine eq_b (b := true) (by decide +kernel) ?_ | refine eq_b (b := false) (by decide +kernel) ?_)
  k_with "compareOp NotEq str str" => (k_here; first | refine ne_b (by with_reducible assumption) ?_ | refine ne_b (b := true) (by decide +kernel) ?_ | refine ne_b (b := false) (by decide +kernel) ?_)
  k_with "subscriptTail Name Slice str ref" => (k_here; (refine slice_known (s := ⟨_, _, _, _, _⟩) (by k_asm) (by k_asm) (by with_reducible assumption) (by assumption) ?_ (by with_unfolding_all rfl) (by intro _; with_unfolding_all rfl)); intro _ _ _ _ _; (try dsimp only); (try k_sweep))
  k_with "compareOp Eq int int" => (k_here; refine eqi_b (by with_reducible assumption) ?_)
  k_with "subscriptTail Name Constant ref int" => (k_here; (with_reducible show wpAny _ _ (subscriptTail _ _ (Value.ref _) (Value.int _ _)) _ _ _); k_dflt (refine item_tupleL (by exact word_tup (by k_asm) (by with_reducible assumption)) (by decide) (by decide) (by rfl) (by rfl) ?_ (by with_unfolding_all rfl) (by intro _; with_unfolding_all rfl)))
  k_with "k_ne" => ((refine neN ?_; (try dsimp only); first | exact Nq.ne (by with_reducible assumption) | exact Nq.ne' (by with_reducible assumption) | exact Nat.ne_of_lt (by k_extra "c lt") | exact Nat.ne_of_gt (by k_extra "c lt") | exact ne_l1 (by k_extra "c lt") | exact ne_l2 (by k_extra "c lt") | exact ne_r1 (by k_extra "c lt") | exact ne_r2 (by k_extra "c lt") | omega))
  k_with "c led" => (first | exact List.forall_mem_nil _ | (refine List.forall_mem_cons.mpr ⟨?_, ?_⟩; (· k_mem); (· k_extra "c led")) | (intro q9 hq9; repeat (first | exact hq9 | refine List.Mem.tail _ ?_)))
  k_with "c cls" => (first | (intro z9; cases z9; done) | (intro z9; injection z9 with z9; exact absurd z9 (by decide)))
  k_with "c tailmem" => (first | with_reducible assumption | (refine List.mem_cons_of_mem _ ?_; k_extra "c tailmem"))
  k_with "subscriptTail Name Constant ref int" => (k_here; (with_reducible show wpAny _ _ (subscriptTail _ _ (Value.ref _) (Value.int _ _)) _ _ _); k_dflt (refine item_tupleL (by exact word_tupN (by k_asm) (by k_extra "c tailmem")) (by decide) (by decide) (by rfl) (by rfl) ?_ (by with_unfolding_all rfl) (by intro _; with_unfolding_all rfl)))
  k_with "subscriptTail Name Constant ref int" => ((k_here; (with_reducible show wpAny _ _ (subscriptTail _ _ (Value.ref _) (Value.int _ _)) _ _ _); (with_unfolding_all refine item_litK (by is_list) (by decide) (by decide) (by rfl) ?_ (by with_unfolding_all rfl))))
  k_with "call ref" => (k_here; (with_reducible show wpAny _ _ (call (Value.ref 175) _) _ _ _); (try k_fold); k_dflt (refine use_by (by k_asm) (by k_asm) (by k_asm) (by k_asm) (by k_asm) (by exact rfl) (by exact rfl) (by k_extra "c pre") (by k_extra "c part") (by k_extra "c dp") (by k_extra "c un") (peek0K_spec (by k_extra "c p") (by k_extra "c p") (by k_extra "c p")) (by k_extra "c ro") ?_); walk_at "c in"; rename_i P'; obtain ⟨hv', htl'⟩ := P'; subst hv' htl'; (walk_at "c aftw"))
  k_with "call ref" => (k_here; (with_reducible show wpAny _ _ (call (Value.ref 175) [_, _]) _ _ _); (try k_fold); k_dflt (refine use_by (by k_asm) (by k_asm) (by k_asm) (by k_asm) (by k_asm) (by exact rfl) (by exact rfl) (by k_extra "c pre") (by k_extra "c part") (by k_extra "c dp") (by k_extra "c un") (peekK_spec (by k_extra "c p") (by k_extra "c p") (by k_extra "c p") (by k_extra "c p") (by k_extra "c p")) (by k_extra "c ro") ?_); walk_at "c in"; rename_i P'; obtain ⟨hv', htl'⟩ := P'; subst hv' htl'; (walk_at "c aftw"))
  exact rfl
local macro_rules | `(tactic| walk_at "c aftw") => `(tactic| ((with_reducible rename News _ _ _ _ => N9); (simp only [wsL] at N9); walk_at "c aft"))
set_option maxHeartbeats 8000000 in
theorem fixed_spec {prog : Program} {w : World} : CSpecT prog w 60 600 302 [] [] (fun _ => True) (fun v tl => v = .bool true ∧ tl = []) := by
  w_top off
  unfold CSpecT
  intro dp un gd outer A₀ base g s p loose mean mg mb R B st sz X TP N0 hro OB hd hu hret
  walk_at "c enter"
  rename Fr _ _ _ _ => F0
  have F1 : Fr g _ _ (fun _ => none) := F0
  clear F0
  (try dsimp only)
  repeat' ((fail_if_success (with_reducible show wpAny _ _ (call (Value.ref 139) _) _ _ _)); first | (k_unfold; (try dsimp only)) | (k_end; wrow_close) | walk1 | (dsimp only; walk1) | (leave1; walk_say "STEP leave1"; try dsimp only) | fail "no step")
  (try k_fold); k_dflt (refine' use_spec ?k1 ?k2 ?k3 ?k4 ?k5 ?k6 ?k7 (read_spec rdF flatF ?p1) ?h1 ?h2 ?h3 ?h4 ?h5 ?_; walk_at "c use"; (case p1 => decide +kernel); (case h3 => exact fun _ _ _ => trivial))
  intro v' h' tk' tl' F' N' ap' P'
  obtain ⟨xw, dw, r, t1, t2, t3, ta, td, vs, c, T, rfl, rfl, hD, hT⟩ := P'
  rw [wdsF] at hD
  obtain ⟨b0, b1, b2, b3, rfl, ⟨e1, e2, e3, e4, e5, m0, d0⟩, ⟨f1, f2, f3, f4, f5, m1, d1⟩, ⟨g1, g2, g3, g4, g5, m2, d2⟩, ⟨i1, i2, i3, i4, i5, m3, d3⟩⟩ := dF_of hD
  simp only [List.cons_append, List.nil_append, List.append_nil] at N'
  have N1 : News g _ h' ((xw, instObj 214 dw) :: (dw, wordsD w r ((0 : Nat) : Int) t1 t2 t3 ta td) :: (r, listOf [Value.ref b0, .ref b1, .ref b2, .ref b3].toArray c) :: T) := N'
  clear N' ap' hD
  have hoff : OwnOff T [xw, dw, r] := own_of_tups N1 hT (by intro q hq; repeat (first | exact hq | refine List.mem_cons_of_mem _ ?_)) (List.forall_mem_cons.mpr ⟨⟨_, by k_mem, by walk_at "c cls"⟩, List.forall_mem_cons.mpr ⟨⟨_, by k_mem, by walk_at "c cls"⟩, List.forall_mem_cons.mpr ⟨⟨_, by k_mem, by walk_at "c cls"⟩, List.forall_mem_nil _⟩⟩⟩)
  (try k_sweep)
  (try dsimp only)
  repeat' ((fail_if_success (with_reducible show wpAny _ _ (compareOp _ _ _) _ _ _)); first | (k_unfold; (try dsimp only)) | (k_end; wrow_close) | walk1 | (dsimp only; walk1) | (leave1; walk_say "STEP leave1"; try dsimp only) | fail "no step")
  rename Fr _ _ _ _ => F9
  rename News _ _ _ _ => N9
  refine' ne_same (d := .list [wF0.dat, wF1.dat, (endW 8).dat]) N9 (DatIn.list ?zm1 (.cons (DatIn.mono ?zs1 d0) (.cons (DatIn.mono ?zs1 d1) (.cons (DatIn.mono ?zs1 d3) .nil)))) (DatIn.list ?zm2 (.cons ?zd1 (.cons ?zd2 (.cons ?zd3 .nil)))) (by decide +kernel) rfl ?zu ?_
  case zm1 => k_mem
  case zs1 => walk_at "c led"
  case zm2 => k_mem
  case zd1 =>
    refine' DatIn.tuple ?m (.cons (.str _ _) (.cons (.str _ _) (.cons (.int _ _) (.cons .none (.cons .none .nil)))))
    case m => k_mem
  case zd2 =>
    refine' DatIn.tuple ?m (.cons (.str _ _) (.cons (.str _ _) (.cons (.int _ _) (.cons .none (.cons .none .nil)))))
    case m => k_mem
  case zd3 =>
    refine' DatIn.tuple ?m (.cons (.str _ _) (.cons (.str _ _) (.cons (.int _ _) (.cons .none (.cons .none .nil)))))
    case m => k_mem
  case zu => k_units
  have N2 := news_cut N9 (l' := (xw, instObj 214 dw) :: (dw, wordsD w r ((0 : Nat) : Int) t1 t2 t3 ta td) :: (r, listOf [Value.ref b0, .ref b1, .ref b2, .ref b3].toArray c) :: T) (by walk_at "c led")
  clear N9
  -- heard name
  (try dsimp only)
  repeat' ((fail_if_success (with_reducible show wpAny _ _ (call (Value.ref 260) _) _ _ _)); first | (k_unfold; (try dsimp only)) | (k_end; wrow_close) | walk1 | (dsimp only; walk1) | (leave1; walk_say "STEP leave1"; try dsimp only) | fail "no step")
  rename Fr _ _ _ _ => F9
  rename News _ _ _ _ => N9
  (try k_fold); k_dflt (refine' use_specT B F9 X N9 TP OB ?k6 ?k7 (heard_name (wd := wF0) (b := b0) (a := 0) ?p1 ?p2 ?p3) ?h1 ?h2 ?h3 ?h4 ?h5 ?_)
  case k6 => exact rfl
  case k7 => exact rfl
  case h1 => walk_at "c pre"
  case p1 => exact rfl
  case p2 => exact Nat.le_of_ble_eq_true rfl
  case p3 => exact Nat.le_of_ble_eq_true rfl
  case h2 => walk_at "c part"
  case h3 => exact fun g' st' hr' => ⟨_, _, _, _, _, hr' (b0, _) (by walk_at "c tailmem")⟩
  case h4 => walk_at "c dp"
  case h5 => walk_at "c un"
  intro v' h' tk' tl' ga Ta F' N' ap' P' Ba Xa TPa OBa
  clear F9 N9 B X TP OB ap'
  have hreta := fun v h' tk' tl g' T' => hret v h' tk' tl g' (Ta.trans T')
  clear hret
  rcases P' with ⟨ho, -⟩ | ⟨ho, q, z1, z2, zn, rfl, rfl⟩
  · exact absurd ho (by decide +kernel)
  clear ho
  simp only [wsL, List.cons_append, List.nil_append] at N'
  (try dsimp only)
  repeat' ((fail_if_success (with_reducible show wpAny _ _ (compareOp _ _ _) _ _ _)); first | (k_unfold; (try dsimp only)) | (k_end; wrow_close) | walk1 | (dsimp only; walk1) | (leave1; walk_say "STEP leave1"; try dsimp only) | fail "no step")
  rename Fr _ _ _ _ => F9
  rename News _ _ _ _ => N9
  refine' ne_same (d := .tuple [.str (Str.ofString "refused"), .int 0]) N9 (DatIn.tuple ?zm1 (.cons (.str _ _) (.cons (.int _ _) .nil))) (DatIn.tuple ?zm2 (.cons (.str _ _) (.cons (.int _ _) .nil))) (by decide +kernel) rfl ?zu ?_
  case zm1 => k_mem
  case zm2 => k_mem
  case zu => k_units
  have N2 := news_cut N9 (l' := (xw, instObj 214 dw) :: (dw, wordsD w r ((0 : Nat) : Int) t1 t2 t3 ta td) :: (r, listOf [Value.ref b0, .ref b1, .ref b2, .ref b3].toArray c) :: T) (by walk_at "c led")
  clear N9
  -- heard close
  (try dsimp only)
  repeat' ((fail_if_success (with_reducible show wpAny _ _ (call (Value.ref 260) _) _ _ _)); first | (k_unfold; (try dsimp only)) | (k_end; wrow_close) | walk1 | (dsimp only; walk1) | (leave1; walk_say "STEP leave1"; try dsimp only) | fail "no step")
  rename Fr _ _ _ _ => F9
  rename News _ _ _ _ => N9
  (try k_fold); k_dflt (refine' use_specT Ba F9 Xa N9 TPa OBa ?k6 ?k7 (heard_close (wd := wF0) (b := b0) (a := 0) ?p1 ?p2 ?p3 ?p4 ?p5) ?h1 ?h2 ?h3 ?h4 ?h5 ?_)
  case k6 => exact rfl
  case k7 => exact rfl
  case h1 => walk_at "c pre"
  case p1 => exact rfl
  case p2 => exact Nat.le_of_ble_eq_true rfl
  case p3 => exact Nat.le_of_ble_eq_true rfl
  case p4 => decide +kernel
  case p5 => decide
  case h2 => walk_at "c part"
  case h3 => exact fun g' st' hr' => ⟨_, _, _, _, _, hr' (b0, _) (by walk_at "c tailmem")⟩
  case h4 => walk_at "c dp"
  case h5 => walk_at "c un"
  intro v' h' tk' tl' gb Tb F' N' ap' P' Bb Xb TPb OBb
  clear F9 N9 Ba Xa TPa OBa ap'
  have hretb := fun v h' tk' tl g' T' => hreta v h' tk' tl g' (Tb.trans T')
  clear hreta
  rcases P' with ⟨ho, -⟩ | ⟨ho, q, z1, z2, zn, rfl, rfl⟩
  · exact absurd ho (by decide +kernel)
  clear ho
  simp only [wsL, List.cons_append, List.nil_append] at N'
  (try dsimp only)
  repeat' ((fail_if_success (with_reducible show wpAny _ _ (compareOp _ _ _) _ _ _)); first | (k_unfold; (try dsimp only)) | (k_end; wrow_close) | walk1 | (dsimp only; walk1) | (leave1; walk_say "STEP leave1"; try dsimp only) | fail "no step")
  rename Fr _ _ _ _ => F9
  rename News _ _ _ _ => N9
  refine' ne_same (d := .tuple [.str (Str.ofString "refused"), .int 0]) N9 (DatIn.tuple ?zm1 (.cons (.str _ _) (.cons (.int _ _) .nil))) (DatIn.tuple ?zm2 (.cons (.str _ _) (.cons (.int _ _) .nil))) (by decide +kernel) rfl ?zu ?_
  case zm1 => k_mem
  case zm2 => k_mem
  case zu => k_units
  have N2 := news_cut N9 (l' := (xw, instObj 214 dw) :: (dw, wordsD w r ((0 : Nat) : Int) t1 t2 t3 ta td) :: (r, listOf [Value.ref b0, .ref b1, .ref b2, .ref b3].toArray c) :: T) (by walk_at "c led")
  clear N9
  -- expect
  (try dsimp only)
  repeat' ((fail_if_success (with_reducible show wpAny _ _ (call (Value.ref 197) _) _ _ _)); first | (k_unfold; (try dsimp only)) | (k_end; wrow_close) | walk1 | (dsimp only; walk1) | (leave1; walk_say "STEP leave1"; try dsimp only) | fail "no step")
  rename Fr _ _ _ _ => F9
  rename News _ _ _ _ => N9
  (try k_fold); k_dflt (refine' use_specX Bb F9 Xb N9 TPb ?k6 ?k7 (expect_spec (wd := wF0) (b := b0) (a := 0) ?p1 ?p2 ?p3 ?p4) ?h1 ?h2 ?h3 ?h4 ?h5 ?_ ?rb0)
  case k6 => exact rfl
  case k7 => exact rfl
  case h1 => walk_at "c pre"
  case p1 => exact rfl
  case p2 => exact Nat.le_of_ble_eq_true rfl
  case p3 => exact Nat.le_of_ble_eq_true rfl
  case p4 => decide +kernel
  case h2 => walk_at "c part"
  case h3 => exact fun g' st' hr' => ⟨_, _, _, _, _, hr' (b0, _) (by walk_at "c tailmem")⟩
  case h4 => walk_at "c dp"
  case h5 => walk_at "c un"
  case rb0 =>
    intro e t dx h' tk' tl RX P
    exact absurd P.1 (by decide +kernel)
  intro v' h' tk' tl' F' N' ap' P'
  obtain ⟨-, rfl, ta2, rfl⟩ := P'
  clear F9 N9 ap'
  rw [if_pos (show (wF0.k != Str.ofString "end") = true by decide +kernel)] at N'
  simp only [wsL, List.cons_append, List.nil_append] at N'
  -- split 1
  (try dsimp only)
  repeat' ((fail_if_success (with_reducible show wpAny _ _ (call (Value.ref 211) _) _ _ _)); first | (k_unfold; (try dsimp only)) | (k_end; wrow_close) | walk1 | (dsimp only; walk1) | (leave1; walk_say "STEP leave1"; try dsimp only) | fail "no step")
  rename Fr _ _ _ _ => F9
  rename News _ _ _ _ => N9
  (try k_fold); k_dflt (refine' use_specX Bb F9 Xb N9 TPb ?k6 ?k7 (split_spec (wd := wF1) (b := b1) (a := 0 + 1) ?p1 ?p2 ?p3 ?p4 ?p5) ?h1 ?h2 ?h3 ?h4 ?h5 ?_ ?rb1)
  case k6 => exact rfl
  case k7 => exact rfl
  case h1 => walk_at "c pre"
  case p1 => exact rfl
  case p2 => exact Nat.le_of_ble_eq_true rfl
  case p3 => exact Nat.le_of_ble_eq_true rfl
  case p4 => decide +kernel
  case p5 => decide
  case h2 => walk_at "c part"
  case h3 => exact fun g' st' hr' => ⟨_, _, _, _, _, hr' (b1, _) (by walk_at "c tailmem")⟩
  case h4 => walk_at "c dp"
  case h5 => walk_at "c un"
  case rb1 =>
    intro e t dx h' tk' tl RX P
    exact absurd P.1 (by decide +kernel)
  intro v' h' tk' tl' F' N' ap' P'
  obtain ⟨-, q1, r1, r1', r1a, n1, rfl, ⟨ho, -⟩ | ⟨-, za, s1, s1', s1a, m1', rfl, -⟩⟩ := P'
  · exact absurd ho (by decide +kernel)
  clear F9 N9 ap'
  rw [restF1] at N'
  simp only [wsL, List.cons_append, List.nil_append] at N'
  have N2 : News gb _ h' ((q1, wordO ⟨Str.ofString "sign", Str.ofString ">", 3, false⟩ r1 r1' r1a .none n1) :: (za, wordO wF4 s1 s1' s1a .none m1') :: (xw, instObj 214 dw) :: (dw, wordsD w r ((0 + 1 : Nat) : Int) t1 t2 t3 ta2 td) :: (r, listOf [Value.ref b0, .ref za, .ref b2, .ref b3].toArray c) :: T) := N'
  clear N'
  obtain ⟨T1, eT1⟩ : ∃ T9 : Led, T9 = (q1, wordO ⟨Str.ofString "sign", Str.ofString ">", 3, false⟩ r1 r1' r1a .none n1) :: (za, wordO wF4 s1 s1' s1a .none m1') :: T := ⟨_, rfl⟩
  have hT1 : TupLed T1 := eT1 ▸ TupLed.cons rfl (TupLed.cons rfl hT)
  have N3 := news_cut N2 (l' := (xw, instObj 214 dw) :: (dw, wordsD w r ((0 + 1 : Nat) : Int) t1 t2 t3 ta2 td) :: (r, listOf [Value.ref b0, .ref za, .ref b2, .ref b3].toArray c) :: T1) (by rw [eT1]; walk_at "c led")
  clear N2
  have hoff1 : OwnOff T1 [xw, dw, r] := own_of_tups N3 hT1 (by intro q hq; repeat (first | exact hq | refine List.mem_cons_of_mem _ ?_)) (List.forall_mem_cons.mpr ⟨⟨_, by k_mem, by walk_at "c cls"⟩, List.forall_mem_cons.mpr ⟨⟨_, by k_mem, by walk_at "c cls"⟩, List.forall_mem_cons.mpr ⟨⟨_, by k_mem, by walk_at "c cls"⟩, List.forall_mem_nil _⟩⟩⟩)
  have sub1 : ∀ q ∈ T, q ∈ T1 := fun q hq => eT1 ▸ .tail _ (.tail _ hq)
  have mq1 : (q1, wordO ⟨Str.ofString "sign", Str.ofString ">", 3, false⟩ r1 r1' r1a .none n1) ∈ T1 := eT1 ▸ .head _
  have mz1 : (za, wordO wF4 s1 s1' s1a .none m1') ∈ T1 := eT1 ▸ .tail _ (.head _)
  (try k_sweep)
  -- split 2
  (try dsimp only)
  repeat' ((fail_if_success (with_reducible show wpAny _ _ (call (Value.ref 211) _) _ _ _)); first | (k_unfold; (try dsimp only)) | (k_end; wrow_close) | walk1 | (dsimp only; walk1) | (leave1; walk_say "STEP leave1"; try dsimp only) | fail "no step")
  rename Fr _ _ _ _ => F9
  rename News _ _ _ _ => N9
  (try k_fold); k_dflt (refine' use_specX Bb F9 Xb N9 TPb ?k6 ?k7 (split_spec (wd := wF4) (b := za) (a := 0 + 1) ?p1 ?p2 ?p3 ?p4 ?p5) ?h1 ?h2 ?h3 ?h4 ?h5 ?_ ?rb2)
  case k6 => exact rfl
  case k7 => exact rfl
  case h1 => walk_at "c pre"
  case p1 => exact rfl
  case p2 => exact Nat.le_of_ble_eq_true rfl
  case p3 => exact Nat.le_of_ble_eq_true rfl
  case p4 => decide +kernel
  case p5 => decide
  case h2 => walk_at "c part"
  case h3 => exact fun g' st' hr' => ⟨_, _, _, _, _, hr' (za, _) (by walk_at "c tailmem")⟩
  case h4 => walk_at "c dp"
  case h5 => walk_at "c un"
  case rb2 =>
    intro e t dx h' tk' tl RX P
    exact absurd P.1 (by decide +kernel)
  intro v' h' tk' tl' F' N' ap' P'
  obtain ⟨-, q2, r2, r2', r2a, n2, rfl, ⟨ho, -⟩ | ⟨-, zb, s2, s2', s2a, m2', rfl, -⟩⟩ := P'
  · exact absurd ho (by decide +kernel)
  clear F9 N9 ap'
  rw [restF4] at N'
  simp only [wsL, List.cons_append, List.nil_append] at N'
  have N2 : News gb _ h' ((q2, wordO ⟨Str.ofString "sign", Str.ofString ">", 4, false⟩ r2 r2' r2a .none n2) :: (zb, wordO wF5 s2 s2' s2a .none m2') :: (xw, instObj 214 dw) :: (dw, wordsD w r ((0 + 1 : Nat) : Int) t1 t2 t3 ta2 td) :: (r, listOf [Value.ref b0, .ref zb, .ref b2, .ref b3].toArray c) :: T1) := N'
  clear N'
  obtain ⟨T2, eT2⟩ : ∃ T9 : Led, T9 = (q2, wordO ⟨Str.ofString "sign", Str.ofString ">", 4, false⟩ r2 r2' r2a .none n2) :: (zb, wordO wF5 s2 s2' s2a .none m2') :: T1 := ⟨_, rfl⟩
  have hT2 : TupLed T2 := eT2 ▸ TupLed.cons rfl (TupLed.cons rfl hT1)
  have N3 := news_cut N2 (l' := (xw, instObj 214 dw) :: (dw, wordsD w r ((0 + 1 : Nat) : Int) t1 t2 t3 ta2 td) :: (r, listOf [Value.ref b0, .ref zb, .ref b2, .ref b3].toArray c) :: T2) (by rw [eT2]; walk_at "c led")
  clear N2
  have hoff2 : OwnOff T2 [xw, dw, r] := own_of_tups N3 hT2 (by intro q hq; repeat (first | exact hq | refine List.mem_cons_of_mem _ ?_)) (List.forall_mem_cons.mpr ⟨⟨_, by k_mem, by walk_at "c cls"⟩, List.forall_mem_cons.mpr ⟨⟨_, by k_mem, by walk_at "c cls"⟩, List.forall_mem_cons.mpr ⟨⟨_, by k_mem, by walk_at "c cls"⟩, List.forall_mem_nil _⟩⟩⟩)
  have sub2 : ∀ q ∈ T1, q ∈ T2 := fun q hq => eT2 ▸ .tail _ (.tail _ hq)
  have mq2 : (q2, wordO ⟨Str.ofString "sign", Str.ofString ">", 4, false⟩ r2 r2' r2a .none n2) ∈ T2 := eT2 ▸ .head _
  have mz2 : (zb, wordO wF5 s2 s2' s2a .none m2') ∈ T2 := eT2 ▸ .tail _ (.head _)
  have dq1 : DatIn T2 (.ref q1) (Wd.dat ⟨Str.ofString "sign", Str.ofString ">", 3, false⟩) := datIn_word (sub2 _ mq1) (.inr ⟨rfl, rfl⟩)
  have dz1 : DatIn T2 (.ref za) wF4.dat := datIn_word (sub2 _ mz1) (.inr ⟨rfl, rfl⟩)
  have dq2 : DatIn T2 (.ref q2) (Wd.dat ⟨Str.ofString "sign", Str.ofString ">", 4, false⟩) := datIn_word mq2 (.inr ⟨rfl, rfl⟩)
  have dz2 : DatIn T2 (.ref zb) wF5.dat := datIn_word mz2 (.inr ⟨rfl, rfl⟩)
  have mm2 := sub2 _ (sub1 _ m2)
  have mm3 := sub2 _ (sub1 _ m3)
  (try k_sweep)
  -- heard close again
  (try dsimp only)
  repeat' ((fail_if_success (with_reducible show wpAny _ _ (call (Value.ref 260) _) _ _ _)); first | (k_unfold; (try dsimp only)) | (k_end; wrow_close) | walk1 | (dsimp only; walk1) | (leave1; walk_say "STEP leave1"; try dsimp only) | fail "no step")
  rename Fr _ _ _ _ => F9
  rename News _ _ _ _ => N9
  (try k_fold); k_dflt (refine' use_specT Bb F9 Xb N9 TPb OBb ?k6 ?k7 (heard_close (wd := wF5) (b := zb) (a := 0 + 1) ?p1 ?p2 ?p3 ?p4 ?p5) ?h1 ?h2 ?h3 ?h4 ?h5 ?_)
  case k6 => exact rfl
  case k7 => exact rfl
  case h1 => walk_at "c pre"
  case p1 => exact rfl
  case p2 => exact Nat.le_of_ble_eq_true rfl
  case p3 => exact Nat.le_of_ble_eq_true rfl
  case p4 => decide +kernel
  case p5 => decide
  case h2 => walk_at "c part"
  case h3 => exact fun g' st' hr' => ⟨_, _, _, _, _, hr' (zb, _) (by walk_at "c tailmem")⟩
  case h4 => walk_at "c dp"
  case h5 => walk_at "c un"
  intro v' h' tk' tl' gc Tc F' N' ap' P' Bc Xc TPc OBc
  clear F9 N9 Bb Xb TPb OBb ap'
  have hretc := fun v h' tk' tl g' T' => hretb v h' tk' tl g' (Tc.trans T')
  clear hretb
  rcases P' with ⟨ho, -⟩ | ⟨ho, q3, z1, z2, zn, rfl, rfl⟩
  · exact absurd ho (by decide +kernel)
  clear ho
  simp only [wsL, List.cons_append, List.nil_append] at N'
  (try dsimp only)
  repeat' ((fail_if_success (with_reducible show wpAny _ _ (compareOp _ _ _) _ _ _)); first | (k_unfold; (try dsimp only)) | (k_end; wrow_close) | walk1 | (dsimp only; walk1) | (leave1; walk_say "STEP leave1"; try dsimp only) | fail "no step")
  rename Fr _ _ _ _ => F9
  rename News _ _ _ _ => N9
  refine' ne_same (d := .list [Wd.dat ⟨Str.ofString "sign", Str.ofString ">", 3, false⟩, wF4.dat, Wd.dat ⟨Str.ofString "sign", Str.ofString ">", 4, false⟩, wF5.dat, .tuple [.str (Str.ofString "refused"), .int 5]]) N9 (DatIn.list ?zm1 (.cons (DatIn.mono ?zs1 dq1) (.cons (DatIn.mono ?zs1 dz1) (.cons (DatIn.mono ?zs1 dq2) (.cons (DatIn.mono ?zs1 dz2) (.cons (DatIn.tuple ?zm3 (.cons (.str _ _) (.cons (.int _ _) .nil))) .nil)))))) (DatIn.list ?zm2 (.cons ?zd1 (.cons ?zd2 (.cons ?zd3 (.cons ?zd4 (.cons ?zd5 .nil)))))) (by decide +kernel) rfl ?zu ?_
  case zm1 => k_mem
  case zm3 => k_mem
  case zs1 => walk_at "c led"
  case zm2 => k_mem
  case zd1 =>
    refine' DatIn.tuple ?m (.cons (.str _ _) (.cons (.str _ _) (.cons (.int _ _) (.cons .none (.cons .none .nil)))))
    case m => k_mem
  case zd2 =>
    refine' DatIn.tuple ?m (.cons (.str _ _) (.cons (.str _ _) (.cons (.int _ _) (.cons .none (.cons .none .nil)))))
    case m => k_mem
  case zd3 =>
    refine' DatIn.tuple ?m (.cons (.str _ _) (.cons (.str _ _) (.cons (.int _ _) (.cons .none (.cons .none .nil)))))
    case m => k_mem
  case zd4 =>
    refine' DatIn.tuple ?m (.cons (.str _ _) (.cons (.str _ _) (.cons (.int _ _) (.cons .none (.cons .none .nil)))))
    case m => k_mem
  case zd5 =>
    refine' DatIn.tuple ?m (.cons (.str _ _) (.cons (.int _ _) .nil))
    case m => k_mem
  case zu => k_units
  have N2 := news_cut N9 (l' := (xw, instObj 214 dw) :: (dw, wordsD w r ((0 + 1 : Nat) : Int) t1 t2 t3 ta2 td) :: (r, listOf [Value.ref b0, .ref zb, .ref b2, .ref b3].toArray c) :: T2) (by walk_at "c led")
  clear N9
  -- take
  (try dsimp only)
  repeat' ((fail_if_success (with_reducible show wpAny _ _ (call (Value.ref 182) _) _ _ _)); first | (k_unfold; (try dsimp only)) | (k_end; wrow_close) | walk1 | (dsimp only; walk1) | (leave1; walk_say "STEP leave1"; try dsimp only) | fail "no step")
  rename Fr _ _ _ _ => F9
  rename News _ _ _ _ => N9
  (try k_fold); k_dflt (refine' use_spec ?k1 ?k2 ?k3 ?k4 ?k5 ?k6 ?k7 (takew_spec (wd := wF5) (b := zb) (a := 0 + 1) ?p1 ?p2 ?p3) ?h1 ?h2 ?h3 ?h4 ?h5 ?_)
  case k1 => k_asm
  case k2 => k_asm
  case k3 => k_asm
  case k4 => k_asm
  case k5 => k_asm
  case k6 => exact rfl
  case k7 => exact rfl
  case h1 => walk_at "c pre"
  case p1 => exact rfl
  case p2 => exact Nat.le_of_ble_eq_true rfl
  case p3 => exact Nat.le_of_ble_eq_true rfl
  case h2 => walk_at "c part"
  case h3 => exact fun g' st' hr' => ⟨_, _, _, _, _, hr' (zb, _) (by walk_at "c tailmem")⟩
  case h4 => walk_at "c dp"
  case h5 => walk_at "c un"
  intro v' h' tk' tl' F' N' ap' P'
  obtain ⟨rfl, ta3, rfl⟩ := P'
  clear F9 N9 ap'
  rw [if_pos (show (wF5.k != Str.ofString "end") = true by decide +kernel)] at N'
  simp only [wsL, List.cons_append, List.nil_append] at N'
  -- name
  (try dsimp only)
  repeat' ((fail_if_success (with_reducible show wpAny _ _ (call (Value.ref 204) _) _ _ _)); first | (k_unfold; (try dsimp only)) | (k_end; wrow_close) | walk1 | (dsimp only; walk1) | (leave1; walk_say "STEP leave1"; try dsimp only) | fail "no step")
  rename Fr _ _ _ _ => F9
  rename News _ _ _ _ => N9
  (try k_fold); k_dflt (refine' use_specX Bc F9 Xc N9 TPc ?k6 ?k7 (name_spec (wd := wF2) (b := b2) (a := 0 + 1 + 1) ?p1 ?p2 ?p3) ?h1 ?h2 ?h3 ?h4 ?h5 ?_ ?rb3)
  case k6 => exact rfl
  case k7 => exact rfl
  case h1 => walk_at "c pre"
  case p1 => exact rfl
  case p2 => exact Nat.le_of_ble_eq_true rfl
  case p3 => exact Nat.le_of_ble_eq_true rfl
  case h2 => walk_at "c part"
  case h3 => exact fun g' st' hr' => ⟨_, _, _, _, _, hr' (b2, _) (by walk_at "c tailmem")⟩
  case h4 => walk_at "c dp"
  case h5 => walk_at "c un"
  case rb3 =>
    intro e t dx h' tk' tl RX P
    exact absurd P.1 (by decide +kernel)
  intro v' h' tk' tl' F' N' ap' P'
  obtain ⟨-, q4, y1, y2, yn, ta4, rfl, rfl⟩ := P'
  clear F9 N9 ap'
  simp only [wsL, List.cons_append, List.nil_append] at N'
  obtain ⟨T3, eT3⟩ : ∃ T9 : Led, T9 = (q4, ({ cls := .type "tuple", data := .seq [.str wF2.t y1, .int wF2.pos y2].toArray yn } : Obj)) :: T2 := ⟨_, rfl⟩
  have hT3 : TupLed T3 := eT3 ▸ TupLed.cons rfl hT2
  have N3 := news_cut N' (l' := (xw, instObj 214 dw) :: (dw, wordsD w r ((0 + 1 + 1 + 1 : Nat) : Int) t1 t2 t3 ta4 td) :: (r, listOf [Value.ref b0, .ref zb, .ref b2, .ref b3].toArray c) :: T3) (by rw [eT3]; walk_at "c led")
  clear N'
  have hoff3 : OwnOff T3 [xw, dw, r] := own_of_tups N3 hT3 (by intro q hq; repeat (first | exact hq | refine List.mem_cons_of_mem _ ?_)) (List.forall_mem_cons.mpr ⟨⟨_, by k_mem, by walk_at "c cls"⟩, List.forall_mem_cons.mpr ⟨⟨_, by k_mem, by walk_at "c cls"⟩, List.forall_mem_cons.mpr ⟨⟨_, by k_mem, by walk_at "c cls"⟩, List.forall_mem_nil _⟩⟩⟩)
  have sub3 : ∀ q ∈ T2, q ∈ T3 := fun q hq => eT3 ▸ .tail _ hq
  have mq4 : (q4, ({ cls := .type "tuple", data := .seq [.str wF2.t y1, .int wF2.pos y2].toArray yn } : Obj)) ∈ T3 := eT3 ▸ .head _
  have dq4 : DatIn T3 (.ref q4) (.tuple [.str wF2.t, .int wF2.pos]) := DatIn.tuple mq4 (.cons (.str _ _) (.cons (.int _ _) .nil))
  have mn3 := sub3 _ mm3
  (try k_sweep)
  -- take the end
  (try dsimp only)
  repeat' ((fail_if_success (with_reducible show wpAny _ _ (call (Value.ref 182) _) _ _ _)); first | (k_unfold; (try dsimp only)) | (k_end; wrow_close) | walk1 | (dsimp only; walk1) | (leave1; walk_say "STEP leave1"; try dsimp only) | fail "no step")
  rename Fr _ _ _ _ => F9
  rename News _ _ _ _ => N9
  (try k_fold); k_dflt (refine' use_spec ?k1 ?k2 ?k3 ?k4 ?k5 ?k6 ?k7 (takew_spec (wd := endW 8) (b := b3) (a := 0 + 1 + 1 + 1) ?p1 ?p2 ?p3) ?h1 ?h2 ?h3 ?h4 ?h5 ?_)
  case k1 => k_asm
  case k2 => k_asm
  case k3 => k_asm
  case k4 => k_asm
  case k5 => k_asm
  case k6 => exact rfl
  case k7 => exact rfl
  case h1 => walk_at "c pre"
  case p1 => exact rfl
  case p2 => exact Nat.le_of_ble_eq_true rfl
  case p3 => exact Nat.le_of_ble_eq_true rfl
  case h2 => walk_at "c part"
  case h3 => exact fun g' st' hr' => ⟨_, _, _, _, _, hr' (b3, _) (by walk_at "c tailmem")⟩
  case h4 => walk_at "c dp"
  case h5 => walk_at "c un"
  intro v' h' tk' tl' F' N' ap' P'
  obtain ⟨rfl, ta51, rfl⟩ := P'
  clear F9 N9 ap'
  rw [if_neg (show ¬ (((endW 8).k != Str.ofString "end") = true) by decide +kernel)] at N'
  simp only [wsL, List.cons_append, List.nil_append] at N'
  -- take the end
  (try dsimp only)
  repeat' ((fail_if_success (with_reducible show wpAny _ _ (call (Value.ref 182) _) _ _ _)); first | (k_unfold; (try dsimp only)) | (k_end; wrow_close) | walk1 | (dsimp only; walk1) | (leave1; walk_say "STEP leave1"; try dsimp only) | fail "no step")
  rename Fr _ _ _ _ => F9
  rename News _ _ _ _ => N9
  (try k_fold); k_dflt (refine' use_spec ?k1 ?k2 ?k3 ?k4 ?k5 ?k6 ?k7 (takew_spec (wd := endW 8) (b := b3) (a := 0 + 1 + 1 + 1) ?p1 ?p2 ?p3) ?h1 ?h2 ?h3 ?h4 ?h5 ?_)
  case k1 => k_asm
  case k2 => k_asm
  case k3 => k_asm
  case k4 => k_asm
  case k5 => k_asm
  case k6 => exact rfl
  case k7 => exact rfl
  case h1 => walk_at "c pre"
  case p1 => exact rfl
  case p2 => exact Nat.le_of_ble_eq_true rfl
  case p3 => exact Nat.le_of_ble_eq_true rfl
  case h2 => walk_at "c part"
  case h3 => exact fun g' st' hr' => ⟨_, _, _, _, _, hr' (b3, _) (by walk_at "c tailmem")⟩
  case h4 => walk_at "c dp"
  case h5 => walk_at "c un"
  intro v' h' tk' tl' F' N' ap' P'
  obtain ⟨rfl, ta52, rfl⟩ := P'
  clear F9 N9 ap'
  rw [if_neg (show ¬ (((endW 8).k != Str.ofString "end") = true) by decide +kernel)] at N'
  simp only [wsL, List.cons_append, List.nil_append] at N'
  -- heard name at the end
  (try dsimp only)
  repeat' ((fail_if_success (with_reducible show wpAny _ _ (call (Value.ref 260) _) _ _ _)); first | (k_unfold; (try dsimp only)) | (k_end; wrow_close) | walk1 | (dsimp only; walk1) | (leave1; walk_say "STEP leave1"; try dsimp only) | fail "no step")
  rename Fr _ _ _ _ => F9
  rename News _ _ _ _ => N9
  (try k_fold); k_dflt (refine' use_specT Bc F9 Xc N9 TPc OBc ?k6 ?k7 (heard_name (wd := endW 8) (b := b3) (a := 0 + 1 + 1 + 1) ?p1 ?p2 ?p3) ?h1 ?h2 ?h3 ?h4 ?h5 ?_)
  case k6 => exact rfl
  case k7 => exact rfl
  case h1 => walk_at "c pre"
  case p1 => exact rfl
  case p2 => exact Nat.le_of_ble_eq_true rfl
  case p3 => exact Nat.le_of_ble_eq_true rfl
  case h2 => walk_at "c part"
  case h3 => exact fun g' st' hr' => ⟨_, _, _, _, _, hr' (b3, _) (by walk_at "c tailmem")⟩
  case h4 => walk_at "c dp"
  case h5 => walk_at "c un"
  intro v' h' tk' tl' gd Td F' N' ap' P' Bd Xd TPd OBd
  clear F9 N9 Bc Xc TPc OBc ap'
  rcases P' with ⟨ho, -⟩ | ⟨ho, q5, z1, z2, zn, rfl, rfl⟩
  · exact absurd ho (by decide +kernel)
  clear ho
  simp only [wsL, List.cons_append, List.nil_append] at N'
  (try dsimp only)
  repeat' ((fail_if_success (with_reducible show wpAny _ _ (compareOp _ _ _) _ _ _)); first | (k_unfold; (try dsimp only)) | (k_end; wrow_close) | walk1 | (dsimp only; walk1) | (leave1; walk_say "STEP leave1"; try dsimp only) | fail "no step")
  rename Fr _ _ _ _ => F9
  rename News _ _ _ _ => N9
  refine' eq_same (d := .list [.str (Str.ofString "="), .tuple [.str (Str.ofString "b"), .int 7], .str (Str.ofString "end"), .str (Str.ofString "end"), .tuple [.str (Str.ofString "refused"), .int 8]]) N9 (DatIn.list ?zm1 (.cons (.str _ _) (.cons (DatIn.mono ?zs1 dq4) (.cons (.str _ _) (.cons (.str _ _) (.cons (DatIn.tuple ?zm3 (.cons (.str _ _) (.cons (.int _ _) .nil))) .nil)))))) (DatIn.list ?zm2 (.cons (.str _ _) (.cons ?zd2 (.cons (.str _ _) (.cons (.str _ _) (.cons ?zd5 .nil)))))) (by decide +kernel) rfl ?zu ?_
  case zm1 => k_mem
  case zm3 => k_mem
  case zs1 => walk_at "c led"
  case zm2 => k_mem
  case zd2 =>
    refine' DatIn.tuple ?m (.cons (.str _ _) (.cons (.int _ _) .nil))
    case m => k_mem
  case zd5 =>
    refine' DatIn.tuple ?m (.cons (.str _ _) (.cons (.int _ _) .nil))
    case m => k_mem
  case zu => k_units
  (try dsimp only)
  repeat' ((fail_if_success (with_reducible show R _ _)); first | (k_unfold; (try dsimp only)) | (k_end; wrow_close) | walk1 | (dsimp only; walk1) | (leave1; walk_say "STEP leave1"; try dsimp only) | fail "no step")
  exact turn_end (tl := []) hretc Td F9 N9 (List.forall_mem_nil _) ⟨rfl, rfl⟩
end
section

-- Deed
section
theorem rows_Deed : hd.heap_39 = hd.heap_39 := by
  k_with_none
  k_with "subscriptTail Name Constant ref int" => ((k_here; (with_reducible show wpAny _ _ (subscriptTail _ _ (Value.ref _) (Value.int _ _)) _ _ _); (with_unfolding_all refine item_litK (by is_list) (by decide) (by decide) (by rfl) ?_ (by with_unfolding_all rfl))))
  k_with "binaryOp Mult int int" => (refine mul_int ?_ (IntMulOk.of_left (intBits_fmod (by decide) (by decide))))
  k_with "k_room" => (((try simp only [depth_mark, depth_under_make, depth_under_kw, depth_in1, depth_deeper, depth_caller]); (simp only [recursionLimit]; omega)))
  k_with "k_units" => (((try simp only [units_in1, units_deeper, Around.mark_units, units_caller]); (try dsimp only); first | exact line_of (by with_reducible assumption) (by exact Nat.le_of_ble_eq_true rfl) | (have hcL9 := cLine_is; omega)))
  k_with "k_in" => (exact Frag.In.keeps (by with_reducible assumption) (Fr.keep (by with_reducible assumption)))
  k_with "k_ne" => ((refine neN ?_; (try dsimp only); first | exact Nat.ne_of_lt (by k_extra "c lt") | exact Nat.ne_of_gt (by k_extra "c lt") | exact ne_l1 (by k_extra "c lt") | exact ne_l2 (by k_extra "c lt") | exact ne_r1 (by k_extra "c lt") | exact ne_r2 (by k_extra "c lt") | omega))
  k_with "c use" => (((case k1 => k_asm); (case k2 => k_asm); (case k3 => k_asm); (case k4 => k_asm); (case k5 => k_asm); (case k6 => exact rfl); (case k7 => exact rfl); (case h1 => k_extra "c pre"); (case h2 => k_extra "c part"); (case h4 => k_extra "c dp"); (case h5 => k_extra "c un")))
  k_with "until iter" => (repeat' ((fail_if_success (with_reducible show wpAny _ _ (pyIter _) _ _ _)); first | (k_unfold; (try dsimp only)) | (k_end; wrow_close) | walk1 | (dsimp only; walk1) | (leave1; walk_say "STEP leave1"; try dsimp only) | fail "no step"))
  k_with "until while" => (repeat' ((fail_if_success (with_reducible show wpAny _ _ (exec (Stmt.While _ _ _ _) _) _ _ _)); first | (k_unfold; (try dsimp only)) | (k_end; wrow_close) | walk1 | (dsimp only; walk1) | (leave1; walk_say "STEP leave1"; try dsimp only) | fail "no step"))
  k_with "until kswend" => (repeat' ((fail_if_success (with_reducible show KswEnd _ _ _ _ _ _ _ _ _ _ _ _)); first | (k_unfold; (try dsimp only)) | (k_end; wrow_close) | walk1 | (dsimp only; walk1) | (leave1; walk_say "STEP leave1"; try dsimp only) | fail "no step"))
  k_with "ite" => ((k_closed; first | with_reducible refine ite_pos (by decide) ?_ | with_reducible refine ite_neg (by decide) ?_))
  k_with "subscriptTail Call" => ((k_here; k_dflt (refine kba_turn (value' := PySem.Expr.Name (PySem.Str.ofString "_") ⟨0, 0, 0, 0⟩) (fun _ => rfl) ?_)))
  k_with "subscriptTail Subscript" => ((k_here; (first | (with_reducible show wpAny _ _ (subscriptTail _ _ (Value.ref _) _) _ _ _) | (with_reducible show wpAny _ _ (subscriptTail _ _ (Value.str _ _) (Value.ref _)) _ _ _)); k_dflt (refine kba_turn (value' := PySem.Expr.Name (PySem.Str.ofString "_") ⟨0, 0, 0, 0⟩) (fun _ => rfl) ?_)))
  k_with "c dp" => (((try dsimp only); first | exact dp_of (by with_reducible assumption) (by exact Nat.le_of_ble_eq_true rfl) | exact dp_of1 (by with_reducible assumption) (by exact Nat.le_of_ble_eq_true rfl) | omega))
  k_with "c un" => (((try dsimp only); first | exact un_of (by with_reducible assumption) (by exact Nat.le_of_ble_eq_true rfl) | exact un_of1 (by with_reducible assumption) (by exact Nat.le_of_ble_eq_true rfl) | omega))
  k_with "c a" => (with_reducible assumption)
  k_with "c lt" => (first | with_reducible assumption | exact a0 (by k_extra "c a") | exact a1 (by k_extra "c a") | exact a2 (by k_extra "c a") | exact a3 (by k_extra "c a") | exact a4 (by k_extra "c a") | exact a5 (by k_extra "c a") | exact a6 (by k_extra "c a") | exact a7 (by k_extra "c a") | exact a8 (by k_extra "c a") | exact a9 (by k_extra "c a") | exact a10 (by k_extra "c a") | exact a11 (by k_extra "c a") | exact a12 (by k_extra "c a") | exact a13 (by k_extra "c a"))
  k_with "c p" => (first | with_reducible assumption | k_ne | exact Nat.le_of_ble_eq_true rfl | decide | omega | assumption | exact rfl)
  k_with "c ro" => (first | exact fun _ _ _ => trivial | (intro g' st' hr'; have hro9 := st' _ _ (by with_reducible assumption); exact ⟨_, _, _, _, _, hro9⟩))
  k_with "c fin2" => (((try case p1 => k_extra "c p"); (try case p2 => k_extra "c p"); (try case p3 => k_extra "c p"); (try case p4 => k_extra "c p"); (try case p5 => k_extra "c p"); (case h3 => k_extra "c ro"); k_whole))
  k_with "c fin" => ((k_extra "c use"; k_extra "c fin2"))
  k_with "c enter" => ((refine spec_enter (by assumption) (by assumption) (by assumption) (by assumption) (by assumption) (by assumption) (by k_is) (by k_is) (by first | exact room_of (by with_reducible assumption) | (simp only [recursionLimit]; omega)) (by first | exact BindsTo.of_eq rfl | exact binds_K (Frag.In.keeps (by assumption) (by assumption)) rfl (by k_is) rfl rfl rfl) (by exact locs rfl) ?_ (by exact rfl) (by exact rfl) (by exact rfl) (by decide); intro _ _ _ _; (try dsimp only); (try k_fold)))
  k_with "c part" => (first | exact Part.nil | (apply Part.out; (· k_mem); (· k_extra "c part")) | (apply Part.stay; (· k_all); (· k_extra "c part")) | (refine part_tail ?_; k_extra "c tail"))
  k_with "c tail" => (first | exact List.forall_mem_nil _ | (refine List.forall_mem_cons.mpr ⟨?_, ?_⟩; (· k_extra "c apart"); (· k_extra "c tail")))
  k_with "c apart" => (first | exact OwnOff.ne (by assumption) (by k_memK) | (refine allLt_apart ?_; k_extra "c conj"))
  k_with "c conj" => (first | assumption | exact And.right (by k_extra "c conj"))
  k_with "c adr" => (first | exact List.forall_mem_nil _ | (refine List.forall_mem_cons.mpr ⟨?_, ?_⟩; (· k_memK); (· k_extra "c adr")))
  k_with "c pre" => (first | exact List.forall_mem_nil _ | (refine List.forall_mem_cons.mpr ⟨?_, ?_⟩; (· k_mem); (· k_extra "c pre")))
  k_with "call builtin:len" => ((k_here; (with_reducible show wpAny _ _ (call (Value.builtin "len") [Value.ref _]) _ _ _); (with_unfolding_all refine len_mine (by is_list) (by (first | omega | (simp only [List.length_cons, List.length_nil, List.length_append]; omega))) ?_)))
  k_with "subscriptTail" => ((k_here; (with_reducible show wpAny _ _ (subscriptTail _ _ (Value.ref _) (Value.int _ _)) _ _ _); (with_unfolding_all refine item_open (by is_list) (by omega) (by omega) (by omega) ?_ (by with_unfolding_all rfl)); intro _ _ _))
  k_with "call type:range" => ((k_here; (with_reducible show wpAny _ _ (call _ [_]) _ _ _); (with_unfolding_all refine range1_rows (by k_asm) (by k_asm) ?_); intro _ _ _ _ _ _ _ _ _; (try k_sweep)))
  k_with "call builtin:list.append" => ((k_here; (with_reducible show wpAny _ _ (call (Value.builtin _) [Value.ref _, _]) _ _ _); k_dflt (refine append_K (by k_asm) (by k_asm) (by k_upd) ?_ (by first | exact small_size (by assumption) | size_fits)); intro _ _ _; (try k_sweep)))
  k_with "binaryOp Add str str" => ((k_here; (refine add_mine ?_ (by (first | omega | (simp only [Str.length_append]; omega))) (by (first | omega | (simp only [Str.length_append]; omega)))); intro _ _))
  k_with "call type:list" => ((k_here; (with_reducible show wpAny _ _ (call (Value.type "list") [Value.ref _]) _ _ _); k_dflt (refine list_mine (by k_asm) (by k_asm) (by k_mem) (by omega) ?_); intro _ _ _ _ _ l9; (try k_lt l9); (try (revert l9; intro _)); (try k_sweep)))
  k_with "callWith ref" => ((k_here; k_dflt (first | refine callWith_K (by with_reducible assumption) (by k_is) ?_ | refine callWith_K0 (by k_in) (by k_is) ?_)))
  k_with "subscriptTail" => (k_here; (with_reducible show wpAny _ _ (subscriptTail _ _ (Value.str _ _) (Value.int _ _)) _ _ _); (refine item_known (by with_reducible assumption) (by omega) (by omega) (by assumption) ?_ (by with_unfolding_all rfl) (by intro _; with_unfolding_all rfl)); (try dsimp only))
  k_with "subscriptTail Name Name str int" => k_extra "subscriptTail"
  k_with "subscriptTail Name BinOp str int" => k_extra "subscriptTail"
  k_with "compareOp In str str" => (k_here; first | refine in_b (by with_reducible assumption) ?_ | refine in_b (b := true) (by decide +kernel) ?_ | refine in_b (b := false) (by decide +kernel) ?_)
  k_with "compareOp Eq str str" => (k_here; first | refine eq_b (by with_reducible assumption) ?_ | refine eq_b (b := true) (by decide +kernel) ?_ | refine eq_b (b := false) (by decide +kernel) ?_)
  k_with "compareOp NotEq str str" => (k_here; first | refine ne_b (by with_reducible assumption) ?_ | refine ne_b (b := true) (by decide +kernel) ?_ | refine ne_b (b := false) (by decide +kernel) ?_)
  k_with "subscriptTail Name Slice str ref" => (k_here; (refine slice_known (s := ⟨_, _, _, _, _⟩) (by k_asm) (by k_asm) (by with_reducible assumption) (by assumption) ?_ (by with_unfolding_all rfl) (by intro _; with_unfolding_all rfl)); intro _ _ _ _ _; (try dsimp only); (try k_sweep))
  k_with "compareOp Eq int int" => (k_here; refine eqi_b (by with_reducible assumption) ?_)
  k_with "call ref" => (k_here; (with_reducible show wpAny _ _ (call (Value.ref 175) _) _ _ _); (try k_fold); k_dflt (refine use_by (by k_asm) (by k_asm) (by k_asm) (by k_asm) (by k_asm) (by exact rfl) (by exact rfl) (by k_extra "c pre") (by k_extra "c part") (by k_extra "c dp") (by k_extra "c un") (peek0K_spec (by k_extra "c p") (by k_extra "c p") (by k_extra "c p")) (by k_extra "c ro") ?_); walk_at "c in"; rename_i P'; obtain ⟨hv', htl'⟩ := P'; subst hv' htl'; (walk_at "c aftw"))
  k_with "call ref" => (k_here; (with_reducible show wpAny _ _ (call (Value.ref 175) [_, _]) _ _ _); (try k_fold); k_dflt (refine use_by (by k_asm) (by k_asm) (by k_asm) (by k_asm) (by k_asm) (by exact rfl) (by exact rfl) (by k_extra "c pre") (by k_extra "c part") (by k_extra "c dp") (by k_extra "c un") (peekK_spec (by k_extra "c p") (by k_extra "c p") (by k_extra "c p") (by k_extra "c p") (by k_extra "c p")) (by k_extra "c ro") ?_); walk_at "c in"; rename_i P'; obtain ⟨hv', htl'⟩ := P'; subst hv' htl'; (walk_at "c aftw"))
  k_with "call ref" => (k_here; (with_reducible show wpAny _ _ (call (Value.ref 232) _) _ _ _); (try k_fold); k_dflt (refine use_by (by k_asm) (by k_asm) (by k_asm) (by k_asm) (by k_asm) (by exact rfl) (by exact rfl) (by k_extra "c pre") (by k_extra "c part") (by k_extra "c dp") (by k_extra "c un") (take_spec (by k_extra "c p") (by k_extra "c p") (by k_extra "c p")) (by k_extra "c ro") ?_); walk_at "c in"; rename_i P'; obtain ⟨_, _, _, _, _, _, _, hv', _, _, _, htl'⟩ := P'; subst hv' htl'; (walk_at "c aft"))
  k_with "call ref" => (k_here; (with_reducible show wpAny _ _ (call (Value.ref 239) _) _ _ _); (try k_fold); k_dflt (refine use_by (by k_asm) (by k_asm) (by k_asm) (by k_asm) (by k_asm) (by exact rfl) (by exact rfl) (by k_extra "c pre") (by k_extra "c part") (by k_extra "c dp") (by k_extra "c un") (one_spec (by k_extra "c p") (by k_extra "c p") (by k_extra "c p") (by k_extra "c p")) (by k_extra "c ro") ?_); walk_at "c in"; rename_i P'; obtain ⟨_, _, _, _, _, _, _, htl'⟩ := P'; subst htl'; (walk_at "c aft"))
  k_with "k_ne" => ((refine neN ?_; (try dsimp only); first | exact Nq.ne (by with_reducible assumption) | exact Nq.ne' (by with_reducible assumption) | exact Nat.ne_of_lt (by k_extra "c lt") | exact Nat.ne_of_gt (by k_extra "c lt") | exact ne_l1 (by k_extra "c lt") | exact ne_l2 (by k_extra "c lt") | exact ne_r1 (by k_extra "c lt") | exact ne_r2 (by k_extra "c lt") | omega))
  k_with "c led" => (first | exact List.forall_mem_nil _ | (refine List.forall_mem_cons.mpr ⟨?_, ?_⟩; (· k_mem); (· k_extra "c led")) | (intro q9 hq9; repeat (first | exact hq9 | refine List.Mem.tail _ ?_)))
  k_with "c cls" => (first | (intro z9; cases z9; done) | (intro z9; injection z9 with z9; exact absurd z9 (by decide)))
  k_with "c tailmem" => (first | with_reducible assumption | (refine List.mem_cons_of_mem _ ?_; k_extra "c tailmem"))
  k_with "subscriptTail Name Constant ref int" => (k_here; (with_reducible show wpAny _ _ (subscriptTail _ _ (Value.ref _) (Value.int _ _)) _ _ _); k_dflt (refine item_tupleL (by exact word_tupN (by k_asm) (by k_extra "c tailmem")) (by decide) (by decide) (by rfl) (by rfl) ?_ (by with_unfolding_all rfl) (by intro _; with_unfolding_all rfl)))
  k_with "subscriptTail Name Constant ref int" => ((k_here; (with_reducible show wpAny _ _ (subscriptTail _ _ (Value.ref _) (Value.int _ _)) _ _ _); (with_unfolding_all refine item_litK (by is_list) (by decide) (by decide) (by rfl) ?_ (by with_unfolding_all rfl))))
  k_with "subscriptTail" => (k_here; (with_reducible show wpAny _ _ (subscriptTail _ _ (Value.ref _) (Value.int (Nat.cast _) _)) _ _ _); k_dflt (refine item_at (by with_reducible assumption) (by is_list) (by omega) ?_ (by with_unfolding_all rfl)))
  exact rfl
local macro_rules | `(tactic| walk_at "c aftw") => `(tactic| ((with_reducible rename News _ _ _ _ => N9); (simp only [wsL] at N9); walk_at "c aft"))
theorem dat2_ok {t : Str} {p : Int} (h : PyData.strOk t = true) : kqdOk 8 (.tuple [.str t, .int p]) = true := by simp [kqdOk, h]
theorem name_lt {wd : Wd} {a n : Nat} (ho : nameOkB wd = true) (hk : (wd.k != Str.ofString "end") = decide (a < n)) : a < n := by
  unfold nameOkB at ho
  rw [Bool.and_eq_true] at ho
  have e := eq_of_beq ho.1
  rw [e] at hk
  exact of_decide_eq_true (hk.symm.trans (by decide))
theorem look_lt {wd : Wd} {tt : Str} {a n : Nat} (ho : lookB wd tt = true) (hk : (wd.k != Str.ofString "end") = decide (a < n)) : a < n := by
  unfold lookB at ho
  rw [Bool.and_eq_true] at ho
  by_cases h : a < n
  · exact h
  · rw [decide_eq_false h] at hk
    have e : (wd.k == Str.ofString "end") = true := by
      have : (!(wd.k == Str.ofString "end")) = false := hk
      rw [Bool.not_eq_false'] at this; exact this
    rw [eq_of_beq e] at ho
    exact absurd ho.1 (by decide)
theorem close_lt {wd : Wd} {a n : Nat} (ho : closeB wd = true) (hk : (wd.k != Str.ofString "end") = decide (a < n)) : a < n := by
  unfold closeB at ho
  rw [Bool.and_eq_true] at ho
  have e := eq_of_beq ho.1
  rw [e] at hk
  exact of_decide_eq_true (hk.symm.trans (by decide))
abbrev t2O (t : Str) (p : Int) (u1 u2 : Tok) (n : Nat) : Obj := { cls := .type "tuple", data := .seq [.str t u1, .int p u2].toArray n }
theorem dat2_in {news : Led} {q : Addr} {t : Str} {p : Int} (u1 u2 : Tok) (n : Nat) (h : (q, t2O t p u1 u2 n) ∈ news) : DatIn news (.ref q) (.tuple [.str t, .int p]) := DatIn.tuple h (.cons (.str _ _) (.cons (.int _ _) .nil))
theorem dat5_in {news : Led} {q : Addr} {k t : Str} {p : Int} (u1 u2 u3 : Tok) (n : Nat) (h : (q, wordO ⟨k, t, p, false⟩ u1 u2 u3 .none n) ∈ news) : DatIn news (.ref q) (Wd.dat ⟨k, t, p, false⟩) := datIn_word h (.inr ⟨rfl, rfl⟩)
theorem gt_ok (p : Int) : kqdOk 8 (Wd.dat ⟨Str.ofString "sign", Str.ofString ">", p, false⟩) = true :=
  dat_ok (show PyData.strOk (Str.ofString "sign") = true by decide +kernel) (show PyData.strOk (Str.ofString ">") = true by decide +kernel)
theorem four_of {v : Value} {t : Str} {a b c d : Tok} (hl : t.length ≤ 1000) (hs : PyData.strOk t = true) (h : v ∈ [Value.str t a, .str t b, .str (Str.ofString "nowhere") c, .str (Str.ofString ">") d]) : ∃ tt u, v = .str tt u ∧ tt.length ≤ 1000 ∧ PyData.strOk tt = true := by
  simp only [List.mem_cons, List.not_mem_nil, or_false] at h
  rcases h with e | e | e | e
  · exact ⟨_, _, e, hl, hs⟩
  · exact ⟨_, _, e, hl, hs⟩
  · exact ⟨_, _, e, by decide +kernel, by decide +kernel⟩
  · exact ⟨_, _, e, by decide +kernel, by decide +kernel⟩
theorem allLt_mono {a b : Nat} (h : @LT.lt Nat _ a b) : ∀ {l : Led}, AllLt a l → AllLt b l
  | [], _ => trivial
  | _ :: _, k => ⟨Nat.lt_trans k.1 h, allLt_mono h k.2⟩
theorem idx_eq {ws : List Value} {v b : Value} {a k l l' : Int} (hv : ws[(if l < a + k then l else a + k).toNat]? = some v) (hi : ws[(min (a + k) l').toNat]? = some b) (hl : l = l') : v = b := by
  have e : (if l < a + k then l else a + k) = min (a + k) l' := by
    subst hl
    by_cases h : l < a + k
    · rw [if_pos h]; omega
    · rw [if_neg h]; omega
  rw [e, hi] at hv
  exact (Option.some.inj hv).symm
set_option maxHeartbeats 4000000 in
theorem deed_spec {prog : Program} {wld : World} {D : DAd} {T : Led} {S : DSt} (hA : AdOk D) (hS : OkD D T S) :
    CSpecT prog wld 40 400 295 [.ref D.src, .ref D.xw, .ref D.sa] (dL wld D S ++ T) (fun g => CodeHd g 294 290)
      (fun v tl => v = .bool true ∧ ∃ S' add, tl = dL wld D S' ++ (add ++ T) ∧ OkD D (add ++ T) S' ∧ OwnOff add (T.map (·.1))) := by
  w_top off
  unfold CSpecT
  intro dp un gd outer A₀ base g s p loose mean mg mb R B st sz X TP N0 hro OB hd hu hret
  obtain ⟨src, sa, wl, x, d, r, t1, t2, t3, td⟩ := D
  obtain ⟨q1, q2, q3, q4, q5, q6, q7, q8, q9, q10, q11, q12, q13, q14, q15, q16, q17, q18, q19, q20, q21⟩ := hA
  obtain ⟨x0, y0, tx, ty, n, a, ta, vs, c, tb, m2, ws, c2, ps, U, e⟩ := S
  obtain ⟨hx0, hgood, ha, D1, D2, htab, hoff0⟩ := hS
  dsimp only at *
  simp only [dL, List.cons_append, List.nil_append] at N0
  have hvl : vs.length = U.length + 1 := by rw [D1.length, List.length_map, wl_len]
  have hwl : ws.length = U.length + 1 := by rw [D2.length, List.length_map, wl_len]
  obtain ⟨-, hU2, hU6, he0, he1⟩ := id hgood
  have hvA : vs.length ≤ 1000 := by omega
  have hvB : a < vs.length := by omega
  have hwA : ws.length ≤ 1000 := by omega
  have hwB : a < ws.length := by omega
  refine' spec_enterC B st sz X TP N0 ?k6 ?k7 ?k8 ?k9 ?kB ?kD ?_ ?c2 ?c3 ?c4
  case k6 => k_is
  case k7 => k_is
  case k8 => first | exact room_of (by with_reducible assumption) | (simp only [recursionLimit]; omega)
  case k9 => exact BindsTo.of_eq rfl
  case kB => exact rfl
  case kD => decide +kernel
  case c2 => exact rfl
  case c3 => exact rfl
  case c4 => exact rfl
  intro L9 h9 tk9 cells9 F9 N9 Y9 lt9
  obtain ⟨ot, oh, hE9, dt0, dh0⟩ := CellsAre.two Y9
  have dt : ot.data = .cell none := dt0
  have dh : oh.data = .cell (some (.ref x)) := dh0
  clear dt0 dh0
  subst hE9
  clear Y9
  simp only [List.cons_append, List.nil_append] at N9
  simp only [List.forall_mem_cons] at lt9
  obtain ⟨l1, l2, l3, l4, l5, l6, l7, ltT⟩ := lt9
  have off9 : OwnOff T [src, sa, wl, 290, x, d, r, L9 + 1, L9 + 1 + 1] := off_app hoff0 (off_lt ltT)
  clear ltT hoff0
  (try dsimp only)
  (try k_fold)
  repeat' ((fail_if_success (with_reducible show wpAny _ _ (call (Value.ref 232) _) _ _ _)); first | (k_unfold; (try dsimp only)) | (k_end; wrow_close) | walk1 | (dsimp only; walk1) | (leave1; walk_say "STEP leave1"; try dsimp only) | fail "no step")
  (try k_fold); k_dflt (refine' use_spec ?k1 ?k2 ?k3 ?k4 ?k5 ?k6 ?k7 (take_spec ?p1 ?p2 ?p3) ?h1 ?h2 ?h3 ?h4 ?h5 ?_; walk_at "c use"; (case p1 => with_reducible assumption); (case p2 => decide); (case p3 => decide); (case h3 => exact fun _ _ _ => trivial))
  intro v' h' tk' tl' F' N' ap' P'; obtain ⟨w, x1, y1, tr1, tx1, ty1, n1, hv', w0, w1, hx1, htl'⟩ := P'; subst hv' htl'; (simp only [List.cons_append, List.nil_append] at N'); clear ap'; (try k_sweep)
  have hr : w = 0 ∨ w = 1 ∨ w = 2 ∨ w = 3 ∨ w = 4 ∨ 5 ≤ w := by omega
  rcases hr with rfl | rfl | rfl | rfl | rfl | hr5
  ·
    have fw0 : ((0 : Int) == 0) = true := rfl
    repeat' ((fail_if_success (with_reducible show wpAny _ _ (call (Value.ref 232) _) _ _ _)); first | (k_unfold; (try dsimp only)) | (k_end; wrow_close) | walk1 | (dsimp only; walk1) | (leave1; walk_say "STEP leave1"; try dsimp only) | fail "no step")
    (try k_fold); k_dflt (refine' use_spec ?k1 ?k2 ?k3 ?k4 ?k5 ?k6 ?k7 (take_spec ?p1 ?p2 ?p3) ?h1 ?h2 ?h3 ?h4 ?h5 ?_; walk_at "c use"; (case p1 => with_reducible assumption); (case p2 => decide); (case p3 => decide); (case h3 => exact fun _ _ _ => trivial))
    intro v' h' tk' tl' F' N' ap' P'; obtain ⟨k, x2, y2, tr2, tx2, ty2, n2, hv', k0, k1, hx2, htl'⟩ := P'; subst hv' htl'; (simp only [List.cons_append, List.nil_append] at N'); clear ap'; (try k_sweep)
    have hi : (min ((a : Int) + k) ((vs.length : Int) - 1)).toNat ≤ U.length := by omega
    obtain ⟨wd, hwd, hE, -⟩ := wl_get hgood hi
    obtain ⟨b1, u1, u2, u3, v4, m4, hv1, hm1, hd1⟩ := word_at D1 hwd
    obtain ⟨b2, -, -, -, -, -, hv2, -, hd2⟩ := word_at D2 hwd
    have hok := goodE_ok hE
    repeat' ((fail_if_success (with_reducible show wpAny _ _ (compareOp _ _ _) _ _ _)); first | (k_unfold; (try dsimp only)) | (k_end; wrow_close) | walk1 | (dsimp only; walk1) | (leave1; walk_say "STEP leave1"; try dsimp only) | fail "no step")
    rename Fr _ _ _ _ => F9
    rename News _ _ _ _ => N9
    rename _ = some _ => hv9
    have e9 := idx_eq hv9 hv2 (by omega)
    subst e9
    refine eq_same N9 (DatIn.mono ?sub hd1) (DatIn.mono ?sub hd2) hok.ok rfl ?hu ?_
    case sub => walk_at "c led"
    case hu => k_units
    refine' turn_end hret KtsTurn.refl F9 N9 ?hs ⟨rfl, ⟨x2, y2, tx2, ty2, n2, a, ta, vs, c, tb, m2, ws, c2, ps, U, e⟩, [], rfl, ⟨hx2, hgood, ha, D1, D2, htab, fun q hq b hb => off9 q hq b (List.mem_append_left [L9 + 1, L9 + 1 + 1] hb)⟩, fun _ h => nomatch h⟩
    case hs => simp only [dL, List.cons_append, List.nil_append]; walk_at "c led"
  ·
    have fw0 : ((1 : Int) == 0) = false := rfl
    have fw1 : ((1 : Int) == 1) = true := rfl
    repeat' ((fail_if_success (with_reducible show wpAny _ _ (call (Value.ref 232) _) _ _ _)); first | (k_unfold; (try dsimp only)) | (k_end; wrow_close) | walk1 | (dsimp only; walk1) | (leave1; walk_say "STEP leave1"; try dsimp only) | fail "no step")
    (try k_fold); k_dflt (refine' use_spec ?k1 ?k2 ?k3 ?k4 ?k5 ?k6 ?k7 (take_spec ?p1 ?p2 ?p3) ?h1 ?h2 ?h3 ?h4 ?h5 ?_; walk_at "c use"; (case p1 => with_reducible assumption); (case p2 => decide); (case p3 => decide); (case h3 => exact fun _ _ _ => trivial))
    intro v' h' tk' tl' F' N' ap' P'; obtain ⟨k, x2, y2, tr2, tx2, ty2, n2, hv', k0, k1, hx2, htl'⟩ := P'; subst hv' htl'; (simp only [List.cons_append, List.nil_append] at N'); clear ap'; (try k_sweep)
    have hi : (min ((a : Int) + k) ((vs.length : Int) - 1)).toNat ≤ U.length := by omega
    obtain ⟨wd, hwd, hE, -⟩ := wl_get hgood hi
    obtain ⟨b1, u1, u2, u3, v4, m4, hv1, hm1, hd1⟩ := word_at D1 hwd
    obtain ⟨b2, g1, g2, g3, g4, g5, hv2, hm2, hd2⟩ := word_at D2 hwd
    have hok := goodE_ok hE
    repeat' ((fail_if_success (with_reducible show wpAny _ _ (call (Value.ref 239) _) _ _ _)); first | (k_unfold; (try dsimp only)) | (k_end; wrow_close) | walk1 | (dsimp only; walk1) | (leave1; walk_say "STEP leave1"; try dsimp only) | fail "no step")
    (try k_fold); k_dflt (refine' use_spec ?k1 ?k2 ?k3 ?k4 ?k5 ?k6 ?k7 (one_spec ?p1 ?p2 ?p3 ?p4) ?h1 ?h2 ?h3 ?h4 ?h5 ?_; walk_at "c use"; (case p1 => k_ne); (case p2 => with_reducible assumption); (case p3 => first | with_reducible assumption | omega); (case p4 => first | with_reducible assumption | omega); (case h3 => exact fun _ _ _ => trivial))
    intro v' h' tk' tl' F' N' ap' P'; obtain ⟨hmem, x3, y3, tx3, ty3, n3, hx3, htl'⟩ := P'; subst htl'; (simp only [List.cons_append, List.nil_append] at N'); clear ap'; (try k_sweep)
    obtain ⟨i3, hi3⟩ := List.getElem?_of_mem hmem
    have hl3 : i3 ≤ U.length := by have := (List.getElem?_eq_some_iff.mp hi3).1; omega
    obtain ⟨wd3, hwd3, hE3, -⟩ := wl_get hgood hl3
    obtain ⟨b3, f1, f2, f3, f4, f5, hv3, hm3, -⟩ := word_at D2 hwd3
    have e3 : v' = .ref b3 := Option.some.inj (hi3.symm.trans hv3)
    subst e3
    have hok3 := goodE_ok hE3
    repeat' ((fail_if_success (with_reducible show wpAny _ _ (call (Value.ref 190) _) _ _ _)); first | (k_unfold; (try dsimp only)) | (k_end; wrow_close) | walk1 | (dsimp only; walk1) | (leave1; walk_say "STEP leave1"; try dsimp only) | fail "no step")
    (try k_fold); k_dflt (refine' use_spec ?k1 ?k2 ?k3 ?k4 ?k5 ?k6 ?k7 (looks_spec ?p1 ?p2 ?p3 ?p4 ?p5) ?h1 ?h2 ?h3 ?h4 ?h5 ?_; walk_at "c use"; (case p1 => exact hv1); (case p2 => first | with_reducible assumption | omega); (case p3 => first | with_reducible assumption | omega); (case p4 => first | with_reducible assumption | omega); (case p5 => first | with_reducible assumption | omega); (case h3 => exact fun g' st' hr' => ⟨_, _, _, _, _, hr' (b1, _) (by walk_at "c tailmem")⟩))
    intro v' h' tk' tl' F' N' ap' P'; obtain ⟨hv', htl'⟩ := P'; subst hv' htl'; (simp only [wsL, List.cons_append, List.nil_append] at N'); clear ap'; (try k_sweep)
    repeat' ((fail_if_success (with_reducible show wpAny _ _ (call (Value.ref 267) _) _ _ _)); first | (k_unfold; (try dsimp only)) | (k_end; wrow_close) | walk1 | (dsimp only; walk1) | (leave1; walk_say "STEP leave1"; try dsimp only) | fail "no step")
    rename _ = some _ => hv9
    have e9 := idx_eq hv9 hv2 (by omega)
    subst e9
    (try k_fold); k_dflt (refine' use_spec ?k1 ?k2 ?k3 ?k4 ?k5 ?k6 ?k7 (islooked_spec (wd := wd)) ?h1 ?h2 ?h3 ?h4 ?h5 ?_; walk_at "c use"; (case h3 => exact fun g' st' hr' => ⟨_, _, _, _, _, hr' (b2, _) (by walk_at "c tailmem")⟩))
    intro v' h' tk' tl' F' N' ap' P'; obtain ⟨hv', htl'⟩ := P'; subst hv' htl'; (simp only [List.cons_append, List.nil_append] at N'); clear ap'; (try k_sweep)
    repeat' ((fail_if_success (with_reducible show wpAny _ _ (compareOp _ _ _) _ _ _)); first | (k_unfold; (try dsimp only)) | (k_end; wrow_close) | walk1 | (dsimp only; walk1) | (leave1; walk_say "STEP leave1"; try dsimp only) | fail "no step")
    refine PyProof.Rows.eq_bool ?_
    have e10 : ((sigK wd.k && wd.t == wd3.t) == lookB wd wd3.t) = true := beq_self_eq_true _
    rw [e10]
    rename Fr _ _ _ _ => F9
    rename News _ _ _ _ => N9
    refine' turn_end hret KtsTurn.refl F9 N9 ?hs ⟨rfl, ⟨x3, y3, tx3, ty3, n3, a, ta, vs, c, tb, m2, ws, c2, ps, U, e⟩, [], rfl, ⟨hx3, hgood, ha, D1, D2, htab, fun q hq b hb => off9 q hq b (List.mem_append_left [L9 + 1, L9 + 1 + 1] hb)⟩, fun _ h => nomatch h⟩
    case hs => simp only [dL, List.cons_append, List.nil_append]; walk_at "c led"
  ·
    have fw0 : ((2 : Int) == 0) = false := rfl
    have fw1 : ((2 : Int) == 1) = false := rfl
    have fw2 : ((2 : Int) == 2) = true := rfl
    obtain ⟨wd, hwd, hE, hk⟩ := wl_get hgood ha
    obtain ⟨b1, u1, u2, u3, v4, m4, hv1, hm1, hd1⟩ := word_at D1 hwd
    obtain ⟨b2, g1, g2, g3, g4, g5, hv2, hm2, hd2⟩ := word_at D2 hwd
    have hok := goodE_ok hE
    repeat' ((fail_if_success (with_reducible show wpAny _ _ (call (Value.ref 182) _) _ _ _)); first | (k_unfold; (try dsimp only)) | (k_end; wrow_close) | walk1 | (dsimp only; walk1) | (leave1; walk_say "STEP leave1"; try dsimp only) | fail "no step")
    (try k_fold); k_dflt (refine' use_spec ?k1 ?k2 ?k3 ?k4 ?k5 ?k6 ?k7 (takew_spec ?p1 ?p2 ?p3) ?h1 ?h2 ?h3 ?h4 ?h5 ?_; walk_at "c use"; (case p1 => exact hv1); (case p2 => first | with_reducible assumption | omega); (case p3 => first | with_reducible assumption | omega); (case h3 => exact fun g' st' hr' => ⟨_, _, _, _, _, hr' (b1, _) (by walk_at "c tailmem")⟩))
    intro v' h' tk' tl' F' N' ap' P'; obtain ⟨hv', ta', htl'⟩ := P'; subst hv' htl'; (simp only [wsL, List.cons_append, List.nil_append] at N'); clear ap'; (try k_sweep)
    repeat' ((fail_if_success (with_reducible show wpAny _ _ (compareOp _ _ _) _ _ _)); first | (k_unfold; (try dsimp only)) | (k_end; wrow_close) | walk1 | (dsimp only; walk1) | (leave1; walk_say "STEP leave1"; try dsimp only) | fail "no step")
    rename Fr _ _ _ _ => F9
    rename News _ _ _ _ => N9
    refine eq_same N9 (DatIn.mono ?sub hd1) (DatIn.mono ?sub hd2) hok.ok rfl ?hu ?_
    case sub => walk_at "c led"
    case hu => k_units
    have ea : (if ((ws.length : Int) - 1) < (a : Int) + 1 then ((ws.length : Int) - 1) else (a : Int) + 1) = (((if (wd.k != Str.ofString "end") = true then a + 1 else a : Nat)) : Int) := by
      rw [hk]
      by_cases h : a < U.length
      · rw [decide_eq_true h, if_neg (show ¬ ((ws.length : Int) - 1) < (a : Int) + 1 by omega)]; rfl
      · rw [decide_eq_false h, if_pos (show ((ws.length : Int) - 1) < (a : Int) + 1 by omega)]; show (ws.length : Int) - 1 = (a : Int); omega
    have ha2 : (if (wd.k != Str.ofString "end") = true then a + 1 else a) ≤ U.length := by
      rw [hk]
      by_cases h : a < U.length
      · rw [decide_eq_true h]; exact h
      · rw [decide_eq_false h]; exact ha
    rw [ea] at N9
    refine' turn_end hret KtsTurn.refl F9 N9 ?hs ⟨rfl, ⟨x1, y1, tx1, ty1, n1, (if (wd.k != Str.ofString "end") = true then a + 1 else a), ta', vs, c, _, _, ws, c2, ps, U, e⟩, [], rfl, ⟨hx1, hgood, ha2, D1, D2, htab, fun q hq b hb => off9 q hq b (List.mem_append_left [L9 + 1, L9 + 1 + 1] hb)⟩, fun _ h => nomatch h⟩
    case hs => simp only [dL, List.cons_append, List.nil_append]; walk_at "c led"
  ·
    have fw0 : ((3 : Int) == 0) = false := rfl
    have fw1 : ((3 : Int) == 1) = false := rfl
    have fw2 : ((3 : Int) == 2) = false := rfl
    have fw3 : ((3 : Int) == 3) = true := rfl
    obtain ⟨wd, hwd, hE, hk⟩ := wl_get hgood ha
    obtain ⟨b1, u1, u2, u3, v4, m4, hv1, hm1, hd1⟩ := word_at D1 hwd
    obtain ⟨b2, g1, g2, g3, g4, g5, hv2, hm2, hd2⟩ := word_at D2 hwd
    have hok := goodE_ok hE
    repeat' ((fail_if_success (with_reducible show wpAny _ _ (call (Value.ref 260) _) _ _ _)); first | (k_unfold; (try dsimp only)) | (k_end; wrow_close) | walk1 | (dsimp only; walk1) | (leave1; walk_say "STEP leave1"; try dsimp only) | fail "no step")
    rename Fr _ _ _ _ => F9
    rename News _ _ _ _ => N9
    (try k_fold); k_dflt (refine' use_specT B F9 X N9 TP OB ?k6 ?k7 (heard_name ?p1 ?p2 ?p3) ?h1 ?h2 ?h3 ?h4 ?h5 ?_)
    case k6 => exact rfl
    case k7 => exact rfl
    case p1 => exact hv1
    case p2 => first | with_reducible assumption | omega
    case p3 => first | with_reducible assumption | omega
    case h1 => walk_at "c pre"
    case h2 => walk_at "c part"
    case h3 => exact fun g' st' hr' => ⟨_, _, _, _, _, hr' (b1, _) (by walk_at "c tailmem")⟩
    case h4 => walk_at "c dp"
    case h5 => walk_at "c un"
    intro v' h' tk' tl' gg T9 F' N' ap' P' B' X' TP' OB'
    clear F9 N9 B X TP OB
    rcases P' with ⟨ho, q, z1, z2, zn, ta', rfl, rfl⟩ | ⟨ho, q, z1, z2, zn, rfl, rfl⟩
    · have nq1 : Nq sa q := ap' (q, _) (.head _) (sa, _) (by k_mem)
      have nq2 : Nq wl q := ap' (q, _) (.head _) (wl, _) (by k_mem)
      clear ap'
      simp only [wsL, List.cons_append, List.nil_append] at N'
      repeat' ((fail_if_success (with_reducible show wpAny _ _ (call (Value.ref 274) _) _ _ _)); first | (k_unfold; (try dsimp only)) | (k_end; wrow_close) | walk1 | (dsimp only; walk1) | (leave1; walk_say "STEP leave1"; try dsimp only) | fail "no step")
      (try k_fold); k_dflt (refine' use_spec ?k1 ?k2 ?k3 ?k4 ?k5 ?k6 ?k7 (namedue_spec ?p1 ?p2 ?p3 ?p4) ?h1 ?h2 ?h3 ?h4 ?h5 ?_; walk_at "c use"; (case p1 => exact hv2); (case p2 => first | with_reducible assumption | omega); (case p3 => first | with_reducible assumption | omega); (case p4 => k_ne); (case h3 => exact fun g' st' hr' => ⟨_, _, _, _, _, hr' (b2, _) (by walk_at "c tailmem")⟩))
      intro v' h' tk' tl' F' N' ap' P'
      clear ap'
      rcases P' with ⟨ho2, q2, j1, j2, jn, jn2, tb', rfl, rfl⟩ | ⟨ho2, -⟩
      · simp only [List.cons_append, List.nil_append] at N'
        (try k_sweep)
        repeat' ((fail_if_success (with_reducible show wpAny _ _ (compareOp _ _ _) _ _ _)); first | (k_unfold; (try dsimp only)) | (k_end; wrow_close) | walk1 | (dsimp only; walk1) | (leave1; walk_say "STEP leave1"; try dsimp only) | fail "no step")
        rename Fr _ _ _ _ => F9
        rename News _ _ _ _ => N9
        refine eq_same N9 (d := .tuple [.str wd.t, .int wd.pos]) (e := .tuple [.str wd.t, .int wd.pos]) (dat2_in z1 z2 zn ?m1) (dat2_in j1 j2 jn ?m2) (dat2_ok hok.okt) rfl ?hu ?_
        case m1 => k_mem
        case m2 => k_mem
        case hu => k_units
        refine' turn_end hret T9 F9 N9 ?hs ⟨rfl, ⟨x1, y1, tx1, ty1, n1, a + 1, ta', vs, c, tb', jn2, ws, c2, ps, U, e⟩, [], rfl, ⟨hx1, hgood, name_lt ho hk, D1, D2, htab, fun q hq b hb => off9 q hq b (List.mem_append_left [L9 + 1, L9 + 1 + 1] hb)⟩, fun _ h => nomatch h⟩
        case hs => simp only [dL, List.cons_append, List.nil_append]; walk_at "c led"
      · rw [hok.name, ho] at ho2; cases ho2
    · have nq1 : Nq sa q := ap' (q, _) (.head _) (sa, _) (by k_mem)
      have nq2 : Nq wl q := ap' (q, _) (.head _) (wl, _) (by k_mem)
      clear ap'
      simp only [wsL, List.cons_append, List.nil_append] at N'
      repeat' ((fail_if_success (with_reducible show wpAny _ _ (call (Value.ref 274) _) _ _ _)); first | (k_unfold; (try dsimp only)) | (k_end; wrow_close) | walk1 | (dsimp only; walk1) | (leave1; walk_say "STEP leave1"; try dsimp only) | fail "no step")
      (try k_fold); k_dflt (refine' use_spec ?k1 ?k2 ?k3 ?k4 ?k5 ?k6 ?k7 (namedue_spec ?p1 ?p2 ?p3 ?p4) ?h1 ?h2 ?h3 ?h4 ?h5 ?_; walk_at "c use"; (case p1 => exact hv2); (case p2 => first | with_reducible assumption | omega); (case p3 => first | with_reducible assumption | omega); (case p4 => k_ne); (case h3 => exact fun g' st' hr' => ⟨_, _, _, _, _, hr' (b2, _) (by walk_at "c tailmem")⟩))
      intro v' h' tk' tl' F' N' ap' P'
      clear ap'
      rcases P' with ⟨ho2, -⟩ | ⟨ho2, q2, j1, j2, jn, rfl, rfl⟩
      · rw [hok.name, ho] at ho2; cases ho2
      · simp only [List.cons_append, List.nil_append] at N'
        (try k_sweep)
        repeat' ((fail_if_success (with_reducible show wpAny _ _ (compareOp _ _ _) _ _ _)); first | (k_unfold; (try dsimp only)) | (k_end; wrow_close) | walk1 | (dsimp only; walk1) | (leave1; walk_say "STEP leave1"; try dsimp only) | fail "no step")
        rename Fr _ _ _ _ => F9
        rename News _ _ _ _ => N9
        refine eq_same N9 (d := .tuple [.str (Str.ofString "refused"), .int wd.pos]) (e := .tuple [.str (Str.ofString "refused"), .int wd.pos]) (dat2_in z1 z2 zn ?m1) (dat2_in j1 j2 jn ?m2) (dat2_ok (by decide +kernel)) rfl ?hu ?_
        case m1 => k_mem
        case m2 => k_mem
        case hu => k_units
        refine' turn_end hret T9 F9 N9 ?hs ⟨rfl, ⟨x1, y1, tx1, ty1, n1, a, ta, vs, c, tb, m2, ws, c2, ps, U, e⟩, [], rfl, ⟨hx1, hgood, ha, D1, D2, htab, fun q hq b hb => off9 q hq b (List.mem_append_left [L9 + 1, L9 + 1 + 1] hb)⟩, fun _ h => nomatch h⟩
        case hs => simp only [dL, List.cons_append, List.nil_append]; walk_at "c led"
  ·
    have fw0 : ((4 : Int) == 0) = false := rfl
    have fw1 : ((4 : Int) == 1) = false := rfl
    have fw2 : ((4 : Int) == 2) = false := rfl
    have fw3 : ((4 : Int) == 3) = false := rfl
    have fw4 : ((4 : Int) == 4) = true := rfl
    obtain ⟨wd, hwd, hE, hk⟩ := wl_get hgood ha
    obtain ⟨b1, u1, u2, u3, v4, m4, hv1, hm1, hd1⟩ := word_at D1 hwd
    obtain ⟨b2, g1, g2, g3, g4, g5, hv2, hm2, hd2⟩ := word_at D2 hwd
    have hok := goodE_ok hE
    repeat' ((fail_if_success (with_reducible show wpAny _ _ (call (Value.ref 239) _) _ _ _)); first | (k_unfold; (try dsimp only)) | (k_end; wrow_close) | walk1 | (dsimp only; walk1) | (leave1; walk_say "STEP leave1"; try dsimp only) | fail "no step")
    (try k_fold); k_dflt (refine' use_spec ?k1 ?k2 ?k3 ?k4 ?k5 ?k6 ?k7 (one_spec ?p1 ?p2 ?p3 ?p4) ?h1 ?h2 ?h3 ?h4 ?h5 ?_; walk_at "c use"; (case p1 => k_ne); (case p2 => with_reducible assumption); (case p3 => exact Nat.le_of_ble_eq_true rfl); (case p4 => exact Nat.le_of_ble_eq_true rfl); (case h3 => exact fun _ _ _ => trivial))
    intro v' h' tk' tl' F' N' ap' P'; obtain ⟨hmem, x3, y3, tx3, ty3, n3, hx3, htl'⟩ := P'; subst htl'; (simp only [List.cons_append, List.nil_append] at N'); clear ap'; (try k_sweep)
    obtain ⟨tt, tx4, e4, htt, hts⟩ := four_of hok.len hok.okt hmem
    subst e4
    have htab9 := htab
    rcases htab with hps | ⟨c', oc, cs, tq, hps, hcm, hoc, hcs⟩
    · subst hps
      repeat' ((fail_if_success (with_reducible show wpAny _ _ (call (Value.ref 260) _) _ _ _)); first | (k_unfold; (try dsimp only)) | (k_end; wrow_close) | walk1 | (dsimp only; walk1) | (leave1; walk_say "STEP leave1"; try dsimp only) | fail "no step")
      rename_i hA oA FA NA dA fN cN ocN csN tqN ctN hN tkN FN NN dN1 dN2 lN1 lN2
      clear FA NA
      have e290 : (#[] ++ #[rawInt ((230 : Nat) : Int), rawInt ((26 : Nat) : Int), Value.ref cN] : Array Value) = #[rawInt 230, rawInt 26, Value.ref cN] := rfl
      rw [e290] at NN
      simp only [envOfC] at NN dN2
      have aF : AllLt fN T := allLt_mono lN2 lN1.2.2.2.2.2.2.2.2.2.2.2
      rename Fr _ _ _ _ => F9
      rename News _ _ _ _ => N9
      (try k_fold); k_dflt (refine' use_specT B F9 X N9 TP OB ?k6 ?k7 (heard_lam (qual := lamQ) (p1 := (34, 38)) (p2 := (34, 45)) (p3 := (46, 50)) (p4 := (34, 51)) ?p1 ?p2 ?p3 ?p4 ?p5 ?p6 ?p7 ?p8 ?p9) ?h1 ?h2 ?h3 ?h4 ?h5 ?_)
      case k6 => exact rfl
      case k7 => exact rfl
      case p1 => exact hv1
      case p2 => first | with_reducible assumption | omega
      case p3 => first | with_reducible assumption | omega
      case p4 => exact htt
      case h1 => walk_at "c pre"
      case p5 => exact dN1
      case p6 => exact dN2
      case p7 => exact dh
      case p8 => exact dA
      case p9 => refine List.forall_mem_cons.mpr ⟨?_, List.forall_mem_cons.mpr ⟨?_, List.forall_mem_cons.mpr ⟨?_, List.forall_mem_nil _⟩⟩⟩ <;> refine List.forall_mem_cons.mpr ⟨?_, List.forall_mem_cons.mpr ⟨?_, List.forall_mem_cons.mpr ⟨?_, List.forall_mem_nil _⟩⟩⟩ <;> k_ne
      case h2 => walk_at "c part"
      case h3 => exact fun g' st' hr' => ⟨⟨_, _, _, _, _, hr' (b1, _) (by walk_at "c tailmem")⟩, hr' (cN, ocN) (by k_mem)⟩
      case h4 => walk_at "c dp"
      case h5 => walk_at "c un"
      intro v' h' tk' tl' gg T9 F' N' ap' P' B' X' TP' OB'
      clear F9 N9 B X TP OB
      have offn : OwnOff [(cN, ocN)] (T.map (·.1)) := by
        refine List.forall_mem_cons.mpr ⟨fun b hb => ?_, List.forall_mem_nil _⟩
        obtain ⟨q9, hq9, rfl⟩ := List.mem_map.mp hb
        exact Nat.ne_of_gt (allLt_mem lN1.2.2.2.2.2.2.2.2.2.2.2 q9 hq9)
      have offc : OwnOff [(cN, ocN)] [src, sa, wl, 290, x, d, r] := by
        refine List.forall_mem_cons.mpr ⟨?_, List.forall_mem_nil _⟩
        refine List.forall_mem_cons.mpr ⟨?_, List.forall_mem_cons.mpr ⟨?_, List.forall_mem_cons.mpr ⟨?_, List.forall_mem_cons.mpr ⟨?_, List.forall_mem_cons.mpr ⟨?_, List.forall_mem_cons.mpr ⟨?_, List.forall_mem_cons.mpr ⟨?_, List.forall_mem_nil _⟩⟩⟩⟩⟩⟩⟩ <;> k_ne
      rcases P' with ⟨ho, rfl, ta', rfl⟩ | ⟨ho, q, z1, z2, zn, rfl, rfl⟩
      · clear ap'
        simp only [lamL, wsL, List.cons_append, List.nil_append] at N'
        repeat' ((fail_if_success (with_reducible show wpAny _ _ (call (Value.ref 281) _) _ _ _)); first | (k_unfold; (try dsimp only)) | (k_end; wrow_close) | walk1 | (dsimp only; walk1) | (leave1; walk_say "STEP leave1"; try dsimp only) | fail "no step")
        (try k_fold); k_dflt (refine' use_spec ?k1 ?k2 ?k3 ?k4 ?k5 ?k6 ?k7 (expdue_spec ?p1 ?p2 ?p3 ?p4) ?h1 ?h2 ?h3 ?h4 ?h5 ?_; walk_at "c use"; (case p1 => exact hv2); (case p2 => first | with_reducible assumption | omega); (case p3 => first | with_reducible assumption | omega); (case p4 => k_ne); (case h3 => exact fun g' st' hr' => ⟨_, _, _, _, _, hr' (b2, _) (by walk_at "c tailmem")⟩))
        intro v' h' tk' tl' F' N' ap' P'
        clear ap'
        rcases P' with ⟨ho2, rfl, jn2, tb', rfl⟩ | ⟨ho2, -⟩
        · simp only [List.cons_append, List.nil_append] at N'
          (try k_sweep)
          repeat' ((fail_if_success (with_reducible show wpAny _ _ (compareOp _ _ _) _ _ _)); first | (k_unfold; (try dsimp only)) | (k_end; wrow_close) | walk1 | (dsimp only; walk1) | (leave1; walk_say "STEP leave1"; try dsimp only) | fail "no step")
          rename Fr _ _ _ _ => F9
          rename News _ _ _ _ => N9
          refine eq_same N9 (DatIn.mono ?sub hd1) (DatIn.mono ?sub hd2) hok.ok rfl ?hu ?_
          case sub => walk_at "c led"
          case hu => k_units
          have hlt := look_lt ho hk
          have e9 : (if (wd.k != Str.ofString "end") = true then a + 1 else a) = a + 1 := by rw [hk, decide_eq_true hlt]; rfl
          rw [e9] at N9
          refine' turn_end hret T9 F9 N9 ?hs ⟨rfl, ⟨x3, y3, tx3, ty3, n3, a + 1, ta', vs, c, tb', jn2, ws, c2, #[rawInt 230, rawInt 26, .ref cN], U, e⟩, [(cN, ocN)], rfl, ⟨hx3, hgood, hlt, D1.mono (fun q hq => List.mem_cons_of_mem _ hq), D2.mono (fun q hq => List.mem_cons_of_mem _ hq), .inr ⟨cN, ocN, csN, tqN, rfl, .head _, dN1, dN2⟩, kd_off (fun q hq b hb => off9 q hq b (List.mem_append_left [L9 + 1, L9 + 1 + 1] hb)) offc⟩, offn⟩
          case hs => simp only [dL, List.cons_append, List.nil_append]; walk_at "c led"
        · rw [ho] at ho2; cases ho2
      · have nq1 : Nq sa q := ap' (q, _) (.head _) (sa, _) (by k_mem)
        have nq2 : Nq wl q := ap' (q, _) (.head _) (wl, _) (by k_mem)
        clear ap'
        simp only [lamL, wsL, List.cons_append, List.nil_append] at N'
        repeat' ((fail_if_success (with_reducible show wpAny _ _ (call (Value.ref 281) _) _ _ _)); first | (k_unfold; (try dsimp only)) | (k_end; wrow_close) | walk1 | (dsimp only; walk1) | (leave1; walk_say "STEP leave1"; try dsimp only) | fail "no step")
        (try k_fold); k_dflt (refine' use_spec ?k1 ?k2 ?k3 ?k4 ?k5 ?k6 ?k7 (expdue_spec ?p1 ?p2 ?p3 ?p4) ?h1 ?h2 ?h3 ?h4 ?h5 ?_; walk_at "c use"; (case p1 => exact hv2); (case p2 => first | with_reducible assumption | omega); (case p3 => first | with_reducible assumption | omega); (case p4 => k_ne); (case h3 => exact fun g' st' hr' => ⟨_, _, _, _, _, hr' (b2, _) (by walk_at "c tailmem")⟩))
        intro v' h' tk' tl' F' N' ap' P'
        clear ap'
        rcases P' with ⟨ho2, -⟩ | ⟨ho2, q2, j1, j2, jn, rfl, rfl⟩
        · rw [ho] at ho2; cases ho2
        · simp only [List.cons_append, List.nil_append] at N'
          (try k_sweep)
          repeat' ((fail_if_success (with_reducible show wpAny _ _ (compareOp _ _ _) _ _ _)); first | (k_unfold; (try dsimp only)) | (k_end; wrow_close) | walk1 | (dsimp only; walk1) | (leave1; walk_say "STEP leave1"; try dsimp only) | fail "no step")
          rename Fr _ _ _ _ => F9
          rename News _ _ _ _ => N9
          refine eq_same N9 (d := .tuple [.str (Str.ofString "refused"), .int wd.pos]) (e := .tuple [.str (Str.ofString "refused"), .int wd.pos]) (dat2_in z1 z2 zn ?m1) (dat2_in j1 j2 jn ?m2) (dat2_ok (by decide +kernel)) rfl ?hu ?_
          case m1 => k_mem
          case m2 => k_mem
          case hu => k_units
          refine' turn_end hret T9 F9 N9 ?hs ⟨rfl, ⟨x3, y3, tx3, ty3, n3, a, ta, vs, c, tb, m2, ws, c2, #[rawInt 230, rawInt 26, .ref cN], U, e⟩, [(cN, ocN)], rfl, ⟨hx3, hgood, ha, D1.mono (fun q hq => List.mem_cons_of_mem _ hq), D2.mono (fun q hq => List.mem_cons_of_mem _ hq), .inr ⟨cN, ocN, csN, tqN, rfl, .head _, dN1, dN2⟩, kd_off (fun q hq b hb => off9 q hq b (List.mem_append_left [L9 + 1, L9 + 1 + 1] hb)) offc⟩, offn⟩
          case hs => simp only [dL, List.cons_append, List.nil_append]; walk_at "c led"
    · subst hps
      repeat' ((fail_if_success (with_reducible show wpAny _ _ (call (Value.ref 260) _) _ _ _)); first | (k_unfold; (try dsimp only)) | (k_end; wrow_close) | walk1 | (dsimp only; walk1) | (leave1; walk_say "STEP leave1"; try dsimp only) | fail "no step")
      rename_i hA oA FA NA dA fN ctN hN tkN FN NN lN1
      clear FA NA
      simp only [envOfC] at NN
      have nc1 : Nq x c' := Ne.symm (off9 _ hcm x (by k_memK))
      have nc2 : Nq d c' := Ne.symm (off9 _ hcm d (by k_memK))
      have nc3 : Nq r c' := Ne.symm (off9 _ hcm r (by k_memK))
      rename Fr _ _ _ _ => F9
      rename News _ _ _ _ => N9
      (try k_fold); k_dflt (refine' use_specT B F9 X N9 TP OB ?k6 ?k7 (heard_lam (qual := lamQ) (p1 := (34, 38)) (p2 := (34, 45)) (p3 := (46, 50)) (p4 := (34, 51)) ?p1 ?p2 ?p3 ?p4 ?p5 ?p6 ?p7 ?p8 ?p9) ?h1 ?h2 ?h3 ?h4 ?h5 ?_)
      case k6 => exact rfl
      case k7 => exact rfl
      case p1 => exact hv1
      case p2 => first | with_reducible assumption | omega
      case p3 => first | with_reducible assumption | omega
      case p4 => exact htt
      case h1 => walk_at "c pre"
      case p5 => exact hoc
      case p6 => exact hcs
      case p7 => exact dh
      case p8 => exact dA
      case p9 => refine List.forall_mem_cons.mpr ⟨?_, List.forall_mem_cons.mpr ⟨?_, List.forall_mem_cons.mpr ⟨?_, List.forall_mem_nil _⟩⟩⟩ <;> refine List.forall_mem_cons.mpr ⟨?_, List.forall_mem_cons.mpr ⟨?_, List.forall_mem_cons.mpr ⟨?_, List.forall_mem_nil _⟩⟩⟩ <;> k_ne
      case h2 => walk_at "c part"
      case h3 => exact fun g' st' hr' => ⟨⟨_, _, _, _, _, hr' (b1, _) (by walk_at "c tailmem")⟩, hr' (c', oc) (by walk_at "c tailmem")⟩
      case h4 => walk_at "c dp"
      case h5 => walk_at "c un"
      intro v' h' tk' tl' gg T9 F' N' ap' P' B' X' TP' OB'
      clear F9 N9 B X TP OB
      rcases P' with ⟨ho, rfl, ta', rfl⟩ | ⟨ho, q, z1, z2, zn, rfl, rfl⟩
      · clear ap'
        simp only [lamL, wsL, List.cons_append, List.nil_append] at N'
        repeat' ((fail_if_success (with_reducible show wpAny _ _ (call (Value.ref 281) _) _ _ _)); first | (k_unfold; (try dsimp only)) | (k_end; wrow_close) | walk1 | (dsimp only; walk1) | (leave1; walk_say "STEP leave1"; try dsimp only) | fail "no step")
        (try k_fold); k_dflt (refine' use_spec ?k1 ?k2 ?k3 ?k4 ?k5 ?k6 ?k7 (expdue_spec ?p1 ?p2 ?p3 ?p4) ?h1 ?h2 ?h3 ?h4 ?h5 ?_; walk_at "c use"; (case p1 => exact hv2); (case p2 => first | with_reducible assumption | omega); (case p3 => first | with_reducible assumption | omega); (case p4 => k_ne); (case h3 => exact fun g' st' hr' => ⟨_, _, _, _, _, hr' (b2, _) (by walk_at "c tailmem")⟩))
        intro v' h' tk' tl' F' N' ap' P'
        clear ap'
        rcases P' with ⟨ho2, rfl, jn2, tb', rfl⟩ | ⟨ho2, -⟩
        · simp only [List.cons_append, List.nil_append] at N'
          (try k_sweep)
          repeat' ((fail_if_success (with_reducible show wpAny _ _ (compareOp _ _ _) _ _ _)); first | (k_unfold; (try dsimp only)) | (k_end; wrow_close) | walk1 | (dsimp only; walk1) | (leave1; walk_say "STEP leave1"; try dsimp only) | fail "no step")
          rename Fr _ _ _ _ => F9
          rename News _ _ _ _ => N9
          refine eq_same N9 (DatIn.mono ?sub hd1) (DatIn.mono ?sub hd2) hok.ok rfl ?hu ?_
          case sub => walk_at "c led"
          case hu => k_units
          have hlt := look_lt ho hk
          have e9 : (if (wd.k != Str.ofString "end") = true then a + 1 else a) = a + 1 := by rw [hk, decide_eq_true hlt]; rfl
          rw [e9] at N9
          refine' turn_end hret T9 F9 N9 ?hs ⟨rfl, ⟨x3, y3, tx3, ty3, n3, a + 1, ta', vs, c, tb', jn2, ws, c2, #[rawInt 230, rawInt 26, .ref c'], U, e⟩, [], rfl, ⟨hx3, hgood, hlt, D1, D2, htab9, fun q hq b hb => off9 q hq b (List.mem_append_left [L9 + 1, L9 + 1 + 1] hb)⟩, fun _ h => nomatch h⟩
          case hs => simp only [dL, List.cons_append, List.nil_append]; walk_at "c led"
        · rw [ho] at ho2; cases ho2
      · have nq1 : Nq sa q := ap' (q, _) (.head _) (sa, _) (by k_mem)
        have nq2 : Nq wl q := ap' (q, _) (.head _) (wl, _) (by k_mem)
        clear ap'
        simp only [lamL, wsL, List.cons_append, List.nil_append] at N'
        repeat' ((fail_if_success (with_reducible show wpAny _ _ (call (Value.ref 281) _) _ _ _)); first | (k_unfold; (try dsimp only)) | (k_end; wrow_close) | walk1 | (dsimp only; walk1) | (leave1; walk_say "STEP leave1"; try dsimp only) | fail "no step")
        (try k_fold); k_dflt (refine' use_spec ?k1 ?k2 ?k3 ?k4 ?k5 ?k6 ?k7 (expdue_spec ?p1 ?p2 ?p3 ?p4) ?h1 ?h2 ?h3 ?h4 ?h5 ?_; walk_at "c use"; (case p1 => exact hv2); (case p2 => first | with_reducible assumption | omega); (case p3 => first | with_reducible assumption | omega); (case p4 => k_ne); (case h3 => exact fun g' st' hr' => ⟨_, _, _, _, _, hr' (b2, _) (by walk_at "c tailmem")⟩))
        intro v' h' tk' tl' F' N' ap' P'
        clear ap'
        rcases P' with ⟨ho2, -⟩ | ⟨ho2, q2, j1, j2, jn, rfl, rfl⟩
        · rw [ho] at ho2; cases ho2
        · simp only [List.cons_append, List.nil_append] at N'
          (try k_sweep)
          repeat' ((fail_if_success (with_reducible show wpAny _ _ (compareOp _ _ _) _ _ _)); first | (k_unfold; (try dsimp only)) | (k_end; wrow_close) | walk1 | (dsimp only; walk1) | (leave1; walk_say "STEP leave1"; try dsimp only) | fail "no step")
          rename Fr _ _ _ _ => F9
          rename News _ _ _ _ => N9
          refine eq_same N9 (d := .tuple [.str (Str.ofString "refused"), .int wd.pos]) (e := .tuple [.str (Str.ofString "refused"), .int wd.pos]) (dat2_in z1 z2 zn ?m1) (dat2_in j1 j2 jn ?m2) (dat2_ok (by decide +kernel)) rfl ?hu ?_
          case m1 => k_mem
          case m2 => k_mem
          case hu => k_units
          refine' turn_end hret T9 F9 N9 ?hs ⟨rfl, ⟨x3, y3, tx3, ty3, n3, a, ta, vs, c, tb, m2, ws, c2, #[rawInt 230, rawInt 26, .ref c'], U, e⟩, [], rfl, ⟨hx3, hgood, ha, D1, D2, htab9, fun q hq b hb => off9 q hq b (List.mem_append_left [L9 + 1, L9 + 1 + 1] hb)⟩, fun _ h => nomatch h⟩
          case hs => simp only [dL, List.cons_append, List.nil_append]; walk_at "c led"
  ·
    have fw0 : (w == 0) = false := by rw [beq_eq_false_iff_ne]; omega
    have fw1 : (w == 1) = false := by rw [beq_eq_false_iff_ne]; omega
    have fw2 : (w == 2) = false := by rw [beq_eq_false_iff_ne]; omega
    have fw3 : (w == 3) = false := by rw [beq_eq_false_iff_ne]; omega
    have fw4 : (w == 4) = false := by rw [beq_eq_false_iff_ne]; omega
    obtain ⟨wd, hwd, hE, hk⟩ := wl_get hgood ha
    obtain ⟨b1, u1, u2, u3, v4, m4, hv1, hm1, hd1⟩ := word_at D1 hwd
    obtain ⟨b2, g1, g2, g3, g4, g5, hv2, hm2, hd2⟩ := word_at D2 hwd
    have hok := goodE_ok hE
    have hcl : closeDue wd = closeB wd := hok.close.symm
    repeat' ((fail_if_success (with_reducible show wpAny _ _ (call (Value.ref 260) _) _ _ _)); first | (k_unfold; (try dsimp only)) | (k_end; wrow_close) | walk1 | (dsimp only; walk1) | (leave1; walk_say "STEP leave1"; try dsimp only) | fail "no step")
    rename Fr _ _ _ _ => F9
    rename News _ _ _ _ => N9
    (try k_fold); k_dflt (refine' use_specT B F9 X N9 TP OB ?k6 ?k7 (heard_close ?p1 ?p2 ?p3 ?p4 ?p5) ?h1 ?h2 ?h3 ?h4 ?h5 ?_)
    case k6 => exact rfl
    case k7 => exact rfl
    case p1 => exact hv1
    case p2 => first | with_reducible assumption | omega
    case p3 => first | with_reducible assumption | omega
    case p4 => exact hok.len
    case p5 => exact hok.pos
    case h1 => walk_at "c pre"
    case h2 => walk_at "c part"
    case h3 => exact fun g' st' hr' => ⟨_, _, _, _, _, hr' (b1, _) (by walk_at "c tailmem")⟩
    case h4 => walk_at "c dp"
    case h5 => walk_at "c un"
    intro v' h' tk' tl' gg T9 F' N' ap' P' B' X' TP' OB'
    clear F9 N9 B X TP OB
    rcases P' with ⟨ho, q, z1, z2, z3, zn, rfl, ⟨he, ta', rfl⟩ | ⟨he, zz, zy1, zy2, zy3, zn2, rfl, zq⟩⟩ | ⟨ho, q, z1, z2, zn, rfl, rfl⟩
    · have nq1 : Nq sa q := ap' (q, _) (.head _) (sa, _) (by k_mem)
      have nq2 : Nq wl q := ap' (q, _) (.head _) (wl, _) (by k_mem)
      clear ap'
      simp only [wsL, List.cons_append, List.nil_append] at N'
      repeat' ((fail_if_success (with_reducible show wpAny _ _ (call (Value.ref 288) _) _ _ _)); first | (k_unfold; (try dsimp only)) | (k_end; wrow_close) | walk1 | (dsimp only; walk1) | (leave1; walk_say "STEP leave1"; try dsimp only) | fail "no step")
      (try k_fold); k_dflt (refine' use_spec ?k1 ?k2 ?k3 ?k4 ?k5 ?k6 ?k7 (closedue_spec ?p1 ?p2 ?p3 ?p4 ?p5 ?p6 ?p7) ?h1 ?h2 ?h3 ?h4 ?h5 ?_; walk_at "c use"; (case p1 => exact hv2); (case p2 => first | with_reducible assumption | omega); (case p3 => first | with_reducible assumption | omega); (case p4 => k_ne); (case p5 => exact hok.len); (case p6 => exact hok.sign); (case p7 => exact hok.pos); (case h3 => exact fun g' st' hr' => ⟨_, _, _, _, _, hr' (b2, _) (by walk_at "c tailmem")⟩))
      intro v' h' tk' tl' F' N' ap' P'
      clear ap'
      rcases P' with ⟨ho2, q2, j1, j2, j3, jn, rfl, ⟨he2, jn2, tb', rfl⟩ | ⟨he2, -⟩⟩ | ⟨ho2, -⟩
      · simp only [List.cons_append, List.nil_append] at N'
        (try k_sweep)
        repeat' ((fail_if_success (with_reducible show wpAny _ _ (compareOp _ _ _) _ _ _)); first | (k_unfold; (try dsimp only)) | (k_end; wrow_close) | walk1 | (dsimp only; walk1) | (leave1; walk_say "STEP leave1"; try dsimp only) | fail "no step")
        rename Fr _ _ _ _ => F9
        rename News _ _ _ _ => N9
        refine eq_same N9 (d := Wd.dat ⟨Str.ofString "sign", Str.ofString ">", wd.pos, false⟩) (e := Wd.dat ⟨Str.ofString "sign", Str.ofString ">", wd.pos, false⟩) (dat5_in z1 z2 z3 zn ?m1) (dat5_in j1 j2 j3 jn ?m2) (gt_ok _) rfl ?hu ?_
        case m1 => k_mem
        case m2 => k_mem
        case hu => k_units
        refine' turn_end hret T9 F9 N9 ?hs ⟨rfl, ⟨x1, y1, tx1, ty1, n1, a + 1, ta', vs, c, tb', jn2, ws, c2, ps, U, e⟩, [], rfl, ⟨hx1, hgood, close_lt ho hk, D1, D2, htab, fun q hq b hb => off9 q hq b (List.mem_append_left [L9 + 1, L9 + 1 + 1] hb)⟩, fun _ h => nomatch h⟩
        case hs => simp only [dL, List.cons_append, List.nil_append]; walk_at "c led"
      · rw [he] at he2; cases he2
      · rw [hcl, ho] at ho2; cases ho2
    · have nq1 : Nq sa q := ap' (q, _) (.head _) (sa, _) (by k_mem)
      have nq2 : Nq wl q := ap' (q, _) (.head _) (wl, _) (by k_mem)
      have nq3 : Nq sa zz := ap' (zz, _) (.tail _ (.head _)) (sa, _) (by k_mem)
      have nq4 : Nq wl zz := ap' (zz, _) (.tail _ (.head _)) (wl, _) (by k_mem)
      have zT : ∀ p ∈ T, @Ne Nat p.1 zz := fun p hp => ap' (zz, _) (.tail _ (.head _)) p (by walk_at "c tailmem")
      clear ap'
      simp only [wsL, List.cons_append, List.nil_append] at N'
      repeat' ((fail_if_success (with_reducible show wpAny _ _ (call (Value.ref 288) _) _ _ _)); first | (k_unfold; (try dsimp only)) | (k_end; wrow_close) | walk1 | (dsimp only; walk1) | (leave1; walk_say "STEP leave1"; try dsimp only) | fail "no step")
      (try k_fold); k_dflt (refine' use_spec ?k1 ?k2 ?k3 ?k4 ?k5 ?k6 ?k7 (closedue_spec ?p1 ?p2 ?p3 ?p4 ?p5 ?p6 ?p7) ?h1 ?h2 ?h3 ?h4 ?h5 ?_; walk_at "c use"; (case p1 => exact hv2); (case p2 => first | with_reducible assumption | omega); (case p3 => first | with_reducible assumption | omega); (case p4 => k_ne); (case p5 => exact hok.len); (case p6 => exact hok.sign); (case p7 => exact hok.pos); (case h3 => exact fun g' st' hr' => ⟨_, _, _, _, _, hr' (b2, _) (by walk_at "c tailmem")⟩))
      intro v' h' tk' tl' F' N' ap' P'
      rcases P' with ⟨ho2, q2, j1, j2, j3, jn, rfl, ⟨he2, -⟩ | ⟨he2, jz, jy1, jy2, jy3, jn3, rfl⟩⟩ | ⟨ho2, -⟩
      · rw [he] at he2; cases he2
      · have jT : ∀ p ∈ T, @Ne Nat p.1 jz := fun p hp => ap' (jz, _) (.tail _ (.head _)) p (by walk_at "c tailmem")
        clear ap'
        simp only [List.cons_append, List.nil_append] at N'
        (try k_sweep)
        repeat' ((fail_if_success (with_reducible show wpAny _ _ (compareOp _ _ _) _ _ _)); first | (k_unfold; (try dsimp only)) | (k_end; wrow_close) | walk1 | (dsimp only; walk1) | (leave1; walk_say "STEP leave1"; try dsimp only) | fail "no step")
        rename Fr _ _ _ _ => F9
        rename News _ _ _ _ => N9
        refine eq_same N9 (d := Wd.dat ⟨Str.ofString "sign", Str.ofString ">", wd.pos, false⟩) (e := Wd.dat ⟨Str.ofString "sign", Str.ofString ">", wd.pos, false⟩) (dat5_in z1 z2 z3 zn ?m1) (dat5_in j1 j2 j3 jn ?m2) (gt_ok _) rfl ?hu ?_
        case m1 => k_mem
        case m2 => k_mem
        case hu => k_units
        have hlt := close_lt ho hk
        have offz : OwnOff [(zz, wordO (restW wd) zy1 zy2 zy3 .none zn2), (jz, wordO (restW wd) jy1 jy2 jy3 .none jn3)] [src, sa, wl, 290, x, d, r] := by
          refine own_of_tups N9 (TupLed.cons rfl (TupLed.cons rfl TupLed.nil)) ?s1 ?s2
          case s1 => walk_at "c led"
          case s2 =>
            refine List.forall_mem_cons.mpr ⟨⟨_, by k_mem, by walk_at "c cls"⟩, List.forall_mem_cons.mpr ⟨⟨_, by k_mem, by walk_at "c cls"⟩, List.forall_mem_cons.mpr ⟨⟨_, by k_mem, by walk_at "c cls"⟩, List.forall_mem_cons.mpr ⟨⟨_, by k_mem, by walk_at "c cls"⟩, List.forall_mem_cons.mpr ⟨⟨_, by k_mem, by walk_at "c cls"⟩, List.forall_mem_cons.mpr ⟨⟨_, by k_mem, by walk_at "c cls"⟩, List.forall_mem_cons.mpr ⟨⟨_, by k_mem, by walk_at "c cls"⟩, List.forall_mem_nil _⟩⟩⟩⟩⟩⟩⟩
        have offn : OwnOff [(zz, wordO (restW wd) zy1 zy2 zy3 .none zn2), (jz, wordO (restW wd) jy1 jy2 jy3 .none jn3)] (T.map (·.1)) := by
          refine List.forall_mem_cons.mpr ⟨fun b hb => ?_, List.forall_mem_cons.mpr ⟨fun b hb => ?_, List.forall_mem_nil _⟩⟩
          · obtain ⟨q9, hq9, rfl⟩ := List.mem_map.mp hb
            exact Ne.symm (zT q9 hq9)
          · obtain ⟨q9, hq9, rfl⟩ := List.mem_map.mp hb
            exact Ne.symm (jT q9 hq9)
        have DZ : ∀ {vv : List Value} (z : Addr) (i1 i2 i3 : Tok) (i4 : Nat), (z, wordO (restW wd) i1 i2 i3 .none i4) ∈ (zz, wordO (restW wd) zy1 zy2 zy3 .none zn2) :: (jz, wordO (restW wd) jy1 jy2 jy3 .none jn3) :: T → DatAll T vv ((wl_ U e).map Wd.dat) →
            DatAll ((zz, wordO (restW wd) zy1 zy2 zy3 .none zn2) :: (jz, wordO (restW wd) jy1 jy2 jy3 .none jn3) :: T) (vv.set a (.ref z)) ((wl_ (U.set a (restW wd)) e).map Wd.dat) := by
          intro vv z i1 i2 i3 i4 hz Dv
          rw [← wl_set hlt, List.map_set]
          exact DatAll.set a (DatAll.mono (fun q hq => List.mem_cons_of_mem _ (List.mem_cons_of_mem _ hq)) Dv) (dat5_in i1 i2 i3 i4 hz)
        refine' turn_end hret T9 F9 N9 ?hs ⟨rfl, ⟨x1, y1, tx1, ty1, n1, a, ta, vs.set a (.ref zz), c, tb, m2, ws.set a (.ref jz), c2, ps, U.set a (restW wd), e⟩, [(zz, wordO (restW wd) zy1 zy2 zy3 .none zn2), (jz, wordO (restW wd) jy1 jy2 jy3 .none jn3)], rfl, ⟨hx1, good_set hgood (good_rest hE ho he), by rw [List.length_set]; exact ha, DZ _ _ _ _ _ (.head _) D1, DZ _ _ _ _ _ (.tail _ (.head _)) D2, htab.mono (fun q hq => List.mem_cons_of_mem _ (List.mem_cons_of_mem _ hq)), kd_off (fun q hq b hb => off9 q hq b (List.mem_append_left [L9 + 1, L9 + 1 + 1] hb)) offz⟩, offn⟩
        case hs => simp only [dL, List.cons_append, List.nil_append]; walk_at "c led"
      · rw [hcl, ho] at ho2; cases ho2
    · have nq1 : Nq sa q := ap' (q, _) (.head _) (sa, _) (by k_mem)
      have nq2 : Nq wl q := ap' (q, _) (.head _) (wl, _) (by k_mem)
      clear ap'
      simp only [wsL, List.cons_append, List.nil_append] at N'
      repeat' ((fail_if_success (with_reducible show wpAny _ _ (call (Value.ref 288) _) _ _ _)); first | (k_unfold; (try dsimp only)) | (k_end; wrow_close) | walk1 | (dsimp only; walk1) | (leave1; walk_say "STEP leave1"; try dsimp only) | fail "no step")
      (try k_fold); k_dflt (refine' use_spec ?k1 ?k2 ?k3 ?k4 ?k5 ?k6 ?k7 (closedue_spec ?p1 ?p2 ?p3 ?p4 ?p5 ?p6 ?p7) ?h1 ?h2 ?h3 ?h4 ?h5 ?_; walk_at "c use"; (case p1 => exact hv2); (case p2 => first | with_reducible assumption | omega); (case p3 => first | with_reducible assumption | omega); (case p4 => k_ne); (case p5 => exact hok.len); (case p6 => exact hok.sign); (case p7 => exact hok.pos); (case h3 => exact fun g' st' hr' => ⟨_, _, _, _, _, hr' (b2, _) (by walk_at "c tailmem")⟩))
      intro v' h' tk' tl' F' N' ap' P'
      clear ap'
      rcases P' with ⟨ho2, -⟩ | ⟨ho2, q2, j1, j2, jn, rfl, rfl⟩
      · rw [hcl, ho] at ho2; cases ho2
      · simp only [List.cons_append, List.nil_append] at N'
        (try k_sweep)
        repeat' ((fail_if_success (with_reducible show wpAny _ _ (compareOp _ _ _) _ _ _)); first | (k_unfold; (try dsimp only)) | (k_end; wrow_close) | walk1 | (dsimp only; walk1) | (leave1; walk_say "STEP leave1"; try dsimp only) | fail "no step")
        rename Fr _ _ _ _ => F9
        rename News _ _ _ _ => N9
        refine eq_same N9 (d := .tuple [.str (Str.ofString "refused"), .int wd.pos]) (e := .tuple [.str (Str.ofString "refused"), .int wd.pos]) (dat2_in z1 z2 zn ?m1) (dat2_in j1 j2 jn ?m2) (dat2_ok (by decide +kernel)) rfl ?hu ?_
        case m1 => k_mem
        case m2 => k_mem
        case hu => k_units
        refine' turn_end hret T9 F9 N9 ?hs ⟨rfl, ⟨x1, y1, tx1, ty1, n1, a, ta, vs, c, tb, m2, ws, c2, ps, U, e⟩, [], rfl, ⟨hx1, hgood, ha, D1, D2, htab, fun q hq b hb => off9 q hq b (List.mem_append_left [L9 + 1, L9 + 1 + 1] hb)⟩, fun _ h => nomatch h⟩
        case hs => simp only [dL, List.cons_append, List.nil_append]; walk_at "c led"
end
-- Law
section
theorem rows_Law : hd.heap_39 = hd.heap_39 := by
  k_with_none
  k_with "subscriptTail Name Constant ref int" => ((k_here; (with_reducible show wpAny _ _ (subscriptTail _ _ (Value.ref _) (Value.int _ _)) _ _ _); (with_unfolding_all refine item_litK (by is_list) (by decide) (by decide) (by rfl) ?_ (by with_unfolding_all rfl))))
  k_with "binaryOp Mult int int" => (refine mul_int ?_ (IntMulOk.of_left (intBits_fmod (by decide) (by decide))))
  k_with "k_room" => (((try simp only [depth_mark, depth_under_make, depth_under_kw, depth_in1, depth_deeper, depth_caller]); (simp only [recursionLimit]; omega)))
  k_with "k_units" => (((try simp only [units_in1, units_deeper, Around.mark_units, units_caller]); (try dsimp only); first | exact line_of (by with_reducible assumption) (by exact Nat.le_of_ble_eq_true rfl) | (have hcL9 := cLine_is; omega)))
  k_with "k_in" => (exact Frag.In.keeps (by with_reducible assumption) (Fr.keep (by with_reducible assumption)))
  k_with "k_ne" => ((refine neN ?_; (try dsimp only); first | exact Nat.ne_of_lt (by k_extra "c lt") | exact Nat.ne_of_gt (by k_extra "c lt") | exact ne_l1 (by k_extra "c lt") | exact ne_l2 (by k_extra "c lt") | exact ne_r1 (by k_extra "c lt") | exact ne_r2 (by k_extra "c lt") | omega))
  k_with "c use" => (((case k1 => k_asm); (case k2 => k_asm); (case k3 => k_asm); (case k4 => k_asm); (case k5 => k_asm); (case k6 => exact rfl); (case k7 => exact rfl); (case h1 => k_extra "c pre"); (case h2 => k_extra "c part"); (case h4 => k_extra "c dp"); (case h5 => k_extra "c un")))
  k_with "until iter" => (repeat' ((fail_if_success (with_reducible show wpAny _ _ (pyIter _) _ _ _)); first | (k_unfold; (try dsimp only)) | (k_end; wrow_close) | walk1 | (dsimp only; walk1) | (leave1; walk_say "STEP leave1"; try dsimp only) | fail "no step"))
  k_with "until while" => (repeat' ((fail_if_success (with_reducible show wpAny _ _ (exec (Stmt.While _ _ _ _) _) _ _ _)); first | (k_unfold; (try dsimp only)) | (k_end; wrow_close) | walk1 | (dsimp only; walk1) | (leave1; walk_say "STEP leave1"; try dsimp only) | fail "no step"))
  k_with "until kswend" => (repeat' ((fail_if_success (with_reducible show KswEnd _ _ _ _ _ _ _ _ _ _ _ _)); first | (k_unfold; (try dsimp only)) | (k_end; wrow_close) | walk1 | (dsimp only; walk1) | (leave1; walk_say "STEP leave1"; try dsimp only) | fail "no step"))
  k_with "ite" => ((k_closed; first | with_reducible refine ite_pos (by decide) ?_ | with_reducible refine ite_neg (by decide) ?_))
  k_with "subscriptTail Call" => ((k_here; k_dflt (refine kba_turn (value' := PySem.Expr.Name (PySem.Str.ofString "_") ⟨0, 0, 0, 0⟩) (fun _ => rfl) ?_)))
  k_with "subscriptTail Subscript" => ((k_here; (first | (with_reducible show wpAny _ _ (subscriptTail _ _ (Value.ref _) _) _ _ _) | (with_reducible show wpAny _ _ (subscriptTail _ _ (Value.str _ _) (Value.ref _)) _ _ _)); k_dflt (refine kba_turn (value' := PySem.Expr.Name (PySem.Str.ofString "_") ⟨0, 0, 0, 0⟩) (fun _ => rfl) ?_)))
  k_with "c dp" => (((try dsimp only); first | exact dp_of (by with_reducible assumption) (by exact Nat.le_of_ble_eq_true rfl) | exact dp_of1 (by with_reducible assumption) (by exact Nat.le_of_ble_eq_true rfl) | omega))
  k_with "c un" => (((try dsimp only); first | exact un_of (by with_reducible assumption) (by exact Nat.le_of_ble_eq_true rfl) | exact un_of1 (by with_reducible assumption) (by exact Nat.le_of_ble_eq_true rfl) | omega))
  k_with "c a" => (with_reducible assumption)
  k_with "c lt" => (first | with_reducible assumption | exact a0 (by k_extra "c a") | exact a1 (by k_extra "c a") | exact a2 (by k_extra "c a") | exact a3 (by k_extra "c a") | exact a4 (by k_extra "c a") | exact a5 (by k_extra "c a") | exact a6 (by k_extra "c a") | exact a7 (by k_extra "c a") | exact a8 (by k_extra "c a") | exact a9 (by k_extra "c a") | exact a10 (by k_extra "c a") | exact a11 (by k_extra "c a") | exact a12 (by k_extra "c a") | exact a13 (by k_extra "c a"))
  k_with "c p" => (first | with_reducible assumption | k_ne | exact Nat.le_of_ble_eq_true rfl | decide | omega | assumption | exact rfl)
  k_with "c ro" => (first | exact fun _ _ _ => trivial | (intro g' st' hr'; have hro9 := st' _ _ (by with_reducible assumption); exact ⟨_, _, _, _, _, hro9⟩))
  k_with "c fin2" => (((try case p1 => k_extra "c p"); (try case p2 => k_extra "c p"); (try case p3 => k_extra "c p"); (try case p4 => k_extra "c p"); (try case p5 => k_extra "c p"); (case h3 => k_extra "c ro"); k_whole))
  k_with "c fin" => ((k_extra "c use"; k_extra "c fin2"))
  k_with "c enter" => ((refine spec_enter (by assumption) (by assumption) (by assumption) (by assumption) (by assumption) (by assumption) (by k_is) (by k_is) (by first | exact room_of (by with_reducible assumption) | (simp only [recursionLimit]; omega)) (by first | exact BindsTo.of_eq rfl | exact binds_K (Frag.In.keeps (by assumption) (by assumption)) rfl (by k_is) rfl rfl rfl) (by exact locs rfl) ?_ (by exact rfl) (by exact rfl) (by exact rfl) (by decide); intro _ _ _ _; (try dsimp only); (try k_fold)))
  k_with "c part" => (first | exact Part.nil | (apply Part.out; (· k_mem); (· k_extra "c part")) | (apply Part.stay; (· k_all); (· k_extra "c part")) | (refine part_tail ?_; k_extra "c tail"))
  k_with "c tail" => (first | exact List.forall_mem_nil _ | (refine List.forall_mem_cons.mpr ⟨?_, ?_⟩; (· k_extra "c apart"); (· k_extra "c tail")))
  k_with "c apart" => (first | exact OwnOff.ne (by assumption) (by k_memK) | (refine allLt_apart ?_; k_extra "c conj"))
  k_with "c conj" => (first | assumption | exact And.right (by k_extra "c conj"))
  k_with "c adr" => (first | exact List.forall_mem_nil _ | (refine List.forall_mem_cons.mpr ⟨?_, ?_⟩; (· k_memK); (· k_extra "c adr")))
  k_with "c pre" => (first | exact List.forall_mem_nil _ | (refine List.forall_mem_cons.mpr ⟨?_, ?_⟩; (· k_mem); (· k_extra "c pre")))
  k_with "call builtin:len" => ((k_here; (with_reducible show wpAny _ _ (call (Value.builtin "len") [Value.ref _]) _ _ _); (with_unfolding_all refine len_mine (by is_list) (by (first | omega | (simp only [List.length_cons, List.length_nil, List.length_append]; omega))) ?_)))
  k_with "subscriptTail" => ((k_here; (with_reducible show wpAny _ _ (subscriptTail _ _ (Value.ref _) (Value.int _ _)) _ _ _); (with_unfolding_all refine item_open (by is_list) (by omega) (by omega) (by omega) ?_ (by with_unfolding_all rfl)); intro _ _ _))
  k_with "call type:range" => ((k_here; (with_reducible show wpAny _ _ (call _ [_]) _ _ _); (with_unfolding_all refine range1_rows (by k_asm) (by k_asm) ?_); intro _ _ _ _ _ _ _ _ _; (try k_sweep)))
  k_with "call builtin:list.append" => ((k_here; (with_reducible show wpAny _ _ (call (Value.builtin _) [Value.ref _, _]) _ _ _); k_dflt (refine append_K (by k_asm) (by k_asm) (by k_upd) ?_ (by first | exact small_size (by assumption) | size_fits)); intro _ _ _; (try k_sweep)))
  k_with "binaryOp Add str str" => ((k_here; (refine add_mine ?_ (by (first | omega | (simp only [Str.length_append]; omega))) (by (first | omega | (simp only [Str.length_append]; omega)))); intro _ _))
  k_with "call type:list" => ((k_here; (with_reducible show wpAny _ _ (call (Value.type "list") [Value.ref _]) _ _ _); k_dflt (refine list_mine (by k_asm) (by k_asm) (by k_mem) (by omega) ?_); intro _ _ _ _ _ l9; (try k_lt l9); (try (revert l9; intro _)); (try k_sweep)))
  k_with "callWith ref" => ((k_here; k_dflt (first | refine callWith_K (by with_reducible assumption) (by k_is) ?_ | refine callWith_K0 (by k_in) (by k_is) ?_)))
  k_with "subscriptTail" => (k_here; (with_reducible show wpAny _ _ (subscriptTail _ _ (Value.str _ _) (Value.int _ _)) _ _ _); (refine item_known (by with_reducible assumption) (by omega) (by omega) (by assumption) ?_ (by with_unfolding_all rfl) (by intro _; with_unfolding_all rfl)); (try dsimp only))
  k_with "subscriptTail Name Name str int" => k_extra "subscriptTail"
  k_with "subscriptTail Name BinOp str int" => k_extra "subscriptTail"
  k_with "compareOp In str str" => (k_here; first | refine in_b (by with_reducible assumption) ?_ | refine in_b (b := true) (by decide +kernel) ?_ | refine in_b (b := false) (by decide +kernel) ?_)
  k_with "compareOp Eq str str" => (k_here; first | refine eq_b (by with_reducible assumption) ?_ | refine eq_b (b := true) (by decide +kernel) ?_ | refine eq_b (b := false) (by decide +kernel) ?_)
  k_with "compareOp NotEq str str" => (k_here; first | refine ne_b (by with_reducible assumption) ?_ | refine ne_b (b := true) (by decide +kernel) ?_ | refine ne_b (b := false) (by decide +kernel) ?_)
  k_with "subscriptTail Name Slice str ref" => (k_here; (refine slice_known (s := ⟨_, _, _, _, _⟩) (by k_asm) (by k_asm) (by with_reducible assumption) (by assumption) ?_ (by with_unfolding_all rfl) (by intro _; with_unfolding_all rfl)); intro _ _ _ _ _; (try dsimp only); (try k_sweep))
  k_with "compareOp Eq int int" => (k_here; refine eqi_b (by with_reducible assumption) ?_)
  k_with "call ref" => (k_here; (with_reducible show wpAny _ _ (call (Value.ref 232) _) _ _ _); (try k_fold); k_dflt (refine use_by (by k_asm) (by k_asm) (by k_asm) (by k_asm) (by k_asm) (by exact rfl) (by exact rfl) (by k_extra "c pre") (by k_extra "c part") (by k_extra "c dp") (by k_extra "c un") (take_spec (by k_extra "c p") (by k_extra "c p") (by k_extra "c p")) (by k_extra "c ro") ?_); walk_at "c in"; rename_i P'; obtain ⟨_, _, _, _, _, _, _, hv', _, _, _, htl'⟩ := P'; subst hv' htl'; (walk_at "c aft"))
  k_with "call ref" => (k_here; (with_reducible show wpAny _ _ (call (Value.ref 239) _) _ _ _); (try k_fold); k_dflt (refine use_by (by k_asm) (by k_asm) (by k_asm) (by k_asm) (by k_asm) (by exact rfl) (by exact rfl) (by k_extra "c pre") (by k_extra "c part") (by k_extra "c dp") (by k_extra "c un") (one_spec (by k_extra "c p") (by k_extra "c p") (by k_extra "c p") (by k_extra "c p")) (by k_extra "c ro") ?_); walk_at "c in"; rename_i P'; obtain ⟨_, _, _, _, _, _, _, htl'⟩ := P'; subst htl'; (walk_at "c aft"))
  k_with "k_ne" => ((refine neN ?_; (try dsimp only); first | exact Nq.ne (by with_reducible assumption) | exact Nq.ne' (by with_reducible assumption) | exact Nat.ne_of_lt (by k_extra "c lt") | exact Nat.ne_of_gt (by k_extra "c lt") | exact ne_l1 (by k_extra "c lt") | exact ne_l2 (by k_extra "c lt") | exact ne_r1 (by k_extra "c lt") | exact ne_r2 (by k_extra "c lt") | omega))
  k_with "c led" => (first | exact List.forall_mem_nil _ | (refine List.forall_mem_cons.mpr ⟨?_, ?_⟩; (· k_mem); (· k_extra "c led")) | (intro q9 hq9; repeat (first | exact hq9 | refine List.Mem.tail _ ?_)))
  k_with "c cls" => (first | (intro z9; cases z9; done) | (intro z9; injection z9 with z9; exact absurd z9 (by decide)))
  k_with "c tailmem" => (first | with_reducible assumption | (refine List.mem_cons_of_mem _ ?_; k_extra "c tailmem"))
  k_with "subscriptTail Name Constant ref int" => (k_here; (with_reducible show wpAny _ _ (subscriptTail _ _ (Value.ref _) (Value.int _ _)) _ _ _); k_dflt (refine item_tupleL (by exact word_tupN (by k_asm) (by k_extra "c tailmem")) (by decide) (by decide) (by rfl) (by rfl) ?_ (by with_unfolding_all rfl) (by intro _; with_unfolding_all rfl)))
  k_with "subscriptTail Name Constant ref int" => ((k_here; (with_reducible show wpAny _ _ (subscriptTail _ _ (Value.ref _) (Value.int _ _)) _ _ _); (with_unfolding_all refine item_litK (by is_list) (by decide) (by decide) (by rfl) ?_ (by with_unfolding_all rfl))))
  k_with "c use" => ((case k1 => k_asm); (case k2 => k_asm); (case k3 => k_asm); (case k4 => k_asm); (case k5 => k_asm); (case k6 => exact rfl); (case k7 => exact rfl); (case h1 => k_extra "c pre"); (case h2 => k_extra "c part"); (case h4 => decide); (case h5 => decide))
  k_with "c nq" => ((try dsimp only); first | with_reducible assumption | exact Nq.ne' (by with_reducible assumption) | (unfold Nq; omega))
  k_with "c off" => (first | exact off_nil | (refine OwnOff.cons ?_ ?_; (· k_extra "c apart"); (· k_extra "c off")))
  k_with "subscriptTail" => (k_here; (with_reducible show wpAny _ _ (subscriptTail _ _ (Value.ref _) (Value.int (Nat.cast _) _)) _ _ _); k_dflt (refine item_at (by with_reducible assumption) (by is_list) (by omega) ?_ (by with_unfolding_all rfl)))
  exact rfl
theorem news_mid {g h : Heap} {L : Addr} {A tups B T : Led} (N : News g L h (A ++ (tups ++ (B ++ T)))) : News g L h (A ++ (B ++ (tups ++ T))) := fun q hq => by
  refine N q ?_
  rcases List.mem_append.mp hq with hq | hq
  · exact List.mem_append_left _ hq
  · refine List.mem_append_right _ ?_
    rcases List.mem_append.mp hq with hq | hq
    · exact List.mem_append_right _ (List.mem_append_left _ hq)
    · rcases List.mem_append.mp hq with hq | hq
      · exact List.mem_append_left _ hq
      · exact List.mem_append_right _ (List.mem_append_right _ hq)
structure OSt where
  ps : Array Value
theorem list_lift {g g' : Heap} {l : Addr} {a : Array Value} (h : g.IsList l a) (st : g.StaysIn g') : g'.IsList l a := let ⟨o, e, r⟩ := h; ⟨o, st _ _ e, r⟩
theorem onBase0 {w : World} {g : Heap} {p : Program} {loose : List Str} {mean : ExcName → Option Value} {mg mb : Str → Option Value} (X : (hd.heap_39 w.params).In g) (T : Top p loose mean mg mb g) : OnBase w g g [] p loose mean mg mb := ⟨X, T, ktsDicts_nil⟩
theorem rng_bound (n : Nat) : ∃ b, (if (if 2 < (n : Int) then 2 else (n : Int)) > 1 then (if 2 < (n : Int) then 2 else (n : Int)) else 1) = b ∧ 1 ≤ b ∧ b ≤ 2 := by
  refine ⟨_, rfl, ?_, ?_⟩ <;> (split <;> (try split) <;> omega)
theorem news_sub {g h : Heap} {L : Addr} {l l' : Led} (N : News g L h l) (hs : ∀ q ∈ l', q ∈ l) : News g L h l' := fun q hq => N q (hs q hq)
theorem allLt_up {a b : Nat} (h : @LT.lt Nat _ a b) : ∀ {l : Led}, AllLt a l → AllLt b l
  | [], _ => trivial
  | _ :: _, k => ⟨Nat.lt_trans k.1 h, allLt_up h k.2⟩
theorem off_nil {T : Led} : OwnOff T [] := fun _ _ _ hb => nomatch hb
set_option maxHeartbeats 8000000 in
theorem law_holds : PySem.Challenge.rw_sa0442_01.Holds := hd (by
  k_go0
  (all_goals try k_fold)
  rename News _ _ _ _ => N0
  rename Fr _ _ _ _ => F0
  rename Below _ _ _ _ => B0
  rename Frag.In _ _ => X0
  rename Top _ _ _ _ _ (ghostOf _ _) => T0
  rename IntsAre _ _ => hI
  have hlist := lifted
  have hcode := codeHd
  have OB0 := onBase0 X0 T0
  (try dsimp only)
  repeat' ((fail_if_success (with_reducible show wpAny _ _ (call (Value.ref 302) _) _ _ _)); first | (k_unfold; (try dsimp only)) | (k_end; wrow_close) | walk1 | (dsimp only; walk1) | (leave1; walk_say "STEP leave1"; try dsimp only) | fail "no step")
  rename Fr _ _ _ _ => F9
  rename News _ _ _ _ => N9
  (try k_fold); k_dflt (refine' use_specT0 B0 F9 X0 N9 T0 OB0 ?k6 ?k7 fixed_spec ?h1 ?h2 ?h3 ?h4 ?h5 ?_)
  case k6 => exact rfl
  case k7 => exact rfl
  case h1 => exact List.forall_mem_nil _
  case h2 => exact .stay (List.forall_mem_nil _) .nil
  case h3 => exact fun _ _ _ => trivial
  case h4 => decide
  case h5 => decide
  intro v' h' tk' tl' F' N' ap' P'
  obtain ⟨rfl, rfl⟩ := P'
  clear F9 N9 ap'
  simp only [List.nil_append] at N'
  rename World => wld
  rename Shared => sh1
  rename List Int => ns
  have hlen63 : ns.length ≤ 63 := by omega
  (try dsimp only)
  repeat' ((fail_if_success (with_reducible show wpAny _ _ (pyIter _) _ _ _)); first | (k_unfold; (try dsimp only)) | (k_end; wrow_close) | walk1 | (dsimp only; walk1) | (leave1; walk_say "STEP leave1"; try dsimp only) | fail "no step")
  rename Fr _ _ _ _ => F9
  rename News _ _ _ _ => N9
  rename IsRange _ _ _ _ _ _ _ _ => R9
  obtain ⟨b, hb, hb1, hb2⟩ := rng_bound ns.length
  rw [hb] at R9
  clear hb
  refine' kd_range (x := Str.ofString "k") (n := (b - 0).toNat) (fun c : OSt => [(290, tabObj c.ps)]) [] (fun c => []) (fun L9 c => TabOk c.ps L9)
    [Str.ofString "source", Str.ofString "text", Str.ofString "due", Str.ofString "here", Str.ofString "state", Str.ofString "turn"] (fun pre c => True) [290] ⟨#[]⟩ ?k1 R9 ?k2 ?k3 F9 N9 ?k4 ?k5 ?k6 ?k7 ?k8 ?turn ?done
  case k1 => exact rfl
  case k2 => exact small_one (by omega) (by omega) (by omega) (by omega)
  case k3 => exact rangeSize_nat _ _
  case k4 => walk_at "c pre"
  case k5 => intro c; rfl
  case k6 => exact .inl rfl
  case k7 => intro p hp; cases hp
  case k8 => trivial
  case done =>
    clear F9 N9 R9
    rintro ⟨ps2⟩ tl u h tk hoff htab - F' N'
    dsimp only [kstB] at F' N' htab
    (try dsimp only)
    (try k_fold)
    k_steps
  case turn =>
    clear F9 N9 R9
    rintro ⟨ps2⟩ tl pre k t u h tk own hk hlen hsep hoff htab - F' N'
    dsimp only [kstB] at F' N' htab
    simp only [List.nil_append, List.cons_append] at N' htab
    generalize hT9 : tl ++ own = T9 at N' hoff
    (try dsimp only); (try k_fold)
    (try dsimp only)
    repeat' ((fail_if_success (with_reducible show wpAny _ _ (call (Value.ref 225) _) _ _ _)); first | (k_unfold; (try dsimp only)) | (k_end; wrow_close) | walk1 | (dsimp only; walk1) | (leave1; walk_say "STEP leave1"; try dsimp only) | fail "no step")
    (try k_fold); k_dflt (refine' use_spec ?k1 ?k2 ?k3 ?k4 ?k5 ?k6 ?k7 (pool_spec hI ?p1 ?p2 hlen63) ?h1 ?h2 ?h3 ?h4 ?h5 ?_; walk_at "c use"; (case p1 => first | with_reducible assumption | omega); (case p2 => first | with_reducible assumption | omega); (case h3 => exact fun g' st' _ => list_lift hlist st'))
    intro v' h' tk' tl' F' N' ap' P'
    obtain ⟨src, x1, y1, tx1, ty1, n1, rfl, hx1, rfl⟩ := P'
    have q1 : Nq src 290 := Ne.symm (ap' (src, _) (.head _) (290, _) (by k_mem))
    have hoff1 : OwnOff T9 [src, 290] := OwnOff.cons (fun p hp => ap' (src, _) (.head _) p (by walk_at "c tailmem")) hoff
    clear ap' hoff
    simp only [List.nil_append, List.cons_append] at N'
    (try k_sweep)
    (try dsimp only)
    repeat' ((fail_if_success (with_reducible show wpAny _ _ (call (Value.ref 253) _) _ _ _)); first | (k_unfold; (try dsimp only)) | (k_end; wrow_close) | walk1 | (dsimp only; walk1) | (leave1; walk_say "STEP leave1"; try dsimp only) | fail "no step")
    (try k_fold); k_dflt (refine' use_spec ?k1 ?k2 ?k3 ?k4 ?k5 ?k6 ?k7 (built_spec ?p1) ?h1 ?h2 ?h3 ?h4 ?h5 ?_; walk_at "c use"; (case p1 => exact hx1); (case h3 => exact fun _ _ _ => trivial))
    intro v' h' tk' tl' F' N' ap' P'
    obtain ⟨a, dd, pcs, tkt, vs, c, tups, x2, y2, tx2, ty2, n2, rfl, hokt, hx2, rfl, hD, hT, hsd⟩ := P'
    have q2 : Nq dd 290 := Ne.symm (ap' (dd, _) (.tail _ (.head _)) (290, _) (by k_mem))
    have N2 := news_mid (A := [(a, _), (dd, _), (src, _)]) (tups := tups) (B := [(290, _)]) (T := T9) N'
    simp only [List.nil_append, List.cons_append] at N2
    have nsd : Nq src dd := hsd
    have nsa : Nq src a := news_apart N2 (q := (a, _)) (p := (src, _)) (by k_mem) (by k_mem) (by walk_at "c cls")
    have o2 : OwnOff T9 [dd, src, 290] := OwnOff.cons (fun p hp => ap' (dd, _) (.tail _ (.head _)) p (by walk_at "c tailmem")) hoff1
    have o3 : OwnOff tups [dd, src, 290] := own_of_tups N2 hT (by intro q hq; repeat (first | exact List.mem_append_left _ hq | refine List.mem_cons_of_mem _ ?_)) (List.forall_mem_cons.mpr ⟨⟨_, by k_mem, by walk_at "c cls"⟩, List.forall_mem_cons.mpr ⟨⟨_, by k_mem, by walk_at "c cls"⟩, List.forall_mem_cons.mpr ⟨⟨_, by k_mem, by walk_at "c cls"⟩, List.forall_mem_nil _⟩⟩⟩)
    have hoff2 : OwnOff (tups ++ T9) [dd, src, 290] := kd_off o2 o3
    have hoc1 : ∀ q ∈ tups, ∀ p ∈ own, @Ne Nat p.1 q.1 := fun q hq p hp => by
      have hp9 : p ∈ T9 := hT9 ▸ List.mem_append_right _ hp
      exact ap' q (.tail _ (.tail _ (.tail _ hq))) p (by walk_at "c tailmem")
    clear ap' N' hoff1 o2 o3
    have hlt := textOf_len pcs hokt.2.2
    have hp6 := hokt.2.1
    have hvl : vs.length = pcs.length + 1 := by rw [hD.length, List.length_map, List.length_append, duesOf_len]; rfl
    generalize hT10 : tups ++ T9 = T10 at N2 hoff2
    (try k_sweep)
    (try dsimp only)
    repeat' ((fail_if_success (with_reducible show wpAny _ _ (call (Value.ref 139) _) _ _ _)); first | (k_unfold; (try dsimp only)) | (k_end; wrow_close) | walk1 | (dsimp only; walk1) | (leave1; walk_say "STEP leave1"; try dsimp only) | fail "no step")
    (try k_fold); k_dflt (refine' use_spec ?k1 ?k2 ?k3 ?k4 ?k5 ?k6 ?k7 (read_spec (rd_of pcs hokt.2.2) (textOf_flat pcs) ?p1) ?h1 ?h2 ?h3 ?h4 ?h5 ?_; walk_at "c use"; (case p1 => first | with_reducible assumption | omega); (case h3 => exact fun _ _ _ => trivial))
    intro v' h' tk' tl' F' N' ap' P'
    obtain ⟨xw, dw, r, t1, t2, t3, ta, td, vr, cr, tupr, rfl, rfl, hDr, hTr⟩ := P'
    have N3 := news_mid (A := [(xw, _), (dw, _), (r, _)]) (tups := tupr) (B := [(a, _), (dd, _), (src, _), (290, _)]) (T := T10) N'
    simp only [List.nil_append, List.cons_append] at N3
    have w1 : Nq xw dd := Ne.symm (ap' (xw, _) (.head _) (dd, _) (by k_mem))
    have w2 : Nq xw src := Ne.symm (ap' (xw, _) (.head _) (src, _) (by k_mem))
    have w3 : Nq xw 290 := Ne.symm (ap' (xw, _) (.head _) (290, _) (by k_mem))
    have w4 : Nq dw dd := Ne.symm (ap' (dw, _) (.tail _ (.head _)) (dd, _) (by k_mem))
    have w5 : Nq dw src := Ne.symm (ap' (dw, _) (.tail _ (.head _)) (src, _) (by k_mem))
    have w6 : Nq dw 290 := Ne.symm (ap' (dw, _) (.tail _ (.head _)) (290, _) (by k_mem))
    have w7 : Nq r dd := Ne.symm (ap' (r, _) (.tail _ (.tail _ (.head _))) (dd, _) (by k_mem))
    have w8 : Nq r src := Ne.symm (ap' (r, _) (.tail _ (.tail _ (.head _))) (src, _) (by k_mem))
    have w9 : Nq r 290 := Ne.symm (ap' (r, _) (.tail _ (.tail _ (.head _))) (290, _) (by k_mem))
    have wsap := ws_apart fun q hq => ⟨(N3 q (by rcases List.mem_cons.mp hq with rfl | hq; exact .head _; rcases List.mem_cons.mp hq with rfl | hq; exact .tail _ (.head _); rcases List.mem_cons.mp hq with rfl | hq; exact .tail _ (.tail _ (.head _)); cases hq)).1, (N3 q (by rcases List.mem_cons.mp hq with rfl | hq; exact .head _; rcases List.mem_cons.mp hq with rfl | hq; exact .tail _ (.head _); rcases List.mem_cons.mp hq with rfl | hq; exact .tail _ (.tail _ (.head _)); cases hq)).2.2⟩
    obtain ⟨wa, wb, wc⟩ := wsap
    have w10 : Nq xw dw := wa
    have w11 : Nq r dw := wb
    have w12 : Nq xw r := wc
    clear wa wb wc
    have o2 : OwnOff T10 [xw, dw, r, dd, src, 290] := OwnOff.cons (fun p hp => ap' (xw, _) (.head _) p (by walk_at "c tailmem")) (OwnOff.cons (fun p hp => ap' (dw, _) (.tail _ (.head _)) p (by walk_at "c tailmem")) (OwnOff.cons (fun p hp => ap' (r, _) (.tail _ (.tail _ (.head _))) p (by walk_at "c tailmem")) hoff2))
    have o3 : OwnOff tupr [xw, dw, r, dd, src, 290] := own_of_tups N3 hTr (by intro q hq; repeat (first | exact List.mem_append_left _ hq | refine List.mem_cons_of_mem _ ?_)) (List.forall_mem_cons.mpr ⟨⟨_, by k_mem, by walk_at "c cls"⟩, List.forall_mem_cons.mpr ⟨⟨_, by k_mem, by walk_at "c cls"⟩, List.forall_mem_cons.mpr ⟨⟨_, by k_mem, by walk_at "c cls"⟩, List.forall_mem_cons.mpr ⟨⟨_, by k_mem, by walk_at "c cls"⟩, List.forall_mem_cons.mpr ⟨⟨_, by k_mem, by walk_at "c cls"⟩, List.forall_mem_cons.mpr ⟨⟨_, by k_mem, by walk_at "c cls"⟩, List.forall_mem_nil _⟩⟩⟩⟩⟩⟩)
    have hoff3 : OwnOff (tupr ++ T10) [xw, dw, r, dd, src, 290] := kd_off o2 o3
    have hvr : vr.length = pcs.length + 1 := by rw [hDr.length, List.length_map, List.length_append, ← duesOf_wds, duesOf_len]; rfl
    have hDC : DatAll (tupr ++ (tups ++ tl)) vs ((duesOf pcs ++ [endW (textOf pcs).length]).map Wd.dat) := DatAll.mono (fun q hq => List.mem_append_right _ (List.mem_append_left _ hq)) hD
    have hDrC : DatAll (tupr ++ (tups ++ tl)) vr ((duesOf pcs ++ [endW (textOf pcs).length]).map Wd.dat) := by rw [duesOf_wds]; exact DatAll.mono (fun q hq => List.mem_append_left _ hq) hDr
    have hOC : ∀ q ∈ tupr ++ (tups ++ tl), ∀ p ∈ own, @Ne Nat p.1 q.1 := fun q hq p hp => by
      have hp10 : p ∈ T10 := hT10 ▸ List.mem_append_right _ (hT9 ▸ List.mem_append_right _ hp)
      rcases List.mem_append.mp hq with hq | hq
      · exact ap' q (.tail _ (.tail _ (.tail _ hq))) p (by walk_at "c tailmem")
      · rcases List.mem_append.mp hq with hq | hq
        · exact hoc1 q hq p hp
        · exact hsep.two p hp _ (List.mem_map_of_mem hq)
    clear ap' N' hoff2 o2 o3 hD hDr hoc1
    generalize hT11 : tupr ++ T10 = T11 at N3 hoff3
    (try k_sweep)
    (try dsimp only)
    repeat' ((fail_if_success (with_reducible show wpAny _ _ (call (Value.ref 239) _) _ _ _)); first | (k_unfold; (try dsimp only)) | (k_end; wrow_close) | walk1 | (dsimp only; walk1) | (leave1; walk_say "STEP leave1"; try dsimp only) | fail "no step")
    rename_i x9 d9 ha la lb gg Lg hb9 Bg Xg Tg lfg tkg r9 c9 hc lc hd1 he hf Fg Ng Tcg kXg l9 hg FF NN ll
    clear Fg Ng Bg Xg Tg lfg lifted Tcg kXg
    (try k_fold); k_dflt (refine' use_spec ?k1 ?k2 ?k3 ?k4 ?k5 ?k6 ?k7 (one_spec ?p1 ?p2 ?p3 ?p4) ?h1 ?h2 ?h3 ?h4 ?h5 ?_; walk_at "c use"; (case p1 => k_ne); (case p2 => exact hx2); (case p3 => exact Nat.le_of_ble_eq_true rfl); (case p4 => exact Nat.le_of_ble_eq_true rfl); (case h3 => exact fun _ _ _ => trivial))
    intro v' h' tk' tl' F' N' ap' P'; obtain ⟨hmem, x3, y3, tx3, ty3, n3, hx3, htl'⟩ := P'; subst htl'; (simp only [List.cons_append, List.nil_append] at N'); clear ap'; (try k_sweep)
    have hm2 : v' = .ref xw ∨ v' = .ref x9 := by simpa using hmem
    clear hmem
    (try dsimp only)
    repeat' ((fail_if_success (with_reducible show wpAny _ _ (call (Value.ref 232) _) _ _ _)); first | (k_unfold; (try dsimp only)) | (k_end; wrow_close) | walk1 | (dsimp only; walk1) | (leave1; walk_say "STEP leave1"; try dsimp only) | fail "no step")
    rename_i wl cw hw1 lw1 sa hw2 lw2 D7 hw3 lw3 hw4 hw5 hw6 FF NN
    have aX : AllLt x9 T11 := allLt_up lb la.2.2.2.2.2.2.2
    obtain ⟨xh, dh, rh, s1, s2, s3, s4, s5, vh, ch, hv, NK, hDh, hAd, hOf⟩ : ∃ (xh dh rh : Addr) (s1 s2 s3 s4 s5 : Tok) (vh : List Value) (ch : Nat), v' = .ref xh ∧
        News (ghostOf sh1.heap [(294, 290)]) sh1.heap.objs.size hw6 ((src, listOf #[.int x3 tx3, .int y3 ty3] n3) :: (sa, listOf #[.ref wl, .int 0 tk'] 0) :: (wl, listOf vs.toArray cw) :: (290, tabObj ps2) :: (xh, instObj 214 dh) :: (dh, wordsD wld rh 0 s1 s2 s3 s4 s5) :: (rh, listOf vh.toArray ch) :: T11) ∧
        DatAll (tupr ++ (tups ++ tl)) vh ((duesOf pcs ++ [endW (textOf pcs).length]).map Wd.dat) ∧ AdOk ⟨src, sa, wl, xh, dh, rh, s1, s2, s3, s5⟩ ∧ OwnOff T11 [src, sa, wl, 290, xh, dh, rh] := by
      rcases hm2 with e | e
      · refine ⟨xw, dw, r, t1, t2, t3, ta, td, vr, cr, e, news_sub NN ?zs1, hDrC, ⟨?_, ?_, ?_, ?_, ?_, ?_, ?_, ?_, ?_, ?_, ?_, ?_, ?_, ?_, ?_, ?_, ?_, ?_, ?_, ?_, ?_⟩, ?zo1⟩
        case zs1 => walk_at "c led"
        case zo1 => walk_at "c off"
        all_goals walk_at "c nq"
      · refine' ⟨x9, d9, r9, _, _, _, _, _, vs, c9, e, news_sub NN ?zs2, hDC, ⟨?_, ?_, ?_, ?_, ?_, ?_, ?_, ?_, ?_, ?_, ?_, ?_, ?_, ?_, ?_, ?_, ?_, ?_, ?_, ?_, ?_⟩, ?zo2⟩
        case zs2 => walk_at "c led"
        case zo2 => walk_at "c off"
        all_goals walk_at "c nq"
    subst hv
    clear NN hm2 w1 w2 w3 w4 w5 w6 w7 w8 w9 w10 w11 w12 q1 q2 nsd nsa
    obtain ⟨q1, q2, q3, q4, q5, q6, q7, q8, q9, q10, q11, q12, q13, q14, q15, q16, q17, q18, q19, q20, q21⟩ := id hAd
    dsimp only at q1 q2 q3 q4 q5 q6 q7 q8 q9 q10 q11 q12 q13 q14 q15 q16 q17 q18 q19 q20 q21
    have hofO : OwnOff own [src, sa, wl, 290, xh, dh, rh] := fun p hp => hOf p (hT11 ▸ List.mem_append_right _ (hT10 ▸ List.mem_append_right _ (hT9 ▸ List.mem_append_right _ hp)))
    have hofC : OwnOff (tupr ++ (tups ++ tl)) [src, sa, wl, 290, xh, dh, rh] := fun p hp => hOf p (hT11 ▸ (List.mem_append.mp hp).elim (fun h => List.mem_append_left _ h) fun h => List.mem_append_right _ (hT10 ▸ (List.mem_append.mp h).elim (fun h => List.mem_append_left _ h) fun h => List.mem_append_right _ (hT9 ▸ List.mem_append_left _ h)))
    have htabC : TabOk ps2 (tupr ++ (tups ++ tl)) := htab.mono fun q hq => List.mem_append_right _ (List.mem_append_right _ hq)
    (try k_fold); k_dflt (refine' use_spec ?k1 ?k2 ?k3 ?k4 ?k5 ?k6 ?k7 (take_spec ?p1 ?p2 ?p3) ?h1 ?h2 ?h3 ?h4 ?h5 ?_; walk_at "c use"; (case p1 => exact hx3); (case p2 => decide); (case p3 => decide); (case h3 => exact fun _ _ _ => trivial))
    intro v6 h6 tk6 tl6 F' N' ap' P'; obtain ⟨m6, x4, y4, tr4, tx4, ty4, n4, hv', m60, m61, hx4, htl'⟩ := P'; subst hv' htl'; (simp only [List.cons_append, List.nil_append] at N'); clear ap' NK; (try k_sweep)
    have hsub4 : ∀ q ∈ (dL wld ⟨src, sa, wl, xh, dh, rh, s1, s2, s3, s5⟩ ⟨x4, y4, tx4, ty4, n4, 0, s4, vh, ch, tk', 0, vs, cw, ps2, duesOf pcs, ((textOf pcs).length : Int)⟩ ++ own) ++ ((tupr ++ (tups ++ tl)) ++ []), q ∈ dL wld ⟨src, sa, wl, xh, dh, rh, s1, s2, s3, s5⟩ ⟨x4, y4, tx4, ty4, n4, 0, s4, vh, ch, tk', 0, vs, cw, ps2, duesOf pcs, ((textOf pcs).length : Int)⟩ ++ T11 := by
      intro q hq
      rw [← hT11, ← hT10, ← hT9]
      simp only [List.mem_append, List.not_mem_nil, or_false] at hq ⊢
      rcases hq with (h | h) | h | h | h <;> simp only [h, or_true, true_or]
    generalize hC0 : tupr ++ (tups ++ tl) = C0 at hsub4 hDC hDh hOC hofC htabC
    (try dsimp only)
    repeat' ((fail_if_success (with_reducible show wpAny _ _ (pyIter _) _ _ _)); first | (k_unfold; (try dsimp only)) | (k_end; wrow_close) | walk1 | (dsimp only; walk1) | (leave1; walk_say "STEP leave1"; try dsimp only) | fail "no step")
    rename Fr _ _ _ _ => F9
    rename News _ _ _ _ => N9
    rename IsRange _ _ _ _ _ _ _ _ => R9
    refine' kd_range (x := Str.ofString "turn") (n := (10 + m6 - 0).toNat) (fun c : DSt => dL wld ⟨src, sa, wl, xh, dh, rh, s1, s2, s3, s5⟩ c ++ own) C0 (fun c => []) (fun L9 c => OkD ⟨src, sa, wl, xh, dh, rh, s1, s2, s3, s5⟩ L9 c)
      [] (fun pre c => True) ((DAd.mk src sa wl xh dh rh s1 s2 s3 s5).adr ++ (own ++ C0).map (·.1)) ⟨x4, y4, tx4, ty4, n4, 0, s4, vh, ch, tk', 0, vs, cw, ps2, duesOf pcs, ((textOf pcs).length : Int)⟩ ?j1 R9 ?j2 ?j3 F9 N9 ?j4 ?j5 ?j6 ?j7 ?j8 ?jturn ?jdone
    case j1 => exact rfl
    case j2 => exact small_one (by omega) (by omega) (by omega) (by omega)
    case j3 => exact rangeSize_nat _ _
    case j4 => exact fun q hq => hsub4 q hq
    case j5 => exact fun c => inner_adr _ _ _ _ _
    case j6 => exact ⟨hx4, good_text hokt, Nat.zero_le _, DatAll.mono (fun q hq => List.mem_append_left _ hq) hDh, DatAll.mono (fun q hq => List.mem_append_left _ hq) hDC, htabC.mono fun q hq => List.mem_append_left _ hq, fun q hq => hofC q ((List.append_nil C0) ▸ hq)⟩
    case j7 => exact fun p hp => nomatch hp
    case j8 => trivial
    case jturn =>
      clear F9 N9 R9 hsub4
      rintro ⟨x5, y5, tx5, ty5, n5, a5, ta5, vs5, cc5, tb5, nn5, ws5, cd5, ps5, U5, e5⟩ tl7 pre7 k7 t7 u7 h7 tk7 own7 hk7 hlen7 hsep7 hoff7 hok7 - F' N'
      dsimp only [kstB] at F'
      have hpart := inner_part wld ⟨x5, y5, tx5, ty5, n5, a5, ta5, vs5, cc5, tb5, nn5, ws5, cd5, ps5, U5, e5⟩ rfl hsep7 hofO hOC
      have N5 := news_sub N' inner_sub
      clear N' hoff7
      (try dsimp only); (try k_fold)
      (try dsimp only)
      repeat' ((fail_if_success (with_reducible show wpAny _ _ (call (Value.ref 295) _) _ _ _)); first | (k_unfold; (try dsimp only)) | (k_end; wrow_close) | walk1 | (dsimp only; walk1) | (leave1; walk_say "STEP leave1"; try dsimp only) | fail "no step")
      rename Fr _ _ _ _ => F9
      (try k_fold); k_dflt (refine' use_specT0 B0 F9 X0 N5 T0 OB0 ?k6 ?k7 (deed_spec hAd hok7) ?h1 ?h2 ?h3 ?h4 ?h5 ?_)
      case k6 => exact rfl
      case k7 => exact rfl
      case h1 => exact fun q hq => List.mem_append_left _ hq
      case h2 => exact part_app (fun q hq => hq) hpart
      case h3 => exact fun g' st' _ => hcode.keeps st'
      case h4 => decide
      case h5 => decide
      intro v8 h8 tk8 tl8 F8 N8 ap8 P8
      obtain ⟨rfl, ⟨x8, y8, tx8, ty8, n8, a8, ta8, vs8, cc8, tb8, nn8, ws8, cd8, ps8, U8, e8⟩, add, rfl, hok8, hadd8⟩ := P8
      clear F9 N5 hpart hok7
      have hoff8 := inner_off rfl hsep7 hofO hok8.off
      have hadd9 := inner_add wld ⟨x8, y8, tx8, ty8, n8, a8, ta8, vs8, cc8, tb8, nn8, ws8, cd8, ps8, U8, e8⟩ rfl hok8.off hadd8 ap8
      have hown9 := inner_own ap8
      have hok9 := okD_mono hok8 inner_swap inner_swap'
      have hgood8 := hok8.good
      have ha8 := hok8.a
      have D81 := hok8.D1
      have D82 := hok8.D2
      clear ap8 hadd8 hok8
      dsimp only at hgood8 ha8 D81 D82
      simp only [dL, List.cons_append, List.nil_append] at N8
      generalize hT20 : (add ++ (C0 ++ tl7)) ++ (own ++ own7) = T20 at N8 hoff8
      have D91 := DatAll.mono (inner_datT hT20) D81
      have D92 := DatAll.mono (inner_datT hT20) D82
      clear D81 D82
      obtain ⟨wd, hwd, hE, -⟩ := wl_get hgood8 ha8
      obtain ⟨b1, u1, u2, u3, v4, m4, hv1, hm1, hd1⟩ := word_at D91 hwd
      obtain ⟨b2, g1, g2, g3, g4, g5, hv2, hm2, hd2⟩ := word_at D92 hwd
      have hok := goodE_ok hE
      have hvl8 : vs8.length = U8.length + 1 := by rw [D91.length, List.length_map, wl_len]
      have hwl8 : ws8.length = U8.length + 1 := by rw [D92.length, List.length_map, wl_len]
      obtain ⟨-, hU2, hU6, -, -⟩ := id hgood8
      have hoff9 : OwnOff T20 [src, sa, wl, 290, xh, dh, rh] := hoff8
      clear hoff8
      (try dsimp only)
      repeat' ((fail_if_success (with_reducible show wpAny _ _ (call (Value.ref 175) _) _ _ _)); first | (k_unfold; (try dsimp only)) | (k_end; wrow_close) | walk1 | (dsimp only; walk1) | (leave1; walk_say "STEP leave1"; try dsimp only) | fail "no step")
      (try k_fold); k_dflt (refine' use_spec ?k1 ?k2 ?k3 ?k4 ?k5 ?k6 ?k7 (peek0K_spec ?p1 ?p2 ?p3) ?h1 ?h2 ?h3 ?h4 ?h5 ?_; walk_at "c use"; (case p1 => exact hv1); (case p2 => first | with_reducible assumption | omega); (case p3 => first | with_reducible assumption | omega); (case h3 => exact fun _ _ _ => trivial))
      intro v' h' tk' tl' F' N' ap' P'
      obtain ⟨rfl, rfl⟩ := P'
      clear ap' F8 N8
      simp only [wsL, List.cons_append, List.nil_append] at N'
      (try k_sweep)
      (try dsimp only)
      repeat' ((fail_if_success (with_reducible show wpAny _ _ (compareOp _ _ _) _ _ _)); first | (k_unfold; (try dsimp only)) | (k_end; wrow_close) | walk1 | (dsimp only; walk1) | (leave1; walk_say "STEP leave1"; try dsimp only) | fail "no step")
      rename Fr _ _ _ _ => F9
      rename News _ _ _ _ => N9
      refine ne_same N9 (DatIn.mono ?zs3 hd1) (DatIn.mono ?zs3 hd2) hok.ok rfl ?zu3 ?_
      case zs3 => walk_at "c led"
      case zu3 => k_units
      k_steps
      refine' kd_end (pre := pre7 ++ [k7]) ⟨x8, y8, tx8, ty8, n8, a8, ta8, vs8, cc8, tb8, nn8, ws8, cd8, ps8, U8, e8⟩ add hsep7 F9 N9 ?e1 ?e2 ?e3 ?e4 ?e5 ?e6 ?e7 ?e8 ?e9
      case e1 => exact fun q hq => perm43 q (inner_mem (X := dL wld ⟨src, sa, wl, xh, dh, rh, s1, s2, s3, s5⟩ ⟨x8, y8, tx8, ty8, n8, a8, ta8, vs8, cc8, tb8, nn8, ws8, cd8, ps8, U8, e8⟩) hT20 q hq)
      case e2 => exact fun q hq => mem_seven (inner_mem7 hT20 q hq)
      case e3 => exact inner_adr wld ⟨src, sa, wl, xh, dh, rh, s1, s2, s3, s5⟩ ⟨x8, y8, tx8, ty8, n8, a8, ta8, vs8, cc8, tb8, nn8, ws8, cd8, ps8, U8, e8⟩ own C0
      case e4 => exact hadd9
      case e5 => exact hown9
      case e6 => exact fun p hp => nomatch hp
      case e7 =>
        intro z z1 z2 z3
        rw [if_neg z1]
        rfl
      case e8 => exact hok9
      case e9 => trivial
    case jdone =>
      clear F9 N9 R9 hsub4
      rintro ⟨x5, y5, tx5, ty5, n5, a5, ta5, vs5, cc5, tb5, nn5, ws5, cd5, ps5, U5, e5⟩ tl7 u7 h7 tk7 hoff7 hok7 - F' N'
      dsimp only [kstB] at F'
      (try dsimp only)
      (try k_fold)
      k_steps
      have htab7 : TabOk ps5 (C0 ++ tl7) := hok7.tab
      refine' kd_end (pre := pre ++ [k]) ⟨ps5⟩ (tl7 ++ (tupr ++ tups)) hsep F' N' ?e1 ?e2 ?e3 ?e4 ?e5 ?e6 ?e7 ?e8 ?e9
      case e1 => exact outer_mem hC0 (.tail _ (.tail _ (.tail _ (.head _))))
      case e2 => exact fun q hq => List.mem_append_left _ (List.mem_append_right _ hq)
      case e3 => rfl
      case e4 => exact outer_off hC0 hok7.off
      case e5 => exact outer_own hC0 rfl hoff7 hOC
      case e6 => exact fun p hp => nomatch hp
      case e7 =>
        intro z z1 z2 z3
        have y1 : z ≠ Str.ofString "source" := fun e => by rw [e] at z3; revert z3; decide +kernel
        have y2 : z ≠ Str.ofString "text" := fun e => by rw [e] at z3; revert z3; decide +kernel
        have y3 : z ≠ Str.ofString "due" := fun e => by rw [e] at z3; revert z3; decide +kernel
        have y4 : z ≠ Str.ofString "here" := fun e => by rw [e] at z3; revert z3; decide +kernel
        have y5 : z ≠ Str.ofString "state" := fun e => by rw [e] at z3; revert z3; decide +kernel
        have y6 : z ≠ Str.ofString "turn" := fun e => by rw [e] at z3; revert z3; decide +kernel
        rw [if_neg y6]
        show (if z = Str.ofString "here" then _ else _) = _
        rw [if_neg y4, if_neg y5, if_neg y3, if_neg y2, if_neg y1, if_neg z1, z3]
        rfl
      case e8 => exact htab7.mono (outer_sub' hC0)
      case e9 => trivial)
end
end
end
end
end
end
end
end Mine
theorem PySem.Challenge.cw_sa0442_01_holds : PySem.Challenge.rw_sa0442_01.Holds :=
  Mine.law_holds
