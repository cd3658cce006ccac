import PyProof.Rows.All
import Wide.All
import OpenK.AllK
import Wide.FinOn
import Lean
import PySem.Challenge.RW_up0059_01
open PySem PySem.W PyProof.Rows
set_option Elab.async false
set_option maxRecDepth 100000
set_option maxHeartbeats 0
set_option rowWalk.seconds 0
name_quick tw8075568018651887793 for PySem.W.S.modZ by PySem.W.S.modZ_eq
name_quick tw6637752211441726588 for PySem.W.S.modZ by PySem.W.S.modZ_eq
name_quick tw14974422364763868477 for PySem.W.S.modZ by PySem.W.S.modZ_eq
name_quick tw2245006971878993143 for PySem.W.S.modZ by PySem.W.S.modZ_eq
name_quick tw1340868782516533803 for PySem.W.S.modZ by PySem.W.S.modZ_eq
name_quick tw6988704321522420823 for PySem.W.S.modZ by PySem.W.S.modZ_eq
name_quick tw3202819846352761355 for PySem.W.S.modZ by PySem.W.S.modZ_eq
name_quick tw14979626087600564940 for PySem.W.S.modZ by PySem.W.S.modZ_eq
name_quick tw1454571074299704454 for PySem.W.S.modZ by PySem.W.S.modZ_eq
name_quick tw6198021832179743591 for PySem.W.S.modZ by PySem.W.S.modZ_eq
name_quick tw17111948838632640456 for PySem.W.S.modZ by PySem.W.S.modZ_eq
name_quick tw11057745971380855287 for PySem.W.S.modZ by PySem.W.S.modZ_eq
name_quick tw14649835086701579774 for PySem.W.S.modZ by PySem.W.S.modZ_eq
name_quick tw14530364306720264245 for PySem.W.S.modZ by PySem.W.S.modZ_eq
name_quick tw7250012664060256230 for PySem.W.S.modZ by PySem.W.S.modZ_eq
name_quick tw3560238982266916124 for PySem.W.S.modZ by PySem.W.S.modZ_eq
name_quick tw13678640442995254988 for PySem.W.S.modZ by PySem.W.S.modZ_eq
name_quick tw6245536207120538393 for PySem.W.S.modZ by PySem.W.S.modZ_eq
name_quick tw7745614565497352828 for PySem.W.S.modZ by PySem.W.S.modZ_eq
name_quick tw11420187438672877268 for PySem.W.S.modZ by PySem.W.S.modZ_eq
name_quick tw3976722010076183465 for PySem.W.S.modZ by PySem.W.S.modZ_eq
name_quick tw11985326045990495214 for PySem.W.S.modZ by PySem.W.S.modZ_eq
name_quick tw4978915544186085027 for PySem.W.S.modZ by PySem.W.S.modZ_eq
name_quick tw16049961110935095269 for PySem.W.S.modZ by PySem.W.S.modZ_eq
name_quick tw16145008321745377990 for PySem.W.S.modZ by PySem.W.S.modZ_eq
name_quick tw14553827428707814869 for PySem.W.S.modZ by PySem.W.S.modZ_eq
name_quick tw4558998842232669794 for PySem.W.S.modZ by PySem.W.S.modZ_eq
name_quick tw11445135464325071761 for PySem.W.S.modZ by PySem.W.S.modZ_eq
name_quick tw11452132507678324671 for PySem.W.S.modZ by PySem.W.S.modZ_eq
name_quick tw18220123701641295943 for PySem.W.S.modZ by PySem.W.S.modZ_eq
name_quick tw14821650378409806113 for PySem.W.S.modZ by PySem.W.S.modZ_eq
name_quick tw10833955939284561965 for PySem.W.S.modZ by PySem.W.S.modZ_eq
name_quick tw10948738476641704880 for PySem.W.S.modZ by PySem.W.S.modZ_eq
name_quick tw3093977132361051618 for PySem.W.S.modZ by PySem.W.S.modZ_eq
name_quick tw704327219915372674 for PySem.W.S.modZ by PySem.W.S.modZ_eq
name_quick tw387338674003428930 for PySem.W.S.modZ by PySem.W.S.modZ_eq
name_quick tw18345786424863182364 for PySem.W.S.modZ by PySem.W.S.modZ_eq
name_quick tw1355338860687761863 for PySem.W.S.modZ by PySem.W.S.modZ_eq
name_quick tw14289078867681016318 for PySem.W.S.modZ by PySem.W.S.modZ_eq
name_quick tw10706342367453228570 for PySem.W.S.modZ by PySem.W.S.modZ_eq
name_quick tw5349121933718820234 for PySem.W.S.modZ by PySem.W.S.modZ_eq
name_quick tw6589095468515690095 for PySem.W.S.modZ by PySem.W.S.modZ_eq
name_quick tw16593013826814733010 for PySem.W.S.modZ by PySem.W.S.modZ_eq
name_quick tw13016732220969518872 for PySem.W.S.modZ by PySem.W.S.modZ_eq
name_quick tw15263041282635125899 for PySem.W.S.modZ by PySem.W.S.modZ_eq
name_quick tw14433975572909055671 for PySem.W.S.modZ by PySem.W.S.modZ_eq
name_quick tw3152983702415266003 for PySem.W.S.modZ by PySem.W.S.modZ_eq
name_quick tw10007627690174824804 for PySem.W.S.modZ by PySem.W.S.modZ_eq
name_quick tw10887116778572429059 for PySem.W.S.modZ by PySem.W.S.modZ_eq
name_quick tw8860024209350480642 for PySem.W.S.modZ by PySem.W.S.modZ_eq
name_quick tw14714103240675001986 for PySem.W.S.modZ by PySem.W.S.modZ_eq
name_quick tw4292500188555128830 for PySem.W.S.modZ by PySem.W.S.modZ_eq
name_quick tw10942035263794033107 for PySem.W.S.modZ by PySem.W.S.modZ_eq
name_quick tw282004115355043989 for PySem.W.S.modZ by PySem.W.S.modZ_eq
name_quick tw460243522976405022 for PySem.W.S.modZ by PySem.W.S.modZ_eq
name_quick tw11270796479367742343 for PySem.W.S.modZ by PySem.W.S.modZ_eq
name_quick tw15742981410569661332 for PySem.W.S.modZ by PySem.W.S.modZ_eq
name_quick tw13900631225919944168 for PySem.W.S.modZ by PySem.W.S.modZ_eq
name_quick tw2039238271031011813 for PySem.W.S.modZ by PySem.W.S.modZ_eq
name_quick tw16018607276475445134 for PySem.W.S.modZ by PySem.W.S.modZ_eq
name_quick tw18340240734955500558 for PySem.W.S.modZ by PySem.W.S.modZ_eq
name_quick tw6122645084068987007 for PySem.W.S.modZ by PySem.W.S.modZ_eq
name_quick tw5706481520468235054 for PySem.W.S.modZ by PySem.W.S.modZ_eq
name_quick tw8376441433122354887 for PySem.W.S.modZ by PySem.W.S.modZ_eq
name_quick tw17164873540382356111 for PySem.W.S.modZ by PySem.W.S.modZ_eq
name_quick tw5189142188285759775 for PySem.W.S.modZ by PySem.W.S.modZ_eq
name_quick tw1333364371103165705 for PySem.W.S.modZ by PySem.W.S.modZ_eq
name_quick tw3282434896037501709 for PySem.W.S.modZ by PySem.W.S.modZ_eq
name_quick tw5032809538720368765 for PySem.W.S.modZ by PySem.W.S.modZ_eq
name_quick tw1377046205977697930 for PySem.W.S.modZ by PySem.W.S.modZ_eq
name_quick tw8693227569615203950 for PySem.W.S.modZ by PySem.W.S.modZ_eq
name_quick tw8603108125212654177 for PySem.W.S.modZ by PySem.W.S.modZ_eq
name_quick tw13512673800721320934 for PySem.W.S.modZ by PySem.W.S.modZ_eq
name_quick tw18260038339965228139 for PySem.W.S.modZ by PySem.W.S.modZ_eq
name_quick tw11333186260410459676 for PySem.W.S.modZ by PySem.W.S.modZ_eq
name_quick tw17000458434675057986 for PySem.W.S.modZ by PySem.W.S.modZ_eq
name_quick tw3131671291697673992 for PySem.W.S.modZ by PySem.W.S.modZ_eq
name_quick tw5268983451555188008 for PySem.W.S.modZ by PySem.W.S.modZ_eq
name_quick tw15066959818950650227 for PySem.W.S.modZ by PySem.W.S.modZ_eq
name_quick tw15007238320947547705 for PySem.W.S.modZ by PySem.W.S.modZ_eq
name_quick tw1537898542681612871 for PySem.W.S.modZ by PySem.W.S.modZ_eq
name_quick tw12945451867199242903 for PySem.W.S.modZ by PySem.W.S.modZ_eq
name_quick tw3362959441861295915 for PySem.W.S.modZ by PySem.W.S.modZ_eq
name_quick tw2478078296215019888 for PySem.W.S.modZ by PySem.W.S.modZ_eq
name_quick tw3972328310683599613 for PySem.W.S.modZ by PySem.W.S.modZ_eq
name_quick tw9501820088010722379 for PySem.W.S.modZ by PySem.W.S.modZ_eq
name_quick tw5200128776193632040 for PySem.W.S.modZ by PySem.W.S.modZ_eq
name_quick tw4302124980754421698 for PySem.W.S.modZ by PySem.W.S.modZ_eq
name_quick tw17100903815162463580 for PySem.W.S.modZ by PySem.W.S.modZ_eq
name_quick tw12233582284571471492 for PySem.W.S.modZ by PySem.W.S.modZ_eq
name_quick tw17532440430192770315 for PySem.W.S.modZ by PySem.W.S.modZ_eq
name_quick tw4775785305629353868 for PySem.W.S.modZ by PySem.W.S.modZ_eq
name_quick tw9136488742655976645 for PySem.W.S.modZ by PySem.W.S.modZ_eq
name_quick tw4933834842325187142 for PySem.W.S.modZ by PySem.W.S.modZ_eq
name_quick tw6929956602132211858 for PySem.W.S.modZ by PySem.W.S.modZ_eq
name_quick tw4071324889030633612 for PySem.W.S.modZ by PySem.W.S.modZ_eq
name_quick tw11130039905162102590 for PySem.W.S.modZ by PySem.W.S.modZ_eq
name_quick tw5111356299099525756 for PySem.W.S.modZ by PySem.W.S.modZ_eq
name_quick tw16241802466949684156 for PySem.W.S.modZ by PySem.W.S.modZ_eq
name_quick tw13317431791736044220 for PySem.W.S.modZ by PySem.W.S.modZ_eq
name_quick tw9467589175468403638 for PySem.W.S.modZ by PySem.W.S.modZ_eq
name_quick tw17279654841073493023 for PySem.W.S.modZ by PySem.W.S.modZ_eq
name_quick tw10528696920762540405 for PySem.W.S.modZ by PySem.W.S.modZ_eq
name_quick tw3764465048917985505 for PySem.W.S.modZ by PySem.W.S.modZ_eq
name_quick tw17828083071136270317 for PySem.W.S.modZ by PySem.W.S.modZ_eq
name_quick tw16350708796919097252 for PySem.W.S.modZ by PySem.W.S.modZ_eq
name_quick tw2283851925072248500 for PySem.W.S.modZ by PySem.W.S.modZ_eq
name_quick tw9759809726879904816 for PySem.W.S.modZ by PySem.W.S.modZ_eq
name_quick tw932993149863042379 for PySem.W.S.modZ by PySem.W.S.modZ_eq
name_quick tw5902227825499142635 for PySem.W.S.modZ by PySem.W.S.modZ_eq
name_quick tw11566699232636054958 for PySem.W.S.modZ by PySem.W.S.modZ_eq
name_quick tw13559156169165276386 for PySem.W.S.modZ by PySem.W.S.modZ_eq
name_quick tw7392212959928792091 for PySem.W.S.modZ by PySem.W.S.modZ_eq
name_quick tw17954471519018878134 for PySem.W.S.modZ by PySem.W.S.modZ_eq
name_quick tw9315938663221665524 for PySem.W.S.modZ by PySem.W.S.modZ_eq
name_quick tw8595292554425487202 for PySem.W.S.modZ by PySem.W.S.modZ_eq
name_quick tw13607416678640721797 for PySem.W.S.modZ by PySem.W.S.modZ_eq
name_quick tw4797165386629745026 for PySem.W.S.modZ by PySem.W.S.modZ_eq
name_quick tw8206430501311747189 for PySem.W.S.modZ by PySem.W.S.modZ_eq
name_quick tw16846860572762119324 for PySem.W.S.modZ by PySem.W.S.modZ_eq
name_quick tw8119918657739134586 for PySem.W.S.modZ by PySem.W.S.modZ_eq
name_quick tw1258717718454355964 for PySem.W.S.modZ by PySem.W.S.modZ_eq
name_quick tw7276740287692124622 for PySem.W.S.modZ by PySem.W.S.modZ_eq
name_quick tw9285146279643344392 for PySem.W.S.modZ by PySem.W.S.modZ_eq
name_quick tw8579058602437062094 for PySem.W.S.modZ by PySem.W.S.modZ_eq
name_quick tw2862820112641550484 for PySem.W.S.modZ by PySem.W.S.modZ_eq
name_quick tw505943868828395459 for PySem.W.S.modZ by PySem.W.S.modZ_eq
name_quick tw4549333791460862111 for PySem.W.S.modZ by PySem.W.S.modZ_eq
name_quick tw1092655722715705105 for PySem.W.S.modZ by PySem.W.S.modZ_eq
name_quick tw16817318245366136608 for PySem.W.S.modZ by PySem.W.S.modZ_eq
name_quick tw9763268239775435451 for PySem.W.S.modZ by PySem.W.S.modZ_eq
name_quick tw7232422423428716515 for PySem.W.S.modZ by PySem.W.S.modZ_eq
name_quick tw14108194823987119177 for PySem.W.S.modZ by PySem.W.S.modZ_eq
name_quick tw7892128664451923741 for PySem.W.S.modZ by PySem.W.S.modZ_eq
name_quick tw1620339239838986703 for PySem.W.S.modZ by PySem.W.S.modZ_eq
name_quick tw10205541121877940668 for PySem.W.S.modZ by PySem.W.S.modZ_eq
name_quick tw14333388528381170442 for PySem.W.S.modZ by PySem.W.S.modZ_eq
name_quick tw14537914154153760125 for PySem.W.S.modZ by PySem.W.S.modZ_eq
name_quick tw4679858250743294509 for PySem.W.S.modZ by PySem.W.S.modZ_eq
name_quick tw1258299570235058372 for PySem.W.S.modZ by PySem.W.S.modZ_eq
name_quick tw17988542015724977305 for PySem.W.S.modZ by PySem.W.S.modZ_eq
name_quick tw6434138532213402376 for PySem.W.S.modZ by PySem.W.S.modZ_eq
name_quick tw10029231156530900338 for PySem.W.S.modZ by PySem.W.S.modZ_eq
name_quick tw2627984346626558326 for PySem.W.S.modZ by PySem.W.S.modZ_eq
name_quick tw12290603225136948437 for PySem.W.S.modZ by PySem.W.S.modZ_eq
name_quick tw13254397897704925713 for PySem.W.S.modZ by PySem.W.S.modZ_eq
name_quick tw2408619945344806742 for PySem.W.S.modZ by PySem.W.S.modZ_eq
name_quick tw14223099787259518943 for PySem.W.S.modZ by PySem.W.S.modZ_eq
name_quick tw4552823106982906706 for PySem.W.S.modZ by PySem.W.S.modZ_eq
name_quick tw15894407043143930727 for PySem.W.S.modZ by PySem.W.S.modZ_eq
name_quick tw14168537005229113720 for PySem.W.S.modZ by PySem.W.S.modZ_eq
name_quick tw17888162413812561239 for PySem.W.S.modZ by PySem.W.S.modZ_eq
name_quick tw9564595351457756722 for PySem.W.S.modZ by PySem.W.S.modZ_eq
name_quick tw18056578402003937789 for PySem.W.S.modZ by PySem.W.S.modZ_eq
name_quick tw9011979029575296479 for PySem.W.S.modZ by PySem.W.S.modZ_eq
name_quick tw11352348585887460823 for PySem.W.S.modZ by PySem.W.S.modZ_eq
name_quick tw17018628822417861297 for PySem.W.S.modZ by PySem.W.S.modZ_eq
name_quick tw13215998728584607739 for PySem.W.S.modZ by PySem.W.S.modZ_eq
name_quick tw8424611434330503625 for PySem.W.S.modZ by PySem.W.S.modZ_eq
name_quick tw1414301608579184545 for PySem.W.S.modZ by PySem.W.S.modZ_eq
name_quick tw392140993173905013 for PySem.W.S.modZ by PySem.W.S.modZ_eq
name_quick tw11186114360453789277 for PySem.W.S.modZ by PySem.W.S.modZ_eq
name_quick tw3778451253796500701 for PySem.W.S.modZ by PySem.W.S.modZ_eq
name_quick tw10938465397075749097 for PySem.W.S.modZ by PySem.W.S.modZ_eq
name_quick tw6448080314894763839 for PySem.W.S.modZ by PySem.W.S.modZ_eq
name_quick tw4658958612460137192 for PySem.W.S.modZ by PySem.W.S.modZ_eq
name_quick tw5978237884098788730 for PySem.W.S.modZ by PySem.W.S.modZ_eq
name_quick tw8537084889766193716 for PySem.W.S.modZ by PySem.W.S.modZ_eq
name_quick tw682011567655089306 for PySem.W.S.modZ by PySem.W.S.modZ_eq
name_quick tw11543547407058413889 for PySem.W.S.modZ by PySem.W.S.modZ_eq
name_quick tw3619232141914619222 for PySem.W.S.modZ by PySem.W.S.modZ_eq
name_quick tw5770868932273138760 for PySem.W.S.modZ by PySem.W.S.modZ_eq
name_quick tw9407582987413476825 for PySem.W.S.modZ by PySem.W.S.modZ_eq
name_quick tw17730448691065144110 for PySem.W.S.modZ by PySem.W.S.modZ_eq
name_quick tw470574548607681690 for PySem.W.S.modZ by PySem.W.S.modZ_eq
name_quick tw14311459727803291754 for PySem.W.S.modZ by PySem.W.S.modZ_eq
name_quick tw16916688483869632129 for PySem.W.S.modZ by PySem.W.S.modZ_eq
name_quick tw15490439104401381959 for PySem.W.S.modZ by PySem.W.S.modZ_eq
name_quick tw1829445100760108279 for PySem.W.S.modZ by PySem.W.S.modZ_eq
name_quick tw6683783046931543321 for PySem.W.S.modZ by PySem.W.S.modZ_eq
name_quick tw6679490504615227074 for PySem.W.S.modZ by PySem.W.S.modZ_eq
name_quick tw13335737130258781183 for PySem.W.S.modZ by PySem.W.S.modZ_eq
name_quick tw18350330562280901221 for PySem.W.S.modZ by PySem.W.S.modZ_eq
name_quick tw900395245841561262 for PySem.W.S.modZ by PySem.W.S.modZ_eq
name_quick tw3636048126100218174 for PySem.W.S.modZ by PySem.W.S.modZ_eq
name_quick tw4527066259768149269 for PySem.W.S.modZ by PySem.W.S.modZ_eq
name_quick tw17069979004554194336 for PySem.W.S.modZ by PySem.W.S.modZ_eq
name_quick tw10424941004445345732 for PySem.W.S.modZ by PySem.W.S.modZ_eq
name_quick tw2664551874359636763 for PySem.W.S.modZ by PySem.W.S.modZ_eq
name_quick tw13759679279233594173 for PySem.W.S.modZ by PySem.W.S.modZ_eq
name_quick tw3891137856419664920 for PySem.W.S.modZ by PySem.W.S.modZ_eq
name_quick tw13180171748994924942 for PySem.W.S.modZ by PySem.W.S.modZ_eq
name_quick tw951843321253372498 for PySem.W.S.modZ by PySem.W.S.modZ_eq
name_quick tw117213463901210413 for PySem.W.S.modZ by PySem.W.S.modZ_eq
name_quick tw43969757491396457 for PySem.W.S.modZ by PySem.W.S.modZ_eq
name_quick tw14884601019740666482 for PySem.W.S.modZ by PySem.W.S.modZ_eq
name_quick tw16531745337717519161 for PySem.W.S.modZ by PySem.W.S.modZ_eq
name_quick tw13789449189825218787 for PySem.W.S.modZ by PySem.W.S.modZ_eq
name_quick tw1962928258387122110 for PySem.W.S.modZ by PySem.W.S.modZ_eq
name_quick tw5529568453561195837 for PySem.W.S.modZ by PySem.W.S.modZ_eq
name_quick tw6004533443673955352 for PySem.W.S.modZ by PySem.W.S.modZ_eq
name_quick tw14126943448341045398 for PySem.W.S.modZ by PySem.W.S.modZ_eq
name_quick tw9862997608875712007 for PySem.W.S.modZ by PySem.W.S.modZ_eq
name_quick tw16548257151911338427 for PySem.W.S.modZ by PySem.W.S.modZ_eq
name_quick tw3577408171920636059 for PySem.W.S.modZ by PySem.W.S.modZ_eq
name_quick tw11317593695737139937 for PySem.W.S.modZ by PySem.W.S.modZ_eq
name_quick tw12659028871203227004 for PySem.W.S.modZ by PySem.W.S.modZ_eq
name_quick tw136631920214876835 for PySem.W.S.modZ by PySem.W.S.modZ_eq
name_quick tw1218959903707654005 for PySem.W.S.modZ by PySem.W.S.modZ_eq
name_quick tw10996506086634736982 for PySem.W.S.modZ by PySem.W.S.modZ_eq
name_quick tw11788150170368784547 for PySem.W.S.modZ by PySem.W.S.modZ_eq
name_quick tw6380047634161181297 for PySem.W.S.modZ by PySem.W.S.modZ_eq
name_quick tw10010936943081839664 for PySem.W.S.modZ by PySem.W.S.modZ_eq
name_quick tw11277716924127702174 for PySem.W.S.modZ by PySem.W.S.modZ_eq
name_quick tw9948023125614773506 for PySem.W.S.modZ by PySem.W.S.modZ_eq
name_quick tw12635297910168745909 for PySem.W.S.modZ by PySem.W.S.modZ_eq
name_quick tw12866136484021002089 for PySem.W.S.modZ by PySem.W.S.modZ_eq
name_quick tw6792406925840432001 for PySem.W.S.modZ by PySem.W.S.modZ_eq
name_quick tw15168306246750427876 for PySem.W.S.modZ by PySem.W.S.modZ_eq
name_quick tw15980859228951719591 for PySem.W.S.modZ by PySem.W.S.modZ_eq
name_quick tw7275051467321613617 for PySem.W.S.modZ by PySem.W.S.modZ_eq
name_quick tw1402947280878808549 for PySem.W.S.modZ by PySem.W.S.modZ_eq
name_quick tw7323676302269181137 for PySem.W.S.modZ by PySem.W.S.modZ_eq
name_quick tw17476080006546285661 for PySem.W.S.modZ by PySem.W.S.modZ_eq
name_quick tw17730428716208468724 for PySem.W.S.modZ by PySem.W.S.modZ_eq
name_quick tw16741492637210864865 for PySem.W.S.modZ by PySem.W.S.modZ_eq
name_quick tw17964007177503468958 for PySem.W.S.modZ by PySem.W.S.modZ_eq
name_quick tw8703263022893421829 for PySem.W.S.modZ by PySem.W.S.modZ_eq
name_quick tw15475462885187679331 for PySem.W.S.modZ by PySem.W.S.modZ_eq
name_quick tw5721027456603625697 for PySem.W.S.modZ by PySem.W.S.modZ_eq
name_quick tw2719445374943340272 for PySem.W.S.modZ by PySem.W.S.modZ_eq
name_quick tw12268644228514654432 for PySem.W.S.modZ by PySem.W.S.modZ_eq
name_quick tw9908251947323293946 for PySem.W.S.modZ by PySem.W.S.modZ_eq
name_quick tw3105397867545767578 for PySem.W.S.modZ by PySem.W.S.modZ_eq
name_quick tw17975652961387846372 for PySem.W.S.modZ by PySem.W.S.modZ_eq
name_quick tw16643706677886111943 for PySem.W.S.modZ by PySem.W.S.modZ_eq
name_quick tw11729385059970357855 for PySem.W.S.modZ by PySem.W.S.modZ_eq
name_quick tw11939915149646268982 for PySem.W.S.modZ by PySem.W.S.modZ_eq
name_quick tw17672482021469178181 for PySem.W.S.modZ by PySem.W.S.modZ_eq
namespace Mine
abbrev Wrap (P : Prop) (_ : P) : Prop := P
theorem unwrap {P : Prop} (h : P) : Wrap P h := h
open_top hd for PySem.Challenge.rw_up0059_01
theorem off0 : True := by
  w_top off
  trivial
end Mine
section
namespace Mine
/-- a region as the types hold it -/
inductive Reg where
  | none
  | int (i : Int)
  | str (x : Str)
inductive RegIs : Value → Reg → Prop
  | none : RegIs .none .none
  | int (i : Int) (t : Tok) : RegIs (.int i t) (.int i)
  | str (x : Str) (t : Tok) : RegIs (.str x t) (.str x)
/-- the names of the types with one parameter -/
inductive Nm where
  | W | N | E
deriving DecidableEq
abbrev Nm.s : Nm → Str
  | .W => Str.ofString "W"
  | .N => Str.ofString "N"
  | .E => Str.ofString "E"
inductive Ty where
  | byte
  | par
  | ref (r : Reg) (t : Ty)
  | box (t : Ty)
  | arr (t : Ty)
  | pair (t u : Ty)
  | g (r : Reg)
  | ad (n : Nm) (r : Reg) (t : Ty)
abbrev tupO (vs : List Value) : Obj := { cls := .type "tuple", data := .seq vs.toArray 0 }
abbrev st (x : String) (t : Tok) : Value := .str (Str.ofString x) t
abbrev Led := List (Addr × Obj)
inductive TyIn (news : Led) : Value → Ty → Prop
  | byte {a : Addr} {k1 k2 : Tok} : (a, tupO [st "int" k1, st "u8" k2]) ∈ news → TyIn news (.ref a) .byte
  | par {a : Addr} {k1 k2 : Tok} : (a, tupO [st "param" k1, st "T" k2]) ∈ news → TyIn news (.ref a) .par
  | ref {a : Addr} {k1 : Tok} {rv v : Value} {r : Reg} {t : Ty} : (a, tupO [st "ref" k1, rv, .bool false, v]) ∈ news → RegIs rv r → TyIn news v t → TyIn news (.ref a) (.ref r t)
  | box {a : Addr} {k1 : Tok} {v : Value} {t : Ty} : (a, tupO [st "box" k1, v]) ∈ news → TyIn news v t → TyIn news (.ref a) (.box t)
  | arr {a : Addr} {k1 k2 : Tok} {v : Value} {t : Ty} : (a, tupO [st "array" k1, v, .int 2 k2]) ∈ news → TyIn news v t → TyIn news (.ref a) (.arr t)
  | pair {a b : Addr} {k1 : Tok} {v u : Value} {t t' : Ty} : (a, tupO [st "tuple" k1, .ref b]) ∈ news → (b, tupO [v, u]) ∈ news → TyIn news v t → TyIn news u t' → TyIn news (.ref a) (.pair t t')
  | g {a b c : Addr} {k1 k2 : Tok} {rv : Value} {r : Reg} : (a, tupO [st "adt" k1, st "G" k2, .ref b, .ref c]) ∈ news → (b, tupO [rv]) ∈ news → (c, tupO []) ∈ news → RegIs rv r → TyIn news (.ref a) (.g r)
  | ad {a b c : Addr} {k1 k2 : Tok} {rv v : Value} {n : Nm} {r : Reg} {t : Ty} : (a, tupO [st "adt" k1, .str n.s k2, .ref b, .ref c]) ∈ news → (b, tupO [rv]) ∈ news → (c, tupO [v]) ∈ news → RegIs rv r → TyIn news v t → TyIn news (.ref a) (.ad n r t)
theorem TyIn.mono {news news' : Led} {v : Value} {t : Ty} (h : TyIn news v t) (hs : ∀ p ∈ news, p ∈ news') : TyIn news' v t := by
  induction h with
  | byte h => exact .byte (hs _ h)
  | par h => exact .par (hs _ h)
  | ref h r _ ih => exact .ref (hs _ h) r ih
  | box h _ ih => exact .box (hs _ h) ih
  | arr h _ ih => exact .arr (hs _ h) ih
  | pair h h' _ _ ih ih' => exact .pair (hs _ h) (hs _ h') ih ih'
  | g h h' h'' r => exact .g (hs _ h) (hs _ h') (hs _ h'') r
  | ad h h' h'' r _ ih => exact .ad (hs _ h) (hs _ h') (hs _ h'') r ih
def Ty.size : Ty → Nat
  | .byte => 1
  | .par => 1
  | .ref _ t => t.size + 1
  | .box t => t.size + 1
  | .arr t => t.size + 1
  | .pair t u => t.size + u.size + 1
  | .g _ => 1
  | .ad _ _ t => t.size + 1
def Ty.deep : Ty → Nat
  | .byte => 1
  | .par => 1
  | .ref _ t => t.deep + 1
  | .box t => t.deep + 1
  | .arr t => t.deep + 1
  | .pair t u => max t.deep u.deep + 1
  | .g _ => 1
  | .ad _ _ t => t.deep + 1
def Ty.erase : Ty → Ty
  | .byte => .byte
  | .par => .par
  | .ref _ t => .ref .none t.erase
  | .box t => .box t.erase
  | .arr t => .arr t.erase
  | .pair t u => .pair t.erase u.erase
  | .g _ => .g .none
  | .ad n _ t => .ad n .none t.erase
abbrev P0 : Program := PySem.Challenge.rw_up0059_01.row.prog
/-- no address of the one is one of the other -/
def Apart (l t : Led) : Prop := ∀ q ∈ l, ∀ p ∈ t, p.1 ≠ q.1
def Off (d : Addr) (l : Led) : Prop := ∀ q ∈ l, d ≠ q.1
/-- a call that reads what stands (news, a part of the ledger led) and makes new things alone -/
def Reads1 (w : World) (p : Program) (loose : List Str) (mean : ExcName → Option Value) (mg mb : Str → Option Value) (f : Addr) (vs : List Value) (news : Led) (D U : Nat) (Out : Led → Value → Prop) : Prop :=
  ∀ (dp un : Nat) (gd : Option (List Code)) (cn : Str) (cs : Scope) (a : Addr) (ccd : Value) (cl : List (Str × Addr)) (outer : List Env) (A₀ : Around) (base h₀ : Heap) (L : Addr) (m : Str → Option Value) (s : Shared) (led : Led)
    (Q E : Value → Shared → Prop),
    Below A₀ base outer h₀ → Fr h₀ L s.heap m → (hd.heap_39 w.params).In h₀ → News h₀ L s.heap led → (∀ p ∈ news, p ∈ led) → Top p loose mean mg mb h₀ → cs.kind = .function → dp + D < recursionLimit → un + U < cLine →
    (∀ r tl h' tk', Fr h₀ L h' m → News h₀ L h' (tl ++ led) → Apart led tl → Out (tl ++ news) r → Q r { s with heap := h', toks := tk' }) →
    wpAny (model P0 w) (ktrTop dp un gd cn cs L a ccd cl outer) (call (.ref f) vs) Q E s
section
variable {w : World} {p : Program} {loose : List Str} {mean : ExcName → Option Value} {mg mb : Str → Option Value} {f : Addr} {vs : List Value} {news : Led} {D U : Nat} {Out : Led → Value → Prop} {dp un : Nat} {gd : Option (List Code)} {cn : Str} {cs : Scope} {a : Addr} {ccd : Value} {cl : List (Str × Addr)} {outer : List Env} {A₀ : Around} {base h₀ : Heap} {L : Addr} {m : Str → Option Value} {s : Shared} {led : Led}
    {Q E : Value → Shared → Prop}
theorem Reads1.use (C : Reads1 w p loose mean mg mb f vs news D U Out) (B : Below A₀ base outer h₀) (F : Fr h₀ L s.heap m) (X : (hd.heap_39 w.params).In h₀) (N : News h₀ L s.heap led) (sub : ∀ p ∈ news, p ∈ led) (T : Top p loose mean mg mb h₀) (hk : cs.kind = .function) (rd : dp + D < recursionLimit) (ru : un + U < cLine)
    (ret : ∀ r tl h' tk', Fr h₀ L h' m → News h₀ L h' (tl ++ led) → Apart led tl → Out (tl ++ news) r → Q r { s with heap := h', toks := tk' }) :
    wpAny (model P0 w) (ktrTop dp un gd cn cs L a ccd cl outer) (call (.ref f) vs) Q E s := C _ _ _ _ _ _ _ _ _ _ _ _ _ _ _ _ _ _ B F X N sub T hk rd ru ret
end
theorem allLt_app {d : Addr} : ∀ {l l' : Led}, AllLt d (l ++ l') ↔ AllLt d l ∧ AllLt d l'
  | [], _ => by simp [AllLt]
  | _ :: _, _ => by simp [AllLt, allLt_app, and_assoc]
theorem allLt_iff {d : Addr} : ∀ {l : Led}, AllLt d l ↔ ∀ p ∈ l, p.1 < d
  | [] => by simp [AllLt]
  | _ :: _ => by simp [AllLt, allLt_iff]
theorem off1_app {d : Addr} : ∀ {l l' : Led}, LCg.Off1 d (l ++ l') ↔ LCg.Off1 d l ∧ LCg.Off1 d l'
  | [], _ => by simp [LCg.Off1]
  | _ :: _, _ => by simp [LCg.Off1, off1_app, and_assoc]
theorem off_lt {d : Addr} : ∀ {l : Led}, AllLt d l → Off d l
  | [], _ => fun _ h => nomatch h
  | _ :: _, h => fun q hq => by
    rcases List.mem_cons.mp hq with rfl | hq
    · exact Nat.ne_of_gt h.1
    · exact off_lt h.2 q hq
theorem off_lt1 {d k : Addr} : ∀ {l : Led}, AllLt d l → Off (d + k) l
  | [], _ => fun _ h => nomatch h
  | _ :: _, h => fun q hq => by
    rcases List.mem_cons.mp hq with rfl | hq
    · exact Nat.ne_of_gt (Nat.lt_of_lt_of_le h.1 (Nat.le_add_right _ _))
    · exact off_lt1 h.2 q hq
theorem off_lt2 {c d : Nat} {l : Led} (k : c < d) (h : AllLt c l) : Off d l := fun q hq => by
  have h1 := (allLt_iff.mp h) q hq
  exact Nat.ne_of_gt (Nat.lt_trans h1 k)
theorem off_1 {d : Addr} : ∀ {l : Led}, LCg.Off1 d l → Off d l
  | [], _ => fun _ h => nomatch h
  | _ :: _, h => fun q hq => by
    rcases List.mem_cons.mp hq with rfl | hq
    · exact Ne.symm h.1
    · exact off_1 h.2 q hq
/-- the ledger led is tl upon what stood; what is in tl lies off what stood -/
inductive Ext (base : Led) : Led → Led → Prop
  | base : Ext base base []
  | cons {x : Addr × Obj} {l tl : Led} : Ext base l tl → Off x.1 base → Ext base (x :: l) (x :: tl)
  | app {t l tl : Led} : Ext base l tl → Apart base t → Ext base (t ++ l) (t ++ tl)
theorem Ext.eq {base led tl : Led} (h : Ext base led tl) : led = tl ++ base := by
  induction h with
  | base => rfl
  | cons _ _ ih => rw [ih]; rfl
  | app _ _ ih => rw [ih, List.append_assoc]
theorem Ext.apart {base led tl : Led} (h : Ext base led tl) : Apart base tl := by
  induction h with
  | base => intro _ _ _ h; cases h
  | cons _ l ih =>
    intro q hq p hp
    rcases List.mem_cons.mp hp with rfl | hp
    · exact l q hq
    · exact ih q hq p hp
  | app _ l ih =>
    intro q hq p hp
    rcases List.mem_append.mp hp with hp | hp
    · exact l q hq p hp
    · exact ih q hq p hp
theorem ap_cons {x : Addr × Obj} {base t : Led} (h : Apart (x :: base) t) : Apart base t := fun q hq => h q (.tail _ hq)
theorem ap_app {base t l : Led} (h : Apart (l ++ base) t) : Apart base t := fun q hq => h q (List.mem_append_right _ hq)
theorem Apart.mono {l l' t : Led} (h : Apart l' t) (s : ∀ p ∈ l, p ∈ l') : Apart l t := fun q hq => h q (s q hq)
theorem sub_left {a l t : Led} (h : ∀ p ∈ a, p ∈ t) : ∀ p ∈ a, p ∈ t ++ l := fun p hp => List.mem_append_left _ (h p hp)
theorem sub_use {l l' : Led} {q : Addr × Obj} (s : ∀ p ∈ l, p ∈ l') (h : q ∈ l) : q ∈ l' := s q h
theorem sub_refl {l : Led} : ∀ p ∈ l, p ∈ l := fun _ h => h
theorem sub_cons {a l : Led} {x : Addr × Obj} (h : ∀ p ∈ a, p ∈ l) : ∀ p ∈ a, p ∈ x :: l := fun p hp => .tail _ (h p hp)
theorem sub_app {a l t : Led} (h : ∀ p ∈ a, p ∈ l) : ∀ p ∈ a, p ∈ t ++ l := fun p hp => List.mem_append_right _ (h p hp)
theorem sub_appL {a l t : Led} (h : ∀ p ∈ t, p ∈ l) (k : ∀ p ∈ a, p ∈ l) : ∀ p ∈ t ++ a, p ∈ l := fun p hp => (List.mem_append.mp hp).elim (h p) (k p)
theorem sub_here {l t : Led} : ∀ p ∈ t, p ∈ t ++ l := fun _ h => List.mem_append_left _ h
theorem fin1 {h₀ h' : Heap} {L : Addr} {m : Str → Option Value} {s : Shared} {led led' tl news : Led} {Q : Value → Shared → Prop} {Out : Led → Value → Prop} {r : Value} {tk' : Nat}
    (hret : ∀ r tl h' tk', Fr h₀ L h' m → News h₀ L h' (tl ++ led) → Apart led tl → Out (tl ++ news) r → Q r { s with heap := h', toks := tk' })
    (F : Fr h₀ L h' m) (N : News h₀ L h' led') (e : Ext led led' tl) (o : Out (tl ++ news) r) : Q r { s with heap := h', toks := tk' } :=
  hret r tl h' tk' F (e.eq ▸ N) e.apart o
end Mine
end
section
namespace Mine
section
variable {prog : Program} {w : World} {A : Around} {E : Value → Shared → Prop} {s : Shared} {h₀ : Heap} {L : Addr} {m : Str → Option Value} {env : Env}
/-- a comprehension's source is a tuple of the ledger -/
def SrcT (prog : Program) (w : World) (A : Around) (h₀ : Heap) (L : Addr) (m : Str → Option Value) (env : Env) (elt : Expr) (x : Str) (scope : Scope) (cl : List (Str × Addr)) (Fin : Shared → List Value → Led → Prop) (xv : Value) (s₁ : Shared) : Prop :=
  ∃ (ax : Addr) (o : Obj) (vs : List Value) (news : Led), xv = .ref ax ∧ A.handled = none ∧ Fr h₀ L s₁.heap m ∧ News h₀ L s₁.heap news ∧ (ax, o) ∈ news ∧ o.cls = .type "tuple" ∧ (∃ k, o.data = .seq vs.toArray k) ∧ vs.length ≤ sizeLine ∧
    ∀ s₂ : Shared, (∃ h, s₂ = { s₁ with heap := h }) → LCg.CompRest prog w A h₀ L m env elt x scope cl s₂ (fun nw => (ax, o) ∈ nw) (fun i v => vs.toArray[i]? = some v) (Fin s₂) vs.length 0 [] news
theorem SrcT.intro {elt : Expr} {x : Str} {scope : Scope} {cl : List (Str × Addr)} {Fin : Shared → List Value → Led → Prop} {ax : Addr} {vs : List Value} {news : Led} {s₁ : Shared} {k : Nat}
    (hh : A.handled = none) (F : Fr h₀ L s₁.heap m) (N : News h₀ L s₁.heap news) (hm : (ax, ({ cls := .type "tuple", data := .seq vs.toArray k } : Obj)) ∈ news) (hsz : vs.length ≤ 1000)
    (h : ∀ g, LCg.CompRest prog w A h₀ L m env elt x scope cl { s₁ with heap := g } (fun nw => (ax, ({ cls := .type "tuple", data := .seq vs.toArray k } : Obj)) ∈ nw) (fun i v => vs.toArray[i]? = some v) (Fin { s₁ with heap := g }) vs.length 0 [] news) :
    SrcT prog w A h₀ L m env elt x scope cl Fin (.ref ax) s₁ := ⟨ax, _, vs, news, rfl, hh, F, N, hm, rfl, ⟨_, rfl⟩, by rw [sizeLine_eq]; lia, fun _ ⟨g, e⟩ => e ▸ h g⟩
theorem ListComp_T {elt iter : Expr} {x : Str} {px : Pos} {scope : Scope} {cl : List (Str × Addr)} {pos : Pos} {Q : Value → Shared → Prop} (F₀ : Fr h₀ L s.heap m)
    (hclos : closureFor scope env = pure cl) (hcell : ∀ y ∈ scope.names, y.2 ≠ .cell) (hkind : scope.kind = .function)
    (hnames : ∀ y ∈ scope.names, y.2 = .local → scope.names.lookup y.1 = some .local) (hx : scope.names.lookup x = some .local)
    (h : wpAny (model prog w) A (eval iter env) (SrcT prog w A h₀ L m env elt x scope cl (fun s₂ => LCg.FinE h₀ L m s₂ Q)) E s)
    (hs : ∀ x, foldedSetIterable iter env x = pure x := by intro _; rfl) :
    wpAny (model prog w) A (eval (.ListComp elt [⟨.Name x px, iter, [], 0⟩] scope pos) env) Q E s := by
  rw [eval_ListComp]
  refine wpAny_comprehension_free (use := none) rfl hs hclos hkind hnames (wpAny_mono h (fun xv s₁ h₁ => ?_) fun _ _ e => e)
  obtain ⟨ax, o, vs, news, rfl, hh, F, N, hm, hc, ⟨k, hd⟩, hsz, R⟩ := h₁
  have hl : s₁.heap.IsTuple ax vs.toArray := ⟨o, (N _ hm).1, hc, k, hd⟩
  have hlt : ax < s₁.heap.objs.size := Heap.lt_size (N _ hm).1
  refine wpAny_pyIter_tuple hl ?_
  have up : ∀ b o, s₁.heap.get? b = some o → (s₁.heap.push { cls := .type "tuple_iterator", data := .fields #[.ref ax, .int 0 0] }).get? b = some o := fun b o e => Heap.get?_push_of_some _ e
  have W := Walks.tuple (prog := prog) (w := w) hh s₁.heap.objs.size ax (Nat.ne_of_lt hlt) vs.toArray
  rw [show vs.toArray.size = vs.length by simp] at W
  have W' : Walks prog w A s₁.heap.objs.size [s₁.heap.objs.size, ax] [s₁.heap.objs.size] vs.length (fun i v => vs.toArray[i]? = some v) (fun i h => h.IsTupleIter s₁.heap.objs.size ax i ∧ h.IsTuple ax vs.toArray) := W
  refine LCg.block_U W' hsz (fun i h st => by obtain ⟨o, e, _⟩ := st.1; exact ⟨o, e⟩) (S := fun nw => (ax, o) ∈ nw) (fun i h h' o' nw st e e' k' N' S => ⟨by obtain ⟨o₁, q, r⟩ := st.1; rw [e] at q; cases q; exact ⟨o', e', r⟩, ⟨o, (N' _ S).1, hc, k, hd⟩⟩) hcell hkind hx ⟨⟨_, Heap.get?_push_size _ rfl, rfl, rfl⟩, hl.at fun o e => up _ _ e⟩ (fun b hb => ?_)
      (F.keeps up) (N.grown up) (Nat.ne_of_lt F.ns.lt) (next_is_new F) (fun p hp => Nat.ne_of_lt (Heap.lt_size (N p hp).1)) hm (R _ ⟨_, rfl⟩) ?_
  · show b < (s₁.heap.push _).objs.size
    rw [Heap.size_push]
    rcases List.mem_cons.mp hb with rfl | hb
    · exact Nat.lt_succ_self _
    · rw [List.mem_singleton.mp hb]; exact Nat.lt_succ_of_lt hlt
  · intro D C h tk m' ys news' F' N' o1 hn hC₀ hD₀ hCL hDL hCD offC fin
    refine ⟨m', hn, fun h'' hs'' => fin D h'' tk (F'.change hs'' hCL hC₀) (fun p hp => ?_) o1⟩
    refine ⟨hs''.extBut _ _ ?_ (N' p hp).1, (N' p hp).2⟩
    rcases List.mem_cons.mp hp with rfl | hp
    · exact Ne.symm hCD
    · exact offC p hp
end
theorem off3_app {I C D : Addr} : ∀ {l l' : Led}, LCg.Off3 I C D l → LCg.Off3 I C D l' → LCg.Off3 I C D (l ++ l')
  | [], _, _, h => h
  | _ :: _, _, h, h' => ⟨h.1, off3_app h.2 h'⟩
theorem off3_above {I C D : Addr} {oI oC oD : Obj} {news tl : Led} (h : Apart ((I, oI) :: (C, oC) :: (D, oD) :: news) tl) : LCg.Off3 I C D tl :=
  LCg.Off3.of fun p hp => ⟨h _ (.head _) p hp, h _ (.tail _ (.head _)) p hp, h _ (.tail _ (.tail _ (.head _))) p hp⟩
/-- an element's end: the call made what lies above all -/
theorem compEnd_up {h₀ : Heap} {L I C D : Addr} {m : Str → Option Value} {s₁ : Shared} {oI oC oD : Obj} {S : Led → Prop} {rest : Value → Led → Prop} {y : Value} {h' : Heap} {tk : Nat} {news tl : Led}
    (F : Fr h₀ L h' m) (N : News h₀ L h' (tl ++ (I, oI) :: (C, oC) :: (D, oD) :: news)) (lt : Apart ((I, oI) :: (C, oC) :: (D, oD) :: news) tl) (off : LCg.Off3 I C D news) (hS : S (tl ++ news)) (r : rest y (tl ++ news)) :
    LCg.CompEnd h₀ L m s₁ I oI C oC D oD S rest y { s₁ with heap := h', toks := tk } :=
  LCg.CompEnd.intro F N (tl ++ news) (fun p hp => by
    simp only [List.mem_cons, List.mem_append] at hp ⊢
    rcases hp with h | h | h | h | h <;> simp [h]) (off3_app (off3_above lt) off) hS r
theorem compEnd_0 {h₀ : Heap} {L I C D : Addr} {m : Str → Option Value} {s₁ : Shared} {oI oC oD : Obj} {S : Led → Prop} {rest : Value → Led → Prop} {y : Value} {h' : Heap} {tk : Nat} {news : Led}
    (F : Fr h₀ L h' m) (N : News h₀ L h' ((I, oI) :: (C, oC) :: (D, oD) :: news)) (off : LCg.Off3 I C D news) (hS : S news) (r : rest y news) :
    LCg.CompEnd h₀ L m s₁ I oI C oC D oD S rest y { s₁ with heap := h', toks := tk } :=
  LCg.CompEnd.intro F N news (fun _ h => h) off hS r
end Mine
namespace Mine
/-- one entry is taken out of the ledger -/
inductive Pull (x : Addr × Obj) : Led → Led → Prop
  | head {r : Led} : Pull x (x :: r) r
  | tail {y : Addr × Obj} {l r : Led} : Pull x l r → Pull x (y :: l) (y :: r)
  | app {t l r : Led} : Pull x l r → Pull x (t ++ l) (t ++ r)
theorem Pull.mem {x : Addr × Obj} {l r : Led} (h : Pull x l r) : ∀ q, q ∈ x :: r → q ∈ l := by
  induction h with
  | head => exact fun _ h => h
  | tail _ ih =>
    intro q hq
    rcases List.mem_cons.mp hq with rfl | hq
    · exact .tail _ (ih _ (.head _))
    · rcases List.mem_cons.mp hq with rfl | hq
      · exact .head _
      · exact .tail _ (ih _ (.tail _ hq))
  | app _ ih =>
    intro q hq
    rcases List.mem_cons.mp hq with rfl | hq
    · exact List.mem_append_right _ (ih _ (.head _))
    · rcases List.mem_append.mp hq with hq | hq
      · exact List.mem_append_left _ hq
      · exact List.mem_append_right _ (ih _ (.tail _ hq))
theorem Pull.back {x : Addr × Obj} {l r : Led} (h : Pull x l r) : ∀ q, q ∈ l → q ∈ x :: r := by
  induction h with
  | head => exact fun _ h => h
  | tail _ ih =>
    intro q hq
    rcases List.mem_cons.mp hq with rfl | hq
    · exact .tail _ (.head _)
    · rcases List.mem_cons.mp (ih _ hq) with rfl | hq
      · exact .head _
      · exact .tail _ (.tail _ hq)
  | app _ ih =>
    intro q hq
    rcases List.mem_append.mp hq with hq | hq
    · exact .tail _ (List.mem_append_left _ hq)
    · rcases List.mem_cons.mp (ih _ hq) with rfl | hq
      · exact .head _
      · exact .tail _ (List.mem_append_right _ hq)
theorem Pull.news {x : Addr × Obj} {l r : Led} (h : Pull x l r) {h₀ g : Heap} {L : Addr} (N : News h₀ L g l) : News h₀ L g (x :: r) := fun q hq => N q (h.mem q hq)
theorem off_nil {d : Addr} : Off d [] := fun _ h => nomatch h
theorem off_cons {d : Addr} {x : Addr × Obj} {l : Led} (h : d ≠ x.1) (k : Off d l) : Off d (x :: l) := fun q hq => by
  rcases List.mem_cons.mp hq with rfl | hq
  · exact h
  · exact k q hq
theorem off_app {d : Addr} {t l : Led} (h : Off d t) (k : Off d l) : Off d (t ++ l) := fun q hq => (List.mem_append.mp hq).elim (h q) (k q)
theorem off_ap {d : Addr} {o : Obj} {l t : Led} (h : Apart l t) (k : (d, o) ∈ l) : Off d t := fun q hq => (h _ k q hq).symm
theorem Off.all {d : Addr} {l : Led} (h : Off d l) : ∀ p ∈ l, p.1 ≠ d := fun p hp => (h p hp).symm
section
variable {prog : Program} {w : World} {A : Around} {E : Value → Shared → Prop} {s : Shared} {h₀ : Heap} {L D b : Addr} {m : Str → Option Value} {news rest : Led} {xs ys : List Value} {n n2 : Nat}
theorem append_pull {v : Value} {Q : Value → Shared → Prop} (F : Fr h₀ L s.heap m) (N : News h₀ L s.heap news) (P : Pull (D, listOf xs.toArray n) news rest) (O : Off D rest) (hz : xs.length ≤ 100000)
    (h : ∀ h', Fr h₀ L h' m → News h₀ L h' ((D, listOf (xs ++ [v]).toArray (n + 1)) :: rest) → Q .none { s with heap := h' }) : wpAny (model prog w) A (call (.builtin "list.append") [.ref D, v]) Q E s :=
  append_K F (P.news N) (by rw [List.push_toArray]; exact Upd.head O.all) h (by rw [sizeLine_eq, List.size_toArray]; lia)
theorem extend_pull {Q : Value → Shared → Prop} (F : Fr h₀ L s.heap m) (N : News h₀ L s.heap news) (P : Pull (D, listOf xs.toArray n) news rest) (O : Off D rest) (hb : (b, listOf ys.toArray n2) ∈ rest) (hz : xs.length + ys.length ≤ 100000)
    (h : ∀ h' n', Fr h₀ L h' m → News h₀ L h' ((D, listOf (xs ++ ys).toArray n') :: rest) → Q .none { s with heap := h' }) : wpAny (model prog w) A (call (.builtin "list.extend") [.ref D, .ref b]) Q E s := by
  have hd : ¬(!xs.toArray.isEmpty && Builtin.List.listTooLong (xs.toArray.size + ys.toArray.size)) = true := by
    have : Builtin.List.listTooLong (xs.toArray.size + ys.toArray.size) = false := by
      simp only [Builtin.List.listTooLong, List.size_toArray, decide_eq_false_iff_not, sizeLine_eq]
      lia
    rw [this, Bool.and_false]
    exact Bool.false_ne_true
  have h1 : xs.toArray.toList.length ≤ sizeLine := by rw [sizeLine_eq]; show xs.length ≤ _; lia
  have h2 : xs.toArray.size + ys.toArray.size ≤ sizeLine + 1 := by rw [sizeLine_eq]; simp only [List.size_toArray]; lia
  cases ys with
  | nil =>
    refine kxn_extend F (P.news N) (.tail _ hb) rfl (Upd.head O.all) hd h1 h2 fun h' F' N' => h h' n F' ?_
    rw [List.append_nil]
    exact N'
  | cons y ys =>
    exact kl_extend (l := xs ++ y :: ys) F (P.news N) (.tail _ hb) (by simp) (by simp) (Upd.head O.all) hd h1 h2 fun h' F' N' => h h' (n + 1) F' N'
end
end Mine
namespace Mine
inductive RegsAre : List Value → List Reg → Prop
  | nil : RegsAre [] []
  | cons {v : Value} {vs : List Value} {r : Reg} {rs : List Reg} : RegIs v r → RegsAre vs rs → RegsAre (v :: vs) (r :: rs)
theorem RegsAre.append {vs ws : List Value} {rs ss : List Reg} (h : RegsAre vs rs) (k : RegsAre ws ss) : RegsAre (vs ++ ws) (rs ++ ss) := by
  induction h with
  | nil => exact k
  | cons a _ ih => exact .cons a ih
theorem RegsAre.length {vs : List Value} {rs : List Reg} (h : RegsAre vs rs) : vs.length = rs.length := by
  induction h with
  | nil => rfl
  | cons _ _ ih => simp [ih]
def Ty.regs : Ty → List Reg
  | .byte => []
  | .par => []
  | .ref r t => r :: t.regs
  | .box t => t.regs
  | .arr t => t.regs
  | .pair t u => t.regs ++ u.regs
  | .g r => [r]
  | .ad _ r t => r :: t.regs
/-- a list has grown by these regions -/
def Grown (xs zs : List Value) (rs : List Reg) : Prop := ∃ ys, zs = xs ++ ys ∧ RegsAre ys rs
theorem Grown.nil {xs : List Value} : Grown xs xs [] := ⟨[], (List.append_nil _).symm, .nil⟩
theorem Grown.one {xs : List Value} {v : Value} {r : Reg} (h : RegIs v r) : Grown xs (xs ++ [v]) [r] := ⟨[v], rfl, .cons h .nil⟩
theorem Grown.trans {xs ys zs : List Value} {a b : List Reg} (h : Grown xs ys a) (k : Grown ys zs b) : Grown xs zs (a ++ b) := by
  obtain ⟨p, rfl, hp⟩ := h
  obtain ⟨q, rfl, hq⟩ := k
  exact ⟨p ++ q, List.append_assoc .., hp.append hq⟩
theorem Grown.cons {xs zs : List Value} {v : Value} {r : Reg} {b : List Reg} (h : RegIs v r) (k : Grown (xs ++ [v]) zs b) : Grown xs zs (r :: b) := (Grown.one h).trans k
theorem Grown.length {xs zs : List Value} {rs : List Reg} (h : Grown xs zs rs) : zs.length = xs.length + rs.length := by
  obtain ⟨p, rfl, hp⟩ := h
  rw [List.length_append, hp.length]
theorem Off.ne {d a : Addr} {o : Obj} {l : Led} (h : Off d l) (k : (a, o) ∈ l) : d ≠ a := h _ k
theorem Off.mono {d : Addr} {l l' : Led} (h : Off d l') (s : ∀ p ∈ l, p ∈ l') : Off d l := fun q hq => h q (s q hq)
theorem ne_lt {d a : Addr} {o : Obj} {l : Led} (h : AllLt d l) (k : (a, o) ∈ l) : d ≠ a := Nat.ne_of_gt ((allLt_iff.mp h) _ k)
theorem ne_lt1 {d a : Addr} {n : Nat} {o : Obj} {l : Led} (h : AllLt d l) (k : (a, o) ∈ l) : d + n ≠ a := Nat.ne_of_gt (Nat.lt_of_lt_of_le ((allLt_iff.mp h) _ k) (Nat.le_add_right _ _))
theorem ne_lt2 {c d : Nat} {a : Addr} {o : Obj} {l : Led} (j : c < d) (h : AllLt c l) (k : (a, o) ∈ l) : d ≠ a := Nat.ne_of_gt (Nat.lt_trans ((allLt_iff.mp h) _ k) j)
theorem ne_o1 {d a : Addr} {o : Obj} {l : Led} (h : LCg.Off1 d l) (k : (a, o) ∈ l) : d ≠ a := off_1 h _ k
theorem off3_of {I C D : Addr} {l : Led} (h : LCg.Off3 I C D l) : Off I l ∧ Off C l ∧ Off D l :=
  ⟨fun q hq => (h.mem q hq).1.symm, fun q hq => (h.mem q hq).2.1.symm, fun q hq => (h.mem q hq).2.2.symm⟩
theorem compEnd_pull {h₀ : Heap} {L I C D : Addr} {m : Str → Option Value} {s₁ : Shared} {oI oC oD : Obj} {S : Led → Prop} {rest : Value → Led → Prop} {y : Value} {h' : Heap} {tk : Nat} {all r1 r2 news : Led}
    (F : Fr h₀ L h' m) (N : News h₀ L h' all) (p1 : Pull (I, oI) all r1) (p2 : Pull (C, oC) r1 r2) (p3 : Pull (D, oD) r2 news) (o1 : Off I news) (o2 : Off C news) (o3 : Off D news) (hS : S news) (r : rest y news) :
    LCg.CompEnd h₀ L m s₁ I oI C oC D oD S rest y { s₁ with heap := h', toks := tk } :=
  LCg.CompEnd.intro F N news (fun q hq => p1.mem _ (by
    rcases List.mem_cons.mp hq with rfl | hq
    · exact .head _
    · refine .tail _ (p2.mem _ ?_)
      rcases List.mem_cons.mp hq with rfl | hq
      · exact .head _
      · exact .tail _ (p3.mem _ hq))) (LCg.Off3.of fun p hp => ⟨(o1 p hp).symm, (o2 p hp).symm, (o3 p hp).symm⟩) hS r
/-- a call of a closure that notes a region in the list fl -/
def NoteOk (w : World) (p : Program) (loose : List Str) (mean : ExcName → Option Value) (mg mb : Str → Option Value) (nf fl : Addr) (news : Led) : Prop :=
  ∀ (dp un : Nat) (gd : Option (List Code)) (cn : Str) (cs : Scope) (a : Addr) (ccd : Value) (cl : List (Str × Addr)) (outer : List Env) (A₀ : Around) (base h₀ : Heap) (L : Addr) (m : Str → Option Value) (s : Shared) (led : Led) (xs : List Value) (n : Nat) (rv : Value)
    (Q E : Value → Shared → Prop),
    Below A₀ base outer h₀ → Fr h₀ L s.heap m → (hd.heap_39 w.params).In h₀ → News h₀ L s.heap ((fl, listOf xs.toArray n) :: led) → Off fl led → (∀ p ∈ news, p ∈ led) → Top p loose mean mg mb h₀ → cs.kind = .function → dp + 4 < recursionLimit → un + 40 < cLine → xs.length ≤ 100000 →
    (∀ h' tk', Fr h₀ L h' m → News h₀ L h' ((fl, listOf (xs ++ [rv]).toArray (n + 1)) :: led) → Q rv { s with heap := h', toks := tk' }) →
    wpAny (model P0 w) (ktrTop dp un gd cn cs L a ccd cl outer) (call (.ref nf) [rv]) Q E s
abbrev FnO (o : Obj) : Prop := ∃ oc od fd sl, o = ⟨oc, od, .func fd, sl⟩
/-- `with_regions(_, noted)` for a type -/
def WrNoted (w : World) (p : Program) (loose : List Str) (mean : ExcName → Option Value) (mg mb : Str → Option Value) (t : Ty) : Prop :=
  ∀ (v : Value) (news : Led) (nf fl : Addr) (oc : Value) (od : Option Addr) (fd : FuncData) (sl : Array (Option Value)), TyIn news v t → (nf, (⟨oc, od, .func fd, sl⟩ : Obj)) ∈ news → NoteOk w p loose mean mg mb nf fl news →
  ∀ (dp un : Nat) (gd : Option (List Code)) (cn : Str) (cs : Scope) (a : Addr) (ccd : Value) (cl : List (Str × Addr)) (outer : List Env) (A₀ : Around) (base h₀ : Heap) (L : Addr) (m : Str → Option Value) (s : Shared) (led : Led) (xs : List Value) (n : Nat)
    (Q E : Value → Shared → Prop),
    Below A₀ base outer h₀ → Fr h₀ L s.heap m → (hd.heap_39 w.params).In h₀ → News h₀ L s.heap ((fl, listOf xs.toArray n) :: led) → Off fl led → (∀ p ∈ news, p ∈ led) → Top p loose mean mg mb h₀ → cs.kind = .function → dp + (4 * t.deep + 4) < recursionLimit → un + (40 * t.deep + 40) < cLine → xs.length + t.regs.length ≤ 100000 →
    (∀ r tl zs n' h' tk', Fr h₀ L h' m → News h₀ L h' ((fl, listOf zs.toArray n') :: (tl ++ led)) → Apart ((fl, listOf xs.toArray n) :: led) tl → Grown xs zs t.regs → Q r { s with heap := h', toks := tk' }) →
    wpAny (model P0 w) (ktrTop dp un gd cn cs L a ccd cl outer) (call (.ref 45) [v, .ref nf]) Q E s
section
variable {w : World} {p : Program} {loose : List Str} {mean : ExcName → Option Value} {mg mb : Str → Option Value} {t : Ty} {v : Value} {news : Led} {nf fl : Addr} {oc : Value} {od : Option Addr} {fd : FuncData} {sl : Array (Option Value)} {dp un : Nat} {gd : Option (List Code)} {cn : Str} {cs : Scope} {a : Addr} {ccd : Value} {cl : List (Str × Addr)} {outer : List Env} {A₀ : Around} {base h₀ : Heap} {L : Addr} {m : Str → Option Value} {s : Shared} {all led : Led} {xs : List Value} {n : Nat} {rv : Value}
    {Q E : Value → Shared → Prop}
theorem NoteOk.use (C : NoteOk w p loose mean mg mb nf fl news) (B : Below A₀ base outer h₀) (F : Fr h₀ L s.heap m) (X : (hd.heap_39 w.params).In h₀) (N : News h₀ L s.heap all) (P : Pull (fl, listOf xs.toArray n) all led) (O : Off fl led) (sub : ∀ p ∈ news, p ∈ led) (T : Top p loose mean mg mb h₀) (hk : cs.kind = .function) (rd : dp + 4 < recursionLimit) (ru : un + 40 < cLine) (hz : xs.length ≤ 100000)
    (ret : ∀ h' tk', Fr h₀ L h' m → News h₀ L h' ((fl, listOf (xs ++ [rv]).toArray (n + 1)) :: led) → Q rv { s with heap := h', toks := tk' }) :
    wpAny (model P0 w) (ktrTop dp un gd cn cs L a ccd cl outer) (call (.ref nf) [rv]) Q E s := C _ _ _ _ _ _ _ _ _ _ _ _ _ _ _ _ _ _ _ _ _ B F X (P.news N) O sub T hk rd ru hz ret
theorem WrNoted.use (C : WrNoted w p loose mean mg mb t) (R : TyIn news v t) (M : (nf, (⟨oc, od, .func fd, sl⟩ : Obj)) ∈ news) (K : NoteOk w p loose mean mg mb nf fl news) (B : Below A₀ base outer h₀) (F : Fr h₀ L s.heap m) (X : (hd.heap_39 w.params).In h₀) (N : News h₀ L s.heap all) (P : Pull (fl, listOf xs.toArray n) all led) (O : Off fl led) (sub : ∀ p ∈ news, p ∈ led) (T : Top p loose mean mg mb h₀) (hk : cs.kind = .function) (rd : dp + (4 * t.deep + 4) < recursionLimit) (ru : un + (40 * t.deep + 40) < cLine) (hz : xs.length + t.regs.length ≤ 100000)
    (ret : ∀ r tl zs n' h' tk', Fr h₀ L h' m → News h₀ L h' ((fl, listOf zs.toArray n') :: (tl ++ led)) → Apart ((fl, listOf xs.toArray n) :: led) tl → Grown xs zs t.regs → Q r { s with heap := h', toks := tk' }) :
    wpAny (model P0 w) (ktrTop dp un gd cn cs L a ccd cl outer) (call (.ref 45) [v, .ref nf]) Q E s := C _ _ _ _ _ _ _ _ R M K _ _ _ _ _ _ _ _ _ _ _ _ _ _ _ _ _ _ _ _ B F X (P.news N) O sub T hk rd ru hz ret
theorem fin2 {h' : Heap} {lf lr tl : Led} {zs : List Value} {n' : Nat} {rs : List Reg} {r : Value} {tk' : Nat}
    (hret : ∀ r tl zs n' h' tk', Fr h₀ L h' m → News h₀ L h' ((fl, listOf zs.toArray n') :: (tl ++ led)) → Apart ((fl, listOf xs.toArray n) :: led) tl → Grown xs zs rs → Q r { s with heap := h', toks := tk' })
    (F : Fr h₀ L h' m) (N : News h₀ L h' lf) (P : Pull (fl, listOf zs.toArray n') lf lr) (e : Ext led lr tl) (O : Off fl lr) (G : Grown xs zs rs) : Q r { s with heap := h', toks := tk' } := by
  have N' := P.news N
  have h := e.apart
  have q := e.eq
  subst q
  refine hret r tl zs n' h' tk' F N' (fun x hx y hy => ?_) G
  rcases List.mem_cons.mp hx with rfl | hx
  · exact (O y (List.mem_append_left _ hy)).symm
  · exact h x hx y hy
end
end Mine
namespace Mine
theorem callWith_0 {M : Model} {A : Around} {E : Value → Shared → Prop} {s : Shared} {K : Frag} {h₀ : Heap} {L : Addr} {m : Str → Option Value} {env : Env} {pos : Pos} {f : Value} {first : List Value} {Q : Value → Shared → Prop} (F : Fr h₀ L s.heap m) (X : K.In h₀) (hk : keepIn K f = true) (h : wpAny M A (call f (first ++ [])) Q E s) :
    wpAny M A (callWith pos f first (backTo pos (starEach [] env)) []) Q E s := callWith_K0 (X.keeps F.keep) hk h
end Mine
namespace Mine
section
variable {prog : Program} {w : World} {A : Around} {E : Value → Shared → Prop} {s : Shared} {env : Env} {h₀ : Heap} {body : List Stmt} {Q : Flow → Shared → Prop}
theorem forRange {x : Str} {px : Pos} {n : Nat} {t : Tok} {xs : List Itm} {m : Str → Option Value} {news : Led} (hh : A.handled = none) (Fh : Fr h₀ env.locals s.heap m) (N : News h₀ env.locals s.heap news) (hs : Builtin.Range.small 0 (n : Int) 1 = true) (hx : (List.range n).map (fun (i : Nat) => Itm.tok (fun t => .int (i : Int) t)) = xs)
    (rest₀ : ∀ I : Addr, AllLt I news → ItemsRest prog w A E h₀ env (.Name x px) body Q s [(I, "range_iterator")] [] xs m news) :
    wpAny (model prog w) A (call (.type "range") [.int (n : Int) t]) (fun xv s₁ => wpAny (model prog w) A (pyIter xv) (fun it s₂ => TurnsAt prog w A h₀ env (.Name x px) body Q E it s₂) E s₁) E s := by
  subst hx
  refine call_range_1 ?_
  refine wpAny_pyIter_range (IsRange.new ..) hs ?_
  have sz : Builtin.Range.rangeSize 0 (n : Int) 1 = (n : Int) := by
    rw [rangeSize_one]
    split <;> lia
  have F1 := Fh.push { cls := .type "range", data := .fields #[.int 0 s.toks, .int (n : Int) t, .int 1 (s.toks + 1)] }
  have N1 : News h₀ env.locals (s.heap.push { cls := .type "range", data := .fields #[.int 0 s.toks, .int (n : Int) t, .int 1 (s.toks + 1)] }) news := N.pushKeep _
  have F2 := F1.push { cls := .type "range_iterator", data := .fields #[rawInt 0, rawInt (Builtin.Range.rangeSize 0 (n : Int) 1), rawInt 1] }
  have hl : env.locals < s.heap.objs.size := Fh.ns.lt
  have e1 : (s.heap.push { cls := .type "range", data := .fields #[.int 0 s.toks, .int (n : Int) t, .int 1 (s.toks + 1)] }).objs.size = s.heap.objs.size + 1 := Heap.size_push ..
  have W0 := Walks.range (prog := prog) (w := w) hh (s.heap.push { cls := .type "range", data := .fields #[.int 0 s.toks, .int (n : Int) t, .int 1 (s.toks + 1)] }).objs.size 0 1 n
  have W : KTurns prog w A (.Name x px) (s.heap.push { cls := .type "range", data := .fields #[.int 0 s.toks, .int (n : Int) t, .int 1 (s.toks + 1)] }).objs.size [(s.heap.push { cls := .type "range", data := .fields #[.int 0 s.toks, .int (n : Int) t, .int 1 (s.toks + 1)] }).objs.size] [(s.heap.push { cls := .type "range", data := .fields #[.int 0 s.toks, .int (n : Int) t, .int 1 (s.toks + 1)] }).objs.size] n (fun i v _ => i < n ∧ ∃ t, v = .int ((i : Nat) : Int) t)
      (fun i v h => (i < n ∧ ∃ t, v = .int ((i : Nat) : Int) t) ∧ IsRangeIter h (s.heap.push { cls := .type "range", data := .fields #[.int 0 s.toks, .int (n : Int) t, .int 1 (s.toks + 1)] }).objs.size (0 + ((i + 1 : Nat) : Int) * 1) ((n : Int) - ((i + 1 : Nat) : Int)) 1) (fun i h => IsRangeIter h (s.heap.push { cls := .type "range", data := .fields #[.int 0 s.toks, .int (n : Int) t, .int 1 (s.toks + 1)] }).objs.size (0 + ((i : Nat) : Int) * 1) ((n : Int) - ((i : Nat) : Int)) 1) :=
    { sub := W0.sub, frame := W0.frame
      item := fun i s Q E hi st hQ => W0.item i s Q E hi st fun v h' tk hP st' hk => hQ v h' tk ⟨⟨hi, by simpa using hP⟩, st'⟩ hk
      go := fun i v s Q E hm hQ => wpAny_pure (hQ s.heap hm.1 hm.2 fun _ _ _ e => e)
      done := W0.done }
  refine ktu_core (s := s) (tk0 := s.toks + 1 + 1) (keep := []) (xs := (List.range n).map (fun (i : Nat) => Itm.tok (fun t => .int (i : Int) t))) W (by simp) ?_ ?_ ?_ ?_ ?_ ?_ ?_ ?_ F2 (N1.pushKeep _) trivial (rest₀ _ (allLt_of fun p hp => Heap.lt_size (N1 p hp).1))
  · rintro i v h ⟨hi, t, rfl⟩
    refine ⟨Itm.tok (fun t => .int (i : Int) t), by rw [List.getElem?_map, List.getElem?_range hi]; rfl, ?_⟩
    exact ⟨t, rfl⟩
  · intro i h st
    exact ⟨[(_, _)], ⟨⟨rfl, rfl⟩, trivial⟩, fun p hp => by rw [List.mem_singleton.mp hp]; exact st⟩
  · intro b hb
    have hb' : b = (s.heap.push { cls := .type "range", data := .fields #[.int 0 s.toks, .int (n : Int) t, .int 1 (s.toks + 1)] }).objs.size := by simpa using hb
    rw [hb']
    exact ⟨List.mem_cons_self .., next_is_new F1⟩
  · intro b hb
    simpa using hb
  · intro b hb
    exact .inl (by simpa using hb)
  · intro hq
    have hb' : env.locals = (s.heap.push { cls := .type "range", data := .fields #[.int 0 s.toks, .int (n : Int) t, .int 1 (s.toks + 1)] }).objs.size := List.mem_singleton.mp hq
    exact absurd F1.ns.lt (hb' ▸ Nat.lt_irrefl _)
  · intro p hp hq
    exact absurd (Heap.lt_size (N1 p hp).1) ((List.mem_singleton.mp hq) ▸ Nat.lt_irrefl _)
  · show IsRangeIter _ _ _ _ _
    have g := Heap.get?_push_size (s.heap.push { cls := .type "range", data := .fields #[.int 0 s.toks, .int (n : Int) t, .int 1 (s.toks + 1)] }) (o := { cls := .type "range_iterator", data := .fields #[rawInt 0, rawInt (Builtin.Range.rangeSize 0 (n : Int) 1), rawInt 1] }) rfl
    rw [sz] at g
    rw [sz]
    simpa [IsRangeIter] using g
end
inductive Pulls : Led → Led → Led → Prop
  | nil {r : Led} : Pulls [] r r
  | cons {x : Addr × Obj} {xs l r r' : Led} : Pull x l r → Pulls xs r r' → Pulls (x :: xs) l r'
theorem Pulls.mem {xs l r : Led} (h : Pulls xs l r) : ∀ q, q ∈ xs ++ r → q ∈ l := by
  induction h with
  | nil => exact fun _ h => h
  | cons p _ ih =>
    intro q hq
    rcases List.mem_cons.mp hq with rfl | hq
    · exact p.mem _ (.head _)
    · exact p.mem _ (.tail _ (ih q hq))
def Offs : Led → Led → Prop
  | [], _ => True
  | x :: xs, l => Off x.1 l ∧ Offs xs l
theorem Offs.at {xs l : Led} (h : Offs xs l) : ∀ q ∈ xs, Off q.1 l := by
  induction xs with
  | nil => exact fun _ h => nomatch h
  | cons x xs ih =>
    intro q hq
    rcases List.mem_cons.mp hq with rfl | hq
    · exact h.1
    · exact ih h.2 q hq
theorem unrEnd {h₀ : Heap} {L : Addr} {s₁ : Shared} {its all news : Led} {rest : (Str → Option Value) → Led → Prop} {h' : Heap} {tk : Nat} {m' : Str → Option Value} (F : Fr h₀ L h' m') (N : News h₀ L h' all) (P : Pulls its all news) (O : Offs its news) (r : rest m' news) :
    UnrEndW h₀ L s₁ its rest { s₁ with heap := h', toks := tk } :=
  ⟨h', tk, m', news, rfl, F, fun p hp => N p (P.mem p hp), fun p hp q hq e => (O.at q hq p hp) e.symm, r⟩
theorem offs_nil {l : Led} : Offs [] l := trivial
theorem offs_cons {x : Addr × Obj} {xs l : Led} (h : Off x.1 l) (k : Offs xs l) : Offs (x :: xs) l := ⟨h, k⟩
theorem subL_nil {l : Led} : SubL [] l := trivial
theorem subL_cons {x : Addr × Obj} {xs l : Led} (h : x ∈ l) (k : SubL xs l) : SubL (x :: xs) l := ⟨h, k⟩
section
variable {prog : Program} {w : World} {K : Type} [DecidableEq K] {knd : PySem.KeyKind prog w K} {A : Around} {E : Value → Shared → Prop} {s : Shared} {h₀ : Heap} {L d : Addr} {m : Str → Option Value} {all rest : Led} {o : Obj} {kvs : List (K × Value)} {k : K} {key v : Value}
theorem set_pull {Q : Unit → Shared → Prop} (F : Fr h₀ L s.heap m) (N : News h₀ L s.heap all) (P : Pull (d, o) all rest) (O : Off d rest) (hd : o.IsDictOf knd kvs) (hkey : knd.is k key = true) (hsz : kvs.length ≤ sizeLine)
    (h : ∀ h' o', Fr h₀ L h' m → News h₀ L h' ((d, o') :: rest) → o'.IsDictOf knd (stored kvs k v) → Q () { s with heap := h', toks := s.toks + 1 }) : wpAny (model prog w) A (setItem (.ref d) key v) Q E s :=
  kda_set F (P.news N) (UpdF.head O.all) hd hkey hsz h
end
theorem mem_app_id {q : Addr × Obj} {t l : Led} (h : q ∈ t ++ l) : q ∈ t ++ l := h
theorem mem_cons_id {q x : Addr × Obj} {l : Led} (h : q ∈ x :: l) : q ∈ x :: l := h
theorem ne_p2 {d a : Addr} {n k : Nat} {o : Obj} {l : Led} (h : AllLt d l) (j : (a, o) ∈ l) : d + n + k ≠ a := Nat.ne_of_gt (Nat.lt_of_lt_of_le ((allLt_iff.mp h) _ j) (Nat.le_trans (Nat.le_add_right _ _) (Nat.le_add_right _ _)))
theorem ne_p3 {d a : Addr} {n k i : Nat} {o : Obj} {l : Led} (h : AllLt d l) (j : (a, o) ∈ l) : d + n + k + i ≠ a := Nat.ne_of_gt (Nat.lt_of_lt_of_le ((allLt_iff.mp h) _ j) (Nat.le_trans (Nat.le_add_right _ _) (Nat.le_trans (Nat.le_add_right _ _) (Nat.le_add_right _ _))))
theorem off_p2 {d : Addr} {n k : Nat} {l : Led} (h : AllLt d l) : Off (d + n + k) l := fun q hq => ne_p2 (o := q.2) h hq
theorem off_p3 {d : Addr} {n k i : Nat} {l : Led} (h : AllLt d l) : Off (d + n + k + i) l := fun q hq => ne_p3 (o := q.2) h hq
theorem item_listV {prog : Program} {w : World} {A : Around} {E : Value → Shared → Prop} {s : Shared} {h₀ : Heap} {L a : Addr} {news : Led} {vs : List Value} {n : Nat} {value slice : Expr} {k : Int} {u : Tok} {x : Value} {Q : Value → Shared → Prop} (N : News h₀ L s.heap news) (hm : (a, listOf vs.toArray n) ∈ news)
    (h0 : 0 ≤ k) (hfit : k < 2 ^ 63) (hx : vs[k.toNat]? = some x) (h : Q x s) (hs : subscripted slice false (.ref a) (.int k u) = operate [.ref a, .int k u] (getItem (.ref a) (.int k u)) := by with_unfolding_all rfl) :
    wpAny (model prog w) A (subscriptTail value slice (.ref a) (.int k u)) Q E s :=
  have hl : s.heap.IsList a vs.toArray := ⟨_, (N _ hm).1, rfl, _, rfl⟩
  tail_any hl.typeIs slot_list_getitem.lookup (wpAny_getItem_list hl h0 hfit (by simpa using hx) h) hs
theorem ktr_dp {dp un : Nat} {gd : Option (List Code)} {cn : Str} {cs : Scope} {L a : Addr} {ccd : Value} {cl : List (Str × Addr)} {outer : List Env} : (ktrTop dp un gd cn cs L a ccd cl outer).depth = dp := rfl
theorem ktr_un {dp un : Nat} {gd : Option (List Code)} {cn : Str} {cs : Scope} {L a : Addr} {ccd : Value} {cl : List (Str × Addr)} {outer : List Env} : (ktrTop dp un gd cn cs L a ccd cl outer).units = un := rfl
end Mine
end
section
set_option linter.unusedVariables false
namespace Mine
def locOk (names : List (Str × NameKind)) (x : Str) : Bool := (match names.lookup x with | some .local => true | _ => false) && !(x == ("__debug__" : Str))
theorem locOk_1 {names : List (Str × NameKind)} {x : Str} (h : locOk names x = true) : names.lookup x = some .local := by
  unfold locOk at h
  have h := (Bool.and_eq_true_iff.mp h).1
  split at h
  · assumption
  · cases h
theorem locOk_2 {names : List (Str × NameKind)} {x : Str} (h : locOk names x = true) : (x == ("__debug__" : Str)) = false := by
  unfold locOk at h
  have h := (Bool.and_eq_true_iff.mp h).2
  simpa using h
def gloOk (names : List (Str × NameKind)) (x : Str) : Bool := (match names.lookup x with | some .globalImplicit => true | _ => false) && !(x == ("__debug__" : Str))
theorem gloOk_1 {names : List (Str × NameKind)} {x : Str} (h : gloOk names x = true) : names.lookup x = some .globalImplicit := by
  unfold gloOk at h
  have h := (Bool.and_eq_true_iff.mp h).1
  split at h
  · assumption
  · cases h
theorem gloOk_2 {names : List (Str × NameKind)} {x : Str} (h : gloOk names x = true) : (x == ("__debug__" : Str)) = false := by
  unfold gloOk at h
  have h := (Bool.and_eq_true_iff.mp h).2
  simpa using h
def frOk (names : List (Str × NameKind)) (x : Str) : Bool := (match names.lookup x with | some .free => true | _ => false) && !(x == ("__debug__" : Str)) && !(x == ("__classdict__" : Str))
def ceOk (names : List (Str × NameKind)) (x : Str) : Bool := (match names.lookup x with | some .cell => true | _ => false) && !(x == ("__debug__" : Str))
theorem frOk_all {names : List (Str × NameKind)} {x : Str} (h : frOk names x = true) : names.lookup x = some .free ∧ (x == ("__debug__" : Str)) = false ∧ (x == ("__classdict__" : Str)) = false := by
  unfold frOk at h
  obtain ⟨h12, h3⟩ := Bool.and_eq_true_iff.mp h
  obtain ⟨h1, h2⟩ := Bool.and_eq_true_iff.mp h12
  refine ⟨?_, by simpa using h2, by simpa using h3⟩
  split at h1
  · assumption
  · cases h1
theorem ceOk_all {names : List (Str × NameKind)} {x : Str} (h : ceOk names x = true) : names.lookup x = some .cell ∧ (x == ("__debug__" : Str)) = false := by
  unfold ceOk at h
  obtain ⟨h1, h2⟩ := Bool.and_eq_true_iff.mp h
  refine ⟨?_, by simpa using h2⟩
  split at h1
  · assumption
  · cases h1
theorem relabel_keep {env : Env} {k : NameKind} (hk : k ≠ .free) : ∀ {names : List (Str × NameKind)} {x : Str}, names.lookup x = some k →
    (names.map fun (n, k) => if (k == NameKind.free && env.scope.kind == .function && env.kindOf n == some .cell) then (n, NameKind.cell) else (n, k)).lookup x = some k
  | [], _, h => by simp at h
  | (n, k') :: r, x, h => by
    rw [List.lookup_cons] at h
    rw [List.map_cons, List.lookup_cons]
    by_cases q : (x == n) = true
    · rw [q] at h
      simp only at h
      cases h
      have : (k == NameKind.free) = false := by simpa using hk
      simp only [this, Bool.false_and, Bool.false_eq_true, if_false, q]
    · have q' : (x == n) = false := by simpa using q
      rw [q'] at h
      simp only at h
      have hh : (x == (if (k' == NameKind.free && env.scope.kind == .function && env.kindOf n == some .cell) then (n, NameKind.cell) else (n, k')).1) = false := by split <;> exact q'
      show (match x == (if (k' == NameKind.free && env.scope.kind == .function && env.kindOf n == some .cell) then (n, NameKind.cell) else (n, k')).1 with | true => _ | false => _) = _
      rw [hh]
      exact relabel_keep hk h
/-- one of two, by a bool -/
inductive Sel {α : Type} : Bool → α → α → α → Prop
  | t {x y : α} : Sel true x y x
  | f {x y : α} : Sel false x y y
/-- the statements that follow a test, a branch of at most four -/
inductive Br {α : Type} : Bool → List α → List α → List α → List α → Prop
  | t0 {o r : List α} : Br true [] o r r
  | t1 {a : α} {o r : List α} : Br true [a] o r (a :: r)
  | t2 {a b : α} {o r : List α} : Br true [a, b] o r (a :: b :: r)
  | t3 {a b c : α} {o r : List α} : Br true [a, b, c] o r (a :: b :: c :: r)
  | f0 {t r : List α} : Br false t [] r r
  | f1 {a : α} {t r : List α} : Br false t [a] r (a :: r)
  | f2 {a b : α} {t r : List α} : Br false t [a, b] r (a :: b :: r)
  | f3 {a b c : α} {t r : List α} : Br false t [a, b, c] r (a :: b :: c :: r)
theorem bF {b : Bool} (h : (!b) = true) : b = false := by cases b <;> first | rfl | cases h
theorem bT {b : Bool} (h : b = true) : b = true := h
def tupAt (l : List Value) : Int → Option Value
  | .ofNat j => if j < 1000 then l[j]? else none
  | _ => none
section
variable {prog : Program} {w : World} {A : Around} {E : Value → Shared → Prop} {env : Env} {h : Heap} {g : Array GenState} {d : Drawn} {os : OsState}
/-- a goal that the app elaborator does not open -/
structure Wp (P : Prop) : Prop where
  out : P
/-- the expression's value is v; the clock of tokens alone may move -/
structure Ev (prog : Program) (w : World) (A : Around) (E : Value → Shared → Prop) (env : Env) (h : Heap) (g : Array GenState) (d : Drawn) (os : OsState) (e : Expr) (v : Value) : Prop where
  out : ∀ (tk : Nat) (Q : Value → Shared → Prop), (∀ tk', Q v ⟨h, g, d, tk', os⟩) → wpAny (model prog w) A (eval e env) Q E ⟨h, g, d, tk, os⟩
/-- the test's answer is b -/
structure Tst (prog : Program) (w : World) (A : Around) (E : Value → Shared → Prop) (env : Env) (h : Heap) (g : Array GenState) (d : Drawn) (os : OsState) (e : Expr) (b : Bool) : Prop where
  out : ∀ (whole : Sem Value) (tk : Nat) (Q : Bool → Shared → Prop), (∀ tk', Q b ⟨h, g, d, tk', os⟩) → wpAny (model prog w) A (isTrue e env whole) Q E ⟨h, g, d, tk, os⟩
theorem ev_loc {prog : Program} {w : World} {A : Around} {E : Value → Shared → Prop} {g : Array GenState} {d : Drawn} {os : OsState} {cn : Str} {cs : Scope} {L a : Addr} {ccd : Value} {cl : List (Str × Addr)} {h₀ : Heap} (hk : cs.kind = .function) {h : Heap} {m : Str → Option Value} (F : Fr h₀ L h m) {x : Str} {pos : Pos} {v : Value} (hx : locOk cs.names x = true) (hv : m x = some v) :
    Ev prog w A E (envX cn cs L a ccd cl) h g d os (.Name x pos) v :=
  ⟨fun tk Q hQ => wpAny_Name (wpAny_loadName_local hk (locOk_1 hx) F.ns hv (hQ tk)) (locOk_2 hx)⟩
theorem ev_tup {prog : Program} {w : World} {A : Around} {E : Value → Shared → Prop} {env : Env} {g : Array GenState} {d : Drawn} {os : OsState} {h₀ : Heap} {L : Addr} {h : Heap} {led : Led} (N : News h₀ L h led) {value : Expr} {k : Int} {kd : Nat} {p pos : Pos} {a : Addr} {l : List Value} {v : Value} (e : Ev prog w A E env h g d os value (.ref a)) (hm : (a, tupO l) ∈ led) (hi : tupAt l k = some v) :
    Ev prog w A E env h g d os (.Subscript value (.Constant (.int k) kd p) pos) v := by
  refine ⟨fun tk Q hQ => Subscript_ (e.out _ _ fun tk' => wpAny_Constant_int ?_)⟩
  cases k with
  | negSucc n => cases hi
  | ofNat j =>
    have hi : (if j < 1000 then l[j]? else none) = some v := hi
    have hj : j < 1000 := by
      by_cases q : j < 1000
      · exact q
      · rw [if_neg q] at hi; cases hi
    have hi' : l[j]? = some v := by rw [if_pos hj] at hi; exact hi
    have hlt : j < l.length := by
      rcases Nat.lt_or_ge j l.length with q | q
      · exact q
      · rw [List.getElem?_eq_none q] at hi'; cases hi'
    refine item_tupleT (j := j) (l := l) (N.isTup hm) (by show -(2 ^ 63) ≤ (Int.ofNat j); have := Int.natCast_nonneg j; simp only [Int.ofNat_eq_natCast]; lia) (by show (Int.ofNat j) < 2 ^ 63; simp only [Int.ofNat_eq_natCast]; lia) ?_ hi' (hQ _)
    unfold seqIndex?
    have q : ¬ ((j : Int) < 0) := by lia
    simp [q, hlt]
theorem tst_eqS {x : Expr} {c c' : Str} {t : Tok} {kd : Nat} {p pos : Pos} {b : Bool} (e : Ev prog w A E env h g d os x (.str c t)) (hb : (c == c') = b) :
    Tst prog w A E env h g d os (.Compare x [.Eq] [.Constant (.str c') kd p] pos) b :=
  ⟨fun _ tk Q hQ => wpAny_isTrue_Compare1 (e.out _ _ fun tk' => PySem.Calls.Constant_str (eq_str (wpAny_truthy_bool (hb ▸ hQ _)))) rfl⟩
theorem tst_neS {x : Expr} {c c' : Str} {t : Tok} {kd : Nat} {p pos : Pos} {b : Bool} (e : Ev prog w A E env h g d os x (.str c t)) (hb : (c != c') = b) :
    Tst prog w A E env h g d os (.Compare x [.NotEq] [.Constant (.str c') kd p] pos) b :=
  ⟨fun _ tk Q hQ => wpAny_isTrue_Compare1 (e.out _ _ fun tk' => PySem.Calls.Constant_str (ne_str (wpAny_truthy_bool (hb ▸ hQ _)))) rfl⟩
theorem tst_or0 {pos : Pos} : Tst prog w A E env h g d os (.BoolOp .Or [] pos) false := ⟨fun _ tk _ hQ => isTrue_or_nil (hQ tk)⟩
theorem tst_and0 {pos : Pos} : Tst prog w A E env h g d os (.BoolOp .And [] pos) true := ⟨fun _ tk _ hQ => isTrue_and_nil (hQ tk)⟩
/-- the rest of an or, of an and, behind a first answer -/
inductive OrR (prog : Program) (w : World) (A : Around) (E : Value → Shared → Prop) (env : Env) (h : Heap) (g : Array GenState) (d : Drawn) (os : OsState) (pos : Pos) : Bool → List Expr → Bool → Prop
  | t {es : List Expr} : OrR prog w A E env h g d os pos true es true
  | f {es : List Expr} {b : Bool} : Tst prog w A E env h g d os (.BoolOp .Or es pos) b → OrR prog w A E env h g d os pos false es b
inductive AndR (prog : Program) (w : World) (A : Around) (E : Value → Shared → Prop) (env : Env) (h : Heap) (g : Array GenState) (d : Drawn) (os : OsState) (pos : Pos) : Bool → List Expr → Bool → Prop
  | f {es : List Expr} : AndR prog w A E env h g d os pos false es false
  | t {es : List Expr} {b : Bool} : Tst prog w A E env h g d os (.BoolOp .And es pos) b → AndR prog w A E env h g d os pos true es b
theorem tst_or {x : Expr} {es : List Expr} {pos : Pos} {b1 b : Bool} (t : Tst prog w A E env h g d os x b1) (r : OrR prog w A E env h g d os pos b1 es b) : Tst prog w A E env h g d os (.BoolOp .Or (x :: es) pos) b := by
  refine ⟨fun whole tk Q hQ => isTrue_or (t.out _ _ _ fun tk' => ?_)⟩
  cases r with
  | t => exact hQ _
  | f t2 => exact t2.out _ _ _ hQ
theorem tst_and {x : Expr} {es : List Expr} {pos : Pos} {b1 b : Bool} (t : Tst prog w A E env h g d os x b1) (r : AndR prog w A E env h g d os pos b1 es b) : Tst prog w A E env h g d os (.BoolOp .And (x :: es) pos) b := by
  refine ⟨fun whole tk Q hQ => isTrue_and (t.out _ _ _ fun tk' => ?_)⟩
  cases r with
  | f => exact hQ _
  | t t2 => exact t2.out _ _ _ hQ
theorem ev_if {x y z c : Expr} {b : Bool} {pos : Pos} {v : Value} (t : Tst prog w A E env h g d os c b) (k : Sel b x y z) (e : Ev prog w A E env h g d os z v) : Ev prog w A E env h g d os (.IfExp c x y pos) v := by
  refine ⟨fun tk Q hQ => IfExp_ (t.out _ _ _ fun tk' => ?_)⟩
  cases k with
  | t => exact e.out _ _ hQ
  | f => exact e.out _ _ hQ
/-- a list's expressions, each a constant or of a known value: what it asks of the continuation -/
structure EvL (prog : Program) (w : World) (A : Around) (E : Value → Shared → Prop) (env : Env) (h : Heap) (g : Array GenState) (d : Drawn) (os : OsState) (es : List Expr) (P : (List Value → Prop) → Prop) : Prop where
  out : ∀ (pos : Pos) (tk : Nat) (Q : List Value → Shared → Prop), P (fun vs => vs.length = es.length → ∀ tk', Q vs ⟨h, g, d, tk', os⟩) → wpAny (model prog w) A (spliced (backTo pos (starEach es env))) Q E ⟨h, g, d, tk, os⟩
  mono : ∀ {k k' : List Value → Prop}, (∀ vs, k vs → k' vs) → P k → P k'
  plain : ∀ pos : Pos, (backTo pos (starEach es env)).any (·.1) = false
theorem evl_nil : EvL prog w A E env h g d os [] (fun k => k []) := ⟨fun _ tk _ hk => args_nil (hk rfl tk), fun f => f _, fun _ => rfl⟩
theorem evl_cons {x : Expr} {es : List Expr} {v : Value} {P : (List Value → Prop) → Prop} (e : Ev prog w A E env h g d os x v) (l : EvL prog w A E env h g d os es P) (he : starEach (x :: es) env = (false, eval x env) :: starEach es env) :
    EvL prog w A E env h g d os (x :: es) (fun k => P (fun vs => k (v :: vs))) :=
  ⟨fun _ tk Q hk => args_cons (e.out _ _ fun tk' => l.out _ _ _ (l.mono (fun _ f q tk'' => f (congrArg (· + 1) q) tk'') hk)) he, fun f => l.mono fun _ => f _, fun pos => by rw [he]; show (false || (backTo pos (starEach es env)).any (·.1)) = false; rw [l.plain]; rfl⟩
theorem evl_str {c : Str} {kd : Nat} {p : Pos} {es : List Expr} {P : (List Value → Prop) → Prop} (l : EvL prog w A E env h g d os es P) :
    EvL prog w A E env h g d os (.Constant (.str c) kd p :: es) (fun k => ∀ t, P (fun vs => k (.str c t :: vs))) :=
  ⟨fun _ tk Q hk => args_cons (PySem.Calls.Constant_str (l.out _ _ _ (l.mono (fun _ f q tk'' => f (congrArg (· + 1) q) tk'') (hk _)))) rfl, fun f hk t => l.mono (fun _ => f _) (hk t), fun pos => l.plain pos⟩
theorem evl_int {c : Int} {kd : Nat} {p : Pos} {es : List Expr} {P : (List Value → Prop) → Prop} (l : EvL prog w A E env h g d os es P) :
    EvL prog w A E env h g d os (.Constant (.int c) kd p :: es) (fun k => ∀ t, P (fun vs => k (.int c t :: vs))) :=
  ⟨fun _ tk Q hk => args_cons (wpAny_Constant_int (l.out _ _ _ (l.mono (fun _ f q tk'' => f (congrArg (· + 1) q) tk'') (hk _)))) rfl, fun f hk t => l.mono (fun _ => f _) (hk t), fun pos => l.plain pos⟩
theorem ev_bool {b : Bool} {kd : Nat} {p : Pos} : Ev prog w A E env h g d os (.Constant (.bool b) kd p) (.bool b) := ⟨fun tk _ hQ => Constant_bool (hQ tk)⟩
theorem ev_none {kd : Nat} {p : Pos} : Ev prog w A E env h g d os (.Constant .none kd p) .none := ⟨fun tk _ hQ => Constant_none (hQ tk)⟩
/-- a def of the text, by its name -/
theorem ev_def {prog : Program} {w : World} {A : Around} {E : Value → Shared → Prop} {g : Array GenState} {d : Drawn} {os : OsState} {cn : Str} {cs : Scope} {L a : Addr} {ccd : Value} {cl : List (Str × Addr)} {h₀ : Heap} {mg mb : Str → Option Value} {K : Frag} {p : Program} {loose : List Str} (X : K.In h₀) (T : TopRead p loose mg mb h₀)
    (hk : cs.kind = .function) {h : Heap} {m : Str → Option Value} (F : Fr h₀ L h m) {x : Str} {pos : Pos} {v : Value} (hx : gloOk cs.names x = true) (e : nsIn K mainGlobals x = some (some v)) : Ev prog w A E (envX cn cs L a ccd cl) h g d os (.Name x pos) v :=
  ⟨fun tk Q hQ => PySem.Calls.Name_function_global hk (gloOk_1 hx) (PySem.Calls.loadGlobal_global (env := envX cn cs L a ccd cl) (T.g.keeps F.keep) (mg_of X T.g e) (hQ tk)) (gloOk_2 hx)⟩
theorem ev_free {cn : Str} {cs : Scope} {L a : Addr} {ccd : Value} {cl : List (Str × Addr)} {h₀ : Heap} {led : Led} {c : Addr} {o : Obj} (N : News h₀ L h led) (hk : cs.kind = .function) {x : Str} {pos : Pos} {v : Value} (hx : frOk cs.names x = true) (hc : cl.lookup x = some c) (hm : (c, o) ∈ led) (hd : o.data = .cell (some v)) :
    Ev prog w A E (envX cn cs L a ccd cl) h g d os (.Name x pos) v :=
  ⟨fun tk Q hQ => wpAny_Name (wpAny_loadName_free (s := ⟨h, g, d, tk, os⟩) hk (frOk_all hx).1 hc ⟨o, N.get hm, hd⟩ (hQ tk) (frOk_all hx).2.2) (frOk_all hx).2.1⟩
theorem ev_cell {cn : Str} {cs : Scope} {L a : Addr} {ccd : Value} {cl : List (Str × Addr)} {h₀ : Heap} {led : Led} {c : Addr} {o : Obj} (N : News h₀ L h led) (hk : cs.kind = .function) {x : Str} {pos : Pos} {v : Value} (hx : ceOk cs.names x = true) (hc : cl.lookup x = some c) (hm : (c, o) ∈ led) (hd : o.data = .cell (some v)) :
    Ev prog w A E (envX cn cs L a ccd cl) h g d os (.Name x pos) v :=
  ⟨fun tk Q hQ => wpAny_Name (wpAny_loadName_cell (s := ⟨h, g, d, tk, os⟩) hk (ceOk_all hx).1 hc ⟨o, N.get hm, hd⟩ (hQ tk)) (ceOk_all hx).2⟩
theorem ev_bi {cn : Str} {cs : Scope} {L a : Addr} {ccd : Value} {cl : List (Str × Addr)} {h₀ : Heap} {m mg mb : Str → Option Value} {K : Frag} {p : Program} {loose : List Str} (F : Fr h₀ L h m) (X : K.In h₀) (T : TopRead p loose mg mb h₀)
    (hk : cs.kind = .function) {x : Str} {pos : Pos} {v : Value} (hx : gloOk cs.names x = true) (e : nsIn K mainGlobals x = some none) (hv : bootBuiltins x = some v) (hn : x ≠ "__name__") : Ev prog w A E (envX cn cs L a ccd cl) h g d os (.Name x pos) v :=
  ⟨fun tk Q hQ => nameX_B (s := ⟨h, g, d, tk, os⟩) F X T e hv hn (hQ tk) hk (gloOk_1 hx) (gloOk_2 hx)⟩
section
variable {scope : Scope} {cl : List (Str × Addr)} {C : Addr}
theorem evc_own {h₀ : Heap} {L : Addr} {led : Led} {oC : Obj} {m₂ : Str → Option Value} (N : News h₀ L h led) (hm : (C, oC) ∈ led) (hC : LCg.NsObj oC m₂) (hk : scope.kind = .function) {x : Str} {pos : Pos} {v : Value} (hx : locOk scope.names x = true) (hv : m₂ x = some v) :
    Ev prog w A E (compEnvC scope cl C env) h g d os (.Name x pos) v :=
  ⟨fun tk Q hQ => LCgL.ld_own (s := ⟨h, g, d, tk, os⟩) N hm hC hv (hQ tk) hk (relabel_keep (by intro q; cases q) (locOk_1 hx)) (locOk_2 hx)⟩
theorem evc_glob {h₀ : Heap} {L : Addr} {m mg mb : Str → Option Value} {K : Frag} {p : Program} {loose : List Str} {mean : ExcName → Option Value} (F : Fr h₀ L h m) (X : K.In h₀) (T : Top p loose mean mg mb h₀) (hk : scope.kind = .function) {x : Str} {pos : Pos} {v : Value} (hx : gloOk scope.names x = true) (e : nsIn K mainGlobals x = some (some v)) (hg : env.globals = mainGlobals) :
    Ev prog w A E (compEnvC scope cl C env) h g d os (.Name x pos) v :=
  ⟨fun tk Q hQ => LCgL.ld_global (s := ⟨h, g, d, tk, os⟩) F X T e (hQ tk) hg hk (relabel_keep (by intro q; cases q) (gloOk_1 hx)) (gloOk_2 hx)⟩
theorem evc_bi {h₀ : Heap} {L : Addr} {m mg mb : Str → Option Value} {K : Frag} {p : Program} {loose : List Str} {mean : ExcName → Option Value} (F : Fr h₀ L h m) (X : K.In h₀) (T : Top p loose mean mg mb h₀) (hk : scope.kind = .function) {x : Str} {pos : Pos} {v : Value} (hx : gloOk scope.names x = true) (e : nsIn K mainGlobals x = some none) (hv : bootBuiltins x = some v) (hn : x ≠ "__name__") (hg : env.globals = mainGlobals) (hb : env.builtins = builtinsNs) :
    Ev prog w A E (compEnvC scope cl C env) h g d os (.Name x pos) v :=
  ⟨fun tk Q hQ => LCgL.ld_built (s := ⟨h, g, d, tk, os⟩) F X T e hv hn (hQ tk) hg hb hk (relabel_keep (by intro q; cases q) (gloOk_1 hx)) (gloOk_2 hx)⟩
theorem evc_cell {h₀ : Heap} {L : Addr} {led : Led} {c : Addr} {o : Obj} (N : News h₀ L h led) (hk : scope.kind = .function) {x : Str} {pos : Pos} {v : Value} (hx : (compEnvC scope cl C env).kindOf x = some .cell) (hb : (x == ("__debug__" : Str)) = false) (hc : cl.lookup x = some c) (hm : (c, o) ∈ led) (hd : o.data = .cell (some v)) :
    Ev prog w A E (compEnvC scope cl C env) h g d os (.Name x pos) v :=
  ⟨fun tk Q hQ => lcf_cell (s := ⟨h, g, d, tk, os⟩) N hc hm hd (hQ tk) hk hx hb⟩
theorem evc_free {h₀ : Heap} {L : Addr} {led : Led} {c : Addr} {o : Obj} (N : News h₀ L h led) (hk : scope.kind = .function) {x : Str} {pos : Pos} {v : Value} (hx : (compEnvC scope cl C env).kindOf x = some .free) (hb : (x == ("__debug__" : Str)) = false) (hb2 : (x == ("__classdict__" : Str)) = false) (hc : cl.lookup x = some c) (hm : (c, o) ∈ led) (hd : o.data = .cell (some v)) :
    Ev prog w A E (compEnvC scope cl C env) h g d os (.Name x pos) v :=
  ⟨fun tk Q hQ => lcf_free (s := ⟨h, g, d, tk, os⟩) N hc hm hd (hQ tk) hk hx hb hb2⟩
end
/-! statements -/
theorem execs_app {rest : List Stmt} : ∀ {z : List Stmt}, (do match ← execs z env with | .next => execs rest env | f => pure f : Sem Flow) = execs (z ++ rest) env
  | [] => by show (do match ← (pure .next : Sem Flow) with | .next => execs rest env | f => pure f : Sem Flow) = _; rw [pure_bind]; rfl
  | st :: z => by
    rw [List.cons_append, execs_cons, execs_cons, bind_assoc]
    refine congrArg _ (funext fun f => ?_)
    cases f with
    | next => exact execs_app
    | _ => rw [pure_bind]
theorem execs_if {c : Expr} {body orelse rest : List Stmt} {pos : Pos} : execs (.If c body orelse pos :: rest) env = (do standAt pos; if ← isTrue c env (eval c env) then execs (body ++ rest) env else execs (orelse ++ rest) env) := by
  rw [execs_cons, exec_If, bind_assoc]
  refine congrArg _ (funext fun _ => ?_)
  rw [bind_assoc]
  refine congrArg _ (funext fun b => ?_)
  cases b
  · exact execs_app
  · exact execs_app
theorem X_ret {prog : Program} {w : World} {A : Around} {E : Value → Shared → Prop} {env : Env} {Q : Flow → Shared → Prop} {g : Array GenState} {d : Drawn} {os : OsState} {h : Heap} {x : Expr} {pos : Pos} {rest : List Stmt} {v : Value} {tk : Nat} (e : Ev prog w A E env h g d os x v) (hQ : ∀ tk', Q (.ret v) ⟨h, g, d, tk', os⟩) : wpAny (model prog w) A (execs (.Return (some x) pos :: rest) env) Q E ⟨h, g, d, tk, os⟩ :=
  wpAny_execs_cons (wpAny_Return_some (e.out _ _ hQ))
theorem X_if {prog : Program} {w : World} {A : Around} {E : Value → Shared → Prop} {env : Env} {Q : Flow → Shared → Prop} {g : Array GenState} {d : Drawn} {os : OsState} {h : Heap} {c : Expr} {body orelse rest l : List Stmt} {b : Bool} {pos : Pos} {tk : Nat} (t : Tst prog w A E env h g d os c b) (k : Br b body orelse rest l) (hw : ∀ tk', wpAny (model prog w) A (execs l env) Q E ⟨h, g, d, tk', os⟩) :
    wpAny (model prog w) A (execs (.If c body orelse pos :: rest) env) Q E ⟨h, g, d, tk, os⟩ := by
  rw [execs_if]
  refine wpAny_bind (wpAny_standAt (wpAny_bind (t.out _ _ _ fun tk' => ?_)))
  cases k <;> exact hw tk'
theorem X_set {cn : Str} {cs : Scope} {L a : Addr} {ccd : Value} {cl : List (Str × Addr)} {h₀ : Heap} {m : Str → Option Value} {led : Led} {x : Str} {value : Expr} {p pos : Pos} {rest : List Stmt} {v : Value} {Q : Flow → Shared → Prop} {tk : Nat} (F : Fr h₀ L h m) (N : News h₀ L h led) (hk : cs.kind = .function) (hx : locOk cs.names x = true)
    (e : Ev prog w A E (envX cn cs L a ccd cl) h g d os value v) (hs : swapsWith value (some (.Name x p)) pos.line (envX cn cs L a ccd cl) = pure false)
    (hw : ∀ h' tk', Fr h₀ L h' (fun y => if y = x then some v else m y) → News h₀ L h' led → wpAny (model prog w) A (execs rest (envX cn cs L a ccd cl)) Q E ⟨h', g, d, tk', os⟩) :
    Wp (wpAny (model prog w) A (execs (.Assign [.Name x p] value pos :: rest) (envX cn cs L a ccd cl)) Q E ⟨h, g, d, tk, os⟩) :=
  ⟨wpAny_execs_cons (wpAny_Assign_Name (e.out _ _ fun tk' => wpAny_storeName_local (locOk_1 hx) F.ns (fun h' hn' hs' => hw h' _ (F.set hn' hs') (N.set hs')) (by show (cs.kind == .class || (cs.kind == .module && L != mainGlobals)) = false; rw [hk]; rfl)) hs)⟩
theorem X_ev {prog : Program} {w : World} {A : Around} {E : Value → Shared → Prop} {env : Env} {g : Array GenState} {d : Drawn} {os : OsState} {h : Heap} {x : Expr} {v : Value} {Q : Value → Shared → Prop} {tk : Nat} (e : Ev prog w A E env h g d os x v) (hQ : ∀ tk', Q v ⟨h, g, d, tk', os⟩) : wpAny (model prog w) A (eval x env) Q E ⟨h, g, d, tk, os⟩ := e.out _ _ hQ
theorem X_tst {x : Expr} {b : Bool} {whole : Sem Value} {Q : Bool → Shared → Prop} {tk : Nat} (t : Tst prog w A E env h g d os x b) (hQ : ∀ tk', Q b ⟨h, g, d, tk', os⟩) : wpAny (model prog w) A (isTrue x env whole) Q E ⟨h, g, d, tk, os⟩ := t.out _ _ _ hQ
theorem X_ifexp {c x y z : Expr} {b : Bool} {pos : Pos} {Q : Value → Shared → Prop} {tk : Nat} (t : Tst prog w A E env h g d os c b) (k : Sel b x y z) (hw : ∀ tk', wpAny (model prog w) A (eval z env) Q E ⟨h, g, d, tk', os⟩) : wpAny (model prog w) A (eval (.IfExp c x y pos) env) Q E ⟨h, g, d, tk, os⟩ := by
  refine IfExp_ (t.out _ _ _ fun tk' => ?_)
  cases k with
  | t => exact hw tk'
  | f => exact hw tk'
theorem X_tup {h₀ : Heap} {L : Addr} {m : Str → Option Value} {led : Led} {es : List Expr} {kd : Nat} {pos : Pos} {P : (List Value → Prop) → Prop} {Q : Value → Shared → Prop} {tk : Nat} (F : Fr h₀ L h m) (N : News h₀ L h led) (hz : es.length ≤ 1000) (l : EvL prog w A E env h g d os es P)
    (hw : P (fun vs => ∀ D h' tk', Fr h₀ L h' m → News h₀ L h' ((D, tupO vs) :: led) → AllLt D led → Q (.ref D) ⟨h', g, d, tk', os⟩)) : wpAny (model prog w) A (eval (.Tuple es kd pos) env) Q E ⟨h, g, d, tk, os⟩ :=
  Tuple_ (l.out _ _ _ (l.mono (fun vs f q tk' => kup_newTuple (s := ⟨h, g, d, tk', os⟩) F N (fun D h' F' N' lt => f D h' tk' F' N' (allLt_of lt)) (by rw [q]; exact Nat.le_trans hz (by rw [sizeLine_eq]; lia))) hw))
theorem X_list {es : List Expr} {pos : Pos} {P : (List Value → Prop) → Prop} {Q : Value → Shared → Prop} {tk : Nat} (l : EvL prog w A E env h g d os es P)
    (hw : P (fun vs => ∀ tk', wpAny (model prog w) A (newList vs) Q E ⟨h, g, d, tk', os⟩)) : wpAny (model prog w) A (eval (.List es pos) env) Q E ⟨h, g, d, tk, os⟩ :=
  List_ (l.out _ _ _ (l.mono (fun vs f q tk' => f tk') hw))
/-- a def of the text is called -/
theorem X_call {K : Frag} {h₀ : Heap} {L : Addr} {m : Str → Option Value} {func x : Expr} {es : List Expr} {pos : Pos} {f : Addr} {P : (List Value → Prop) → Prop} {Q : Value → Shared → Prop} {tk : Nat} (ef : Ev prog w A E env h g d os func (.ref f)) (F : Fr h₀ L h m) (X : K.In h₀) (hk : keepIn K (.ref f) = true) (l : EvL prog w A E env h g d os (x :: es) P)
    (he : eval (.Call func (x :: es) [] pos) env = (do callWith pos (← eval func env) [] (backTo pos (starEach (x :: es) env)) (backToKw pos (keywordEach [] env)))) (hs : starEach (x :: es) env = (false, eval x env) :: starEach es env)
    (hp : (backTo pos (starEach es env)).any (·.1) = false)
    (hw : P (fun vs => ∀ tk', wpAny (model prog w) A (call (.ref f) vs) Q E ⟨h, g, d, tk', os⟩)) : wpAny (model prog w) A (eval (.Call func (x :: es) [] pos) env) Q E ⟨h, g, d, tk, os⟩ :=
  Call_ (ef.out _ _ fun tk' => callWith_K X hk (l.out _ _ _ (l.mono (fun vs f q tk' => ⟨X.keeps F.keep, f tk'⟩) hw)) hs hp) he
theorem X_cstr {c : Str} {kd : Nat} {p : Pos} {Q : Value → Shared → Prop} {tk : Nat} (hQ : ∀ t tk', Q (.str c t) ⟨h, g, d, tk', os⟩) : wpAny (model prog w) A (eval (.Constant (.str c) kd p) env) Q E ⟨h, g, d, tk, os⟩ := PySem.Calls.Constant_str (hQ _ _)
theorem X_cint {c : Int} {kd : Nat} {p : Pos} {Q : Value → Shared → Prop} {tk : Nat} (hQ : ∀ t tk', Q (.int c t) ⟨h, g, d, tk', os⟩) : wpAny (model prog w) A (eval (.Constant (.int c) kd p) env) Q E ⟨h, g, d, tk, os⟩ := wpAny_Constant_int (hQ _ _)
theorem X_ntup {h₀ : Heap} {L : Addr} {m : Str → Option Value} {led : Led} {vs : List Value} {Q : Value → Shared → Prop} {tk : Nat} (F : Fr h₀ L h m) (N : News h₀ L h led) (hz : vs.length ≤ 1000)
    (hw : ∀ D h' tk', Fr h₀ L h' m → News h₀ L h' ((D, tupO vs) :: led) → AllLt D led → Q (.ref D) ⟨h', g, d, tk', os⟩) : wpAny (model prog w) A (newTuple vs) Q E ⟨h, g, d, tk, os⟩ :=
  kup_newTuple (s := ⟨h, g, d, tk, os⟩) F N (fun D h' F' N' lt => hw D h' tk F' N' (allLt_of lt)) (Nat.le_trans hz (by rw [sizeLine_eq]; lia))
theorem X_nlist {h₀ : Heap} {L : Addr} {m : Str → Option Value} {led : Led} {vs : List Value} {Q : Value → Shared → Prop} {tk : Nat} (F : Fr h₀ L h m) (N : News h₀ L h led) (hz : vs.length ≤ 1000)
    (hw : ∀ D h' tk', Fr h₀ L h' m → News h₀ L h' ((D, listOf vs.toArray 0) :: led) → AllLt D led → Q (.ref D) ⟨h', g, d, tk', os⟩) : wpAny (model prog w) A (newList vs) Q E ⟨h, g, d, tk, os⟩ :=
  newList_K (s := ⟨h, g, d, tk, os⟩) F N (fun D h' F' N' lt => hw D h' tk F' N' (allLt_of lt)) (Nat.le_trans hz (by rw [sizeLine_eq]; lia))
end
end Mine
end
section
set_option linter.unusedVariables false
namespace Mine
/-- the table of a code with one def inside: before its first call, and behind it -/
def Tab (ln co : Nat) (nm : Str) (l : Led) (o : Obj) : Prop := o = tabObj #[] ∨ ∃ c' oc vs tk, o = tabObj #[rawInt ln, rawInt co, .ref c'] ∧ (c', oc) ∈ l ∧ oc.data = .fields vs ∧ vs[1]? = some (.str nm tk)
theorem Tab.mono {ln co : Nat} {nm : Str} {l l' : Led} {o : Obj} (h : Tab ln co nm l o) (s : ∀ p ∈ l, p ∈ l') : Tab ln co nm l' o := by
  rcases h with h | ⟨c', oc, vs, tk, e, m, d, v⟩
  · exact .inl h
  · exact .inr ⟨c', oc, vs, tk, e, s _ m, d, v⟩
theorem mem_swap {x : Addr × Obj} {nw td X : Led} (h : x ∈ nw ++ td) (s : ∀ p ∈ td, p ∈ X) : x ∈ nw ++ X := (List.mem_append.mp h).elim (List.mem_append_left _) fun h => List.mem_append_right _ (s x h)
theorem nest_both {w : World} {A : Around} {E : Value → Shared → Prop} {s : Shared} {h₀ : Heap} {L a c P : Addr} {m mg mb : Str → Option Value} {cn : Str} {cs : Scope} {ccd : Value} {cl : List (Str × Addr)} {news rest td : Led} {o : Obj}
    {p : Program} {loose : List Str} {mean : ExcName → Option Value} {name qual : Str} {params : Arguments} {body : List Stmt} {scope : Scope} {pos : Pos} {firstLine : Nat} {clos : List (Str × Addr)}
    {Q : Value → Shared → Prop} (F : Fr h₀ L s.heap m) (N : News h₀ L s.heap news) (T : Top p loose mean mg mb h₀) (C : CodeHd h₀ c P) (hcd : ccd = .ref c) (PL : Pull (P, o) news rest) (O : Off P rest) (hT : Tab pos.line pos.col qual td o) (htd : ∀ p ∈ td, p ∈ rest)
    (hcl : closureFor scope (envX cn cs L a ccd cl) = pure clos)
    (h : ∀ f c' oc vs t ctv doc o' nw h' tk, Fr h₀ L h' m → News h₀ L h' ((f, fnMade name qual params body scope clos doc ((mg "__name__").getD .none) c' ctv) :: (P, o') :: (nw ++ rest)) →
      (c', oc) ∈ nw ++ td → oc.data = .fields vs → vs[1]? = some (.str qual t) → Tab pos.line pos.col qual (nw ++ td) o' → Apart rest nw → Off P nw → Off f (nw ++ rest) → f ≠ P → Q (.ref f) { s with heap := h', toks := tk }) :
    wpAny (model P0 w) A (makeFunction name qual params (.stmts body) scope (envX cn cs L a ccd cl) [] [] [] pos firstLine) Q E s := by
  have N' := PL.news N
  rcases hT with rfl | ⟨c0, oc0, vs0, tk0, rfl, hc0, hd0, hv0⟩
  · refine nest_K F N' T C hcd (UpdF.head O.all) True.intro rfl hcl fun f c' oc vs t ctv doc h' tk F' Nn d1 d2 l1 l2 => ?_
    have ap : Apart rest [(c', oc)] := fun q hq p hp => by
      rw [List.mem_singleton.mp hp]
      exact Nat.ne_of_gt (l1 q (.tail _ hq))
    have lt : c' ≠ P := Nat.ne_of_gt (l1 (P, _) (.head _))
    refine h f c' oc vs t ctv doc _ [(c', oc)] h' tk F' (fun q hq => Nn q ?_) (.head _) d1 d2 (.inr ⟨c', oc, vs, t, rfl, .head _, d1, d2⟩) ap (fun q hq => by rw [List.mem_singleton.mp hq]; exact Ne.symm lt) (fun q hq => ?_) ?_
    · rcases List.mem_cons.mp hq with rfl | hq
      · exact .head _
      · rcases List.mem_cons.mp hq with rfl | hq
        · exact .tail _ (.tail _ (.head _))
        · rcases List.mem_cons.mp hq with rfl | hq
          · exact .tail _ (.head _)
          · exact .tail _ (.tail _ (.tail _ hq))
    · rcases List.mem_cons.mp hq with rfl | hq
      · exact Nat.ne_of_gt l2
      · exact Nat.ne_of_gt (Nat.lt_trans (l1 q (.tail _ hq)) l2)
    · exact Nat.ne_of_gt (Nat.lt_trans (l1 (P, _) (.head _)) l2)
  · refine nestHit_K (c' := c0) F N' T C hcd (.head _) (by simp [TriplesOk, rawInt]) (by simp [codeAmong, rawInt]) hcl fun f ctv doc h' tk F' Nn l1 => ?_
    exact h f c0 oc0 vs0 tk0 ctv doc _ [] h' tk F' Nn hc0 hd0 hv0 (.inr ⟨c0, oc0, vs0, tk0, rfl, hc0, hd0, hv0⟩) (fun _ _ _ hp => nomatch hp) (fun _ hp => nomatch hp) (fun q hq => Nat.ne_of_gt (l1 q (.tail _ hq))) (Nat.ne_of_gt (l1 (P, _) (.head _)))
theorem store_pullC {prog : Program} {w : World} {A : Around} {E : Value → Shared → Prop} {s : Shared} {h₀ : Heap} {L a c : Addr} {m : Str → Option Value} {cn x : Str} {cs : Scope} {ccd v : Value} {v₀ : Option Value} {cl : List (Str × Addr)} {news rest : Led} {o : Obj} {Q : Unit → Shared → Prop}
    (F : Fr h₀ L s.heap m) (N : News h₀ L s.heap news) (hc : cl.lookup x = some c) (P : Pull (c, o) news rest) (O : Off c rest) (hd : o.data = .cell v₀)
    (h : ∀ h' o', Fr h₀ L h' m → News h₀ L h' ((c, o') :: rest) → o'.data = .cell (some v) → Q () { s with heap := h' })
    (hk : cs.kind = .function) (hx : (envX cn cs L a ccd cl).kindOf x = some .cell) : wpAny (model prog w) A (storeName (envX cn cs L a ccd cl) x v) Q E s :=
  storeX_C F (P.news N) hc (UpdF.head O.all) hd h hk hx
def Ty.mapR (f : Reg → Reg) : Ty → Ty
  | .byte => .byte
  | .par => .par
  | .ref r t => .ref (f r) (t.mapR f)
  | .box t => .box (t.mapR f)
  | .arr t => .arr (t.mapR f)
  | .pair t u => .pair (t.mapR f) (u.mapR f)
  | .g r => .g (f r)
  | .ad n r t => .ad n (f r) (t.mapR f)
theorem mapR_none (t : Ty) : t.mapR (fun _ => .none) = t.erase := by
  induction t with
  | byte => rfl
  | par => rfl
  | ref r t ih => rw [Ty.mapR, ih]; rfl
  | box t ih => rw [Ty.mapR, ih]; rfl
  | arr t ih => rw [Ty.mapR, ih]; rfl
  | pair t u ih ih' => rw [Ty.mapR, ih, ih']; rfl
  | g r => rfl
  | ad n r t ih => rw [Ty.mapR, ih]; rfl
/-- the list that a change writes, if it writes one -/
def cellL (o : Option Addr) (xs : List Value) (n : Nat) : Led := match o with
  | none => []
  | some D => [(D, listOf xs.toArray n)]
def OffC (o : Option Addr) (l : Led) : Prop := ∀ D, o = some D → Off D l
def OffA (o : Option Addr) (d : Addr) : Prop := ∀ D, o = some D → D ≠ d
theorem offc_cons {o : Option Addr} {x : Addr × Obj} {l : Led} (k : OffC o l) (h : OffA o x.1) : OffC o (x :: l) := fun D e => off_cons (h D e) (k D e)
theorem offc_app {o : Option Addr} {t l : Led} (h : OffC o t) (k : OffC o l) : OffC o (t ++ l) := fun D e => off_app (h D e) (k D e)
theorem offa {o : Option Addr} {d : Addr} {xs : List Value} {n : Nat} (h : Off d (cellL o xs n)) : OffA o d := fun D e => by
  subst e
  exact Ne.symm (h (D, _) (.head _))
theorem off_cell {o : Option Addr} {d : Addr} {xs zs : List Value} {n k : Nat} (h : Off d (cellL o xs n)) : Off d (cellL o zs k) := by
  cases o with
  | none => exact off_nil
  | some D => exact off_cons (h (D, listOf xs.toArray n) (.head _)) off_nil
theorem offc_apart {o : Option Addr} {xs : List Value} {n : Nat} {l t : Led} (h : Apart (cellL o xs n ++ l) t) : OffC o t := fun D e => by
  subst e
  exact fun q hq => (h (D, _) (.head _) q hq).symm
inductive PullC (c : Led) : Led → Led → Prop
  | head {r : Led} : PullC c (c ++ r) r
  | tail {y : Addr × Obj} {l r : Led} : PullC c l r → PullC c (y :: l) (y :: r)
  | app {t l r : Led} : PullC c l r → PullC c (t ++ l) (t ++ r)
theorem PullC.mem {c l r : Led} (h : PullC c l r) : ∀ q, q ∈ c ++ r → q ∈ l := by
  induction h with
  | head => exact fun _ h => h
  | tail _ ih =>
    intro q hq
    rcases List.mem_append.mp hq with hq | hq
    · exact .tail _ (ih _ (List.mem_append_left _ hq))
    · rcases List.mem_cons.mp hq with rfl | hq
      · exact .head _
      · exact .tail _ (ih _ (List.mem_append_right _ hq))
  | app _ ih =>
    intro q hq
    rcases List.mem_append.mp hq with hq | hq
    · exact List.mem_append_right _ (ih _ (List.mem_append_left _ hq))
    · rcases List.mem_append.mp hq with hq | hq
      · exact List.mem_append_left _ hq
      · exact List.mem_append_right _ (ih _ (List.mem_append_right _ hq))
theorem PullC.news {c l r : Led} (h : PullC c l r) {h₀ g : Heap} {L : Addr} (N : News h₀ L g l) : News h₀ L g (c ++ r) := fun q hq => N q (h.mem q hq)
def GrownO (o : Option Addr) (xs zs : List Value) (rs : List Reg) : Prop := (∀ D, o = some D → Grown xs zs rs) ∧ zs.length ≤ xs.length + rs.length
theorem GrownO.nil {o : Option Addr} {xs : List Value} : GrownO o xs xs [] := ⟨fun _ _ => Grown.nil, Nat.le_refl _⟩
theorem GrownO.trans {o : Option Addr} {xs ys zs : List Value} {a b : List Reg} (h : GrownO o xs ys a) (k : GrownO o ys zs b) : GrownO o xs zs (a ++ b) :=
  ⟨fun D e => (h.1 D e).trans (k.1 D e), by rw [List.length_append]; exact Nat.le_trans k.2 (by rw [← Nat.add_assoc]; exact Nat.add_le_add_right h.2 _)⟩
theorem GrownO.cons {o : Option Addr} {xs ys zs : List Value} {r : Reg} {b : List Reg} (h : GrownO o xs ys [r]) (k : GrownO o ys zs b) : GrownO o xs zs (r :: b) := h.trans k
/-- a function that changes a region -/
def FnG (w : World) (fa : Addr) (kn : Led) : Prop := ∀ (h₀ h : Heap) (L : Addr) (m : Str → Option Value) (led : Led), Fr h₀ L h m → (hd.heap_39 w.params).In h₀ → News h₀ L h led → (∀ p ∈ kn, p ∈ led) → FnAt fa h
def ChgOk (w : World) (p : Program) (loose : List Str) (mean : ExcName → Option Value) (mg mb : Str → Option Value) (fa : Addr) (o : Option Addr) (bd : Nat) (P : Reg → Prop) (out : Reg → Reg) (kn : Led) : Prop :=
  ∀ (dp un : Nat) (gd : Option (List Code)) (cn : Str) (cs : Scope) (a : Addr) (ccd : Value) (cl : List (Str × Addr)) (outer : List Env) (A₀ : Around) (base h₀ : Heap) (L : Addr) (m : Str → Option Value) (s : Shared) (led : Led) (xs : List Value) (n : Nat) (rv : Value) (r : Reg)
    (Q E : Value → Shared → Prop),
    Below A₀ base outer h₀ → Fr h₀ L s.heap m → (hd.heap_39 w.params).In h₀ → News h₀ L s.heap (cellL o xs n ++ led) → OffC o led → (∀ p ∈ kn, p ∈ led) → Top p loose mean mg mb h₀ → cs.kind = .function → dp + 4 < recursionLimit → un + 40 < cLine → xs.length ≤ bd → RegIs rv r → P r →
    (∀ rv' zs n' h' tk', Fr h₀ L h' m → News h₀ L h' (cellL o zs n' ++ led) → RegIs rv' (out r) → GrownO o xs zs [r] → Q rv' { s with heap := h', toks := tk' }) →
    wpAny (model P0 w) (ktrTop dp un gd cn cs L a ccd cl outer) (call (.ref fa) [rv]) Q E s
/-- `with_regions(_, a change)` for a type -/
def WrG (w : World) (p : Program) (loose : List Str) (mean : ExcName → Option Value) (mg mb : Str → Option Value) (fa : Addr) (o : Option Addr) (bd : Nat) (P : Reg → Prop) (out : Reg → Reg) (kn : Led) (t : Ty) : Prop :=
  ∀ (v : Value) (news : Led), TyIn news v t → (∀ r ∈ t.regs, P r) →
  ∀ (dp un : Nat) (gd : Option (List Code)) (cn : Str) (cs : Scope) (a : Addr) (ccd : Value) (cl : List (Str × Addr)) (outer : List Env) (A₀ : Around) (base h₀ : Heap) (L : Addr) (m : Str → Option Value) (s : Shared) (led : Led) (xs : List Value) (n : Nat)
    (Q E : Value → Shared → Prop),
    Below A₀ base outer h₀ → Fr h₀ L s.heap m → (hd.heap_39 w.params).In h₀ → News h₀ L s.heap (cellL o xs n ++ led) → OffC o led → (∀ p ∈ news, p ∈ led) → (∀ p ∈ kn, p ∈ led) → Top p loose mean mg mb h₀ → cs.kind = .function → dp + (4 * t.deep + 4) < recursionLimit → un + (40 * t.deep + 40) < cLine → xs.length + t.regs.length ≤ bd →
    (∀ r tl zs n' h' tk', Fr h₀ L h' m → News h₀ L h' (cellL o zs n' ++ (tl ++ led)) → Apart led tl → OffC o tl → GrownO o xs zs t.regs → TyIn (tl ++ news) r (t.mapR out) → Q r { s with heap := h', toks := tk' }) →
    wpAny (model P0 w) (ktrTop dp un gd cn cs L a ccd cl outer) (call (.ref 45) [v, .ref fa]) Q E s
section
variable {w : World} {p : Program} {loose : List Str} {mean : ExcName → Option Value} {mg mb : Str → Option Value} {dp un : Nat} {gd : Option (List Code)} {cn : Str} {cs : Scope} {a : Addr} {ccd : Value} {cl : List (Str × Addr)} {outer : List Env} {A₀ : Around} {base h₀ : Heap} {L : Addr} {m : Str → Option Value} {s : Shared} {all led news kn : Led} {xs : List Value} {n bd : Nat} {fa : Addr} {o : Option Addr} {P : Reg → Prop} {out : Reg → Reg}
    {Q E : Value → Shared → Prop}
theorem ChgOk.use {rv : Value} {r : Reg} (C : ChgOk w p loose mean mg mb fa o bd P out kn) (B : Below A₀ base outer h₀) (F : Fr h₀ L s.heap m) (X : (hd.heap_39 w.params).In h₀) (N : News h₀ L s.heap all) (PC : PullC (cellL o xs n) all led) (O : OffC o led) (sub : ∀ p ∈ kn, p ∈ led) (T : Top p loose mean mg mb h₀) (hk : cs.kind = .function) (rd : dp + 4 < recursionLimit) (ru : un + 40 < cLine) (hz : xs.length ≤ bd) (R : RegIs rv r) (hP : P r)
    (ret : ∀ rv' zs n' h' tk', Fr h₀ L h' m → News h₀ L h' (cellL o zs n' ++ led) → RegIs rv' (out r) → GrownO o xs zs [r] → Q rv' { s with heap := h', toks := tk' }) :
    wpAny (model P0 w) (ktrTop dp un gd cn cs L a ccd cl outer) (call (.ref fa) [rv]) Q E s := C _ _ _ _ _ _ _ _ _ _ _ _ _ _ _ _ _ _ _ _ _ _ B F X (PC.news N) O sub T hk rd ru hz R hP ret
theorem WrG.use {v : Value} {t : Ty} (C : WrG w p loose mean mg mb fa o bd P out kn t) (R : TyIn news v t) (hP : ∀ r ∈ t.regs, P r) (B : Below A₀ base outer h₀) (F : Fr h₀ L s.heap m) (X : (hd.heap_39 w.params).In h₀) (N : News h₀ L s.heap all) (PC : PullC (cellL o xs n) all led) (O : OffC o led) (sub : ∀ p ∈ news, p ∈ led) (sub2 : ∀ p ∈ kn, p ∈ led) (T : Top p loose mean mg mb h₀) (hk : cs.kind = .function)
    (rd : dp + (4 * t.deep + 4) < recursionLimit) (ru : un + (40 * t.deep + 40) < cLine) (hz : xs.length + t.regs.length ≤ bd)
    (ret : ∀ r tl zs n' h' tk', Fr h₀ L h' m → News h₀ L h' (cellL o zs n' ++ (tl ++ led)) → Apart led tl → OffC o tl → GrownO o xs zs t.regs → TyIn (tl ++ news) r (t.mapR out) → Q r { s with heap := h', toks := tk' }) :
    wpAny (model P0 w) (ktrTop dp un gd cn cs L a ccd cl outer) (call (.ref 45) [v, .ref fa]) Q E s := C v news R hP _ _ _ _ _ _ _ _ _ _ _ _ _ _ _ _ _ _ _ _ B F X (PC.news N) O sub sub2 T hk rd ru hz ret
theorem finG {h' : Heap} {lf lr tl : Led} {zs : List Value} {n' : Nat} {rs : List Reg} {r : Value} {tk' : Nat} {t : Ty}
    (hret : ∀ r tl zs n' h' tk', Fr h₀ L h' m → News h₀ L h' (cellL o zs n' ++ (tl ++ led)) → Apart led tl → OffC o tl → GrownO o xs zs rs → TyIn (tl ++ news) r t → Q r { s with heap := h', toks := tk' })
    (F : Fr h₀ L h' m) (N : News h₀ L h' lf) (PC : PullC (cellL o zs n') lf lr) (e : Ext led lr tl) (O : OffC o lr) (G : GrownO o xs zs rs) (R : TyIn (tl ++ news) r t) : Q r { s with heap := h', toks := tk' } := by
  have N' := PC.news N
  have q := e.eq
  subst q
  exact hret r tl zs n' h' tk' F N' e.apart (fun D e q hq => O D e q (List.mem_append_left _ hq)) G R
end
/-- a function is called, its arguments known -/
theorem X_callG {prog : Program} {w : World} {A : Around} {E : Value → Shared → Prop} {env : Env} {h : Heap} {g : Array GenState} {d : Drawn} {os : OsState} {func x : Expr} {es : List Expr} {pos : Pos} {fa : Addr} {P : (List Value → Prop) → Prop} {Q : Value → Shared → Prop} {tk : Nat} (ef : Ev prog w A E env h g d os func (.ref fa)) (C : FnAt fa h) (l : EvL prog w A E env h g d os (x :: es) P)
    (he : eval (.Call func (x :: es) [] pos) env = (do callWith pos (← eval func env) [] (backTo pos (starEach (x :: es) env)) (backToKw pos (keywordEach [] env)))) (hs : starEach (x :: es) env = (false, eval x env) :: starEach es env)
    (hp : (backTo pos (starEach es env)).any (·.1) = false)
    (hw : P (fun vs => ∀ tk', wpAny (model prog w) A (call (.ref fa) vs) Q E ⟨h, g, d, tk', os⟩)) : wpAny (model prog w) A (eval (.Call func (x :: es) [] pos) env) Q E ⟨h, g, d, tk, os⟩ :=
  Call_ (ef.out _ _ fun tk' => callWith_F C (l.out _ _ _ (l.mono (fun vs f q tk' => ⟨C, f tk'⟩) hw)) hs hp) he
theorem FnG.at {w : World} {fa : Addr} {kn : Led} {h₀ h : Heap} {L : Addr} {m : Str → Option Value} {led : Led} (G : FnG w fa kn) (F : Fr h₀ L h m) (X : (hd.heap_39 w.params).In h₀) (N : News h₀ L h led) (S : ∀ p ∈ kn, p ∈ led) : FnAt fa h := G h₀ h L m led F X N S
theorem fnAt_of_K {K : Frag} {h : Heap} {f : Addr} (X : K.In h) (e : fnIn K f = true) : FnAt f h := by
  unfold fnIn at e
  split at e
  · rename_i hk
    exact ⟨_, _, _, _, X _ _ hk⟩
  · cases e
section
variable {prog : Program} {w : World} {A : Around} {E : Value → Shared → Prop} {env : Env} {h : Heap} {g : Array GenState} {d : Drawn} {os : OsState}
/-- the arguments are known, all of them -/
theorem X_args {es : List Expr} {pos : Pos} {P : (List Value → Prop) → Prop} {Q : List Value → Shared → Prop} {tk : Nat} (l : EvL prog w A E env h g d os es P) (hw : P (fun vs => ∀ tk', Q vs ⟨h, g, d, tk', os⟩)) : wpAny (model prog w) A (spliced (backTo pos (starEach es env))) Q E ⟨h, g, d, tk, os⟩ :=
  l.out _ _ _ (l.mono (fun vs f _ tk' => f tk') hw)
/-- the first ones of a list's expressions are known -/
structure EvP (prog : Program) (w : World) (A : Around) (E : Value → Shared → Prop) (env : Env) (h : Heap) (g : Array GenState) (d : Drawn) (os : OsState) (es es' : List Expr) (P : ((List Value → List Value) → Prop) → Prop) : Prop where
  out : ∀ (pos : Pos) (tk : Nat) (Q : List Value → Shared → Prop), P (fun acc => ∀ tk', wpAny (model prog w) A (spliced (backTo pos (starEach es' env))) (fun vs s' => Q (acc vs) s') E ⟨h, g, d, tk', os⟩) → wpAny (model prog w) A (spliced (backTo pos (starEach es env))) Q E ⟨h, g, d, tk, os⟩
  mono : ∀ {k k' : (List Value → List Value) → Prop}, (∀ acc, k acc → k' acc) → P k → P k'
theorem evp_nil {es : List Expr} : EvP prog w A E env h g d os es es (fun k => k (fun vs => vs)) := ⟨fun _ tk _ hk => hk tk, fun f => f _⟩
theorem evp_cons {x : Expr} {es es' : List Expr} {v : Value} {P : ((List Value → List Value) → Prop) → Prop} (e : Ev prog w A E env h g d os x v) (l : EvP prog w A E env h g d os es es' P) (he : starEach (x :: es) env = (false, eval x env) :: starEach es env) :
    EvP prog w A E env h g d os (x :: es) es' (fun k => P (fun acc => k (fun vs => v :: acc vs))) :=
  ⟨fun _ tk Q hk => args_cons (e.out _ _ fun tk' => l.out _ _ _ hk) he, fun f => l.mono fun _ => f _⟩
theorem evp_str {c : Str} {kd : Nat} {p : Pos} {es es' : List Expr} {P : ((List Value → List Value) → Prop) → Prop} (l : EvP prog w A E env h g d os es es' P) :
    EvP prog w A E env h g d os (.Constant (.str c) kd p :: es) es' (fun k => ∀ t, P (fun acc => k (fun vs => .str c t :: acc vs))) :=
  ⟨fun _ tk Q hk => args_cons (PySem.Calls.Constant_str (l.out _ _ _ (hk _))) rfl, fun f hk t => l.mono (fun _ => f _) (hk t)⟩
theorem evp_int {c : Int} {kd : Nat} {p : Pos} {es es' : List Expr} {P : ((List Value → List Value) → Prop) → Prop} (l : EvP prog w A E env h g d os es es' P) :
    EvP prog w A E env h g d os (.Constant (.int c) kd p :: es) es' (fun k => ∀ t, P (fun acc => k (fun vs => .int c t :: acc vs))) :=
  ⟨fun _ tk Q hk => args_cons (wpAny_Constant_int (l.out _ _ _ (hk _))) rfl, fun f hk t => l.mono (fun _ => f _) (hk t)⟩
theorem X_argsP {x : Expr} {es es' : List Expr} {pos : Pos} {P : ((List Value → List Value) → Prop) → Prop} {Q : List Value → Shared → Prop} {tk : Nat} (l : EvP prog w A E env h g d os es (x :: es') P) (he : starEach (x :: es') env = (false, eval x env) :: starEach es' env)
    (hw : P (fun acc => ∀ tk', wpAny (model prog w) A (eval x env) (fun v s₁ => wpAny (model prog w) A (spliced (backTo pos (starEach es' env))) (fun vs s₂ => Q (acc (v :: vs)) s₂) E s₁) E ⟨h, g, d, tk', os⟩)) : wpAny (model prog w) A (spliced (backTo pos (starEach es env))) Q E ⟨h, g, d, tk, os⟩ :=
  l.out _ _ _ (l.mono (fun acc f tk' => args_cons (f tk') he) hw)
theorem evl_sub {x : Expr} {c i : Int} {t : Tok} {kd : Nat} {p pos : Pos} {es : List Expr} {P : (List Value → Prop) → Prop} (e : Ev prog w A E env h g d os x (.int i t)) (l : EvL prog w A E env h g d os es P) (he : starEach (.BinOp x .Sub (.Constant (.int c) kd p) pos :: es) env = (false, eval (.BinOp x .Sub (.Constant (.int c) kd p) pos) env) :: starEach es env) :
    EvL prog w A E env h g d os (.BinOp x .Sub (.Constant (.int c) kd p) pos :: es) (fun k => ∀ t, P (fun vs => k (.int (i - c) t :: vs))) :=
  ⟨fun _ tk Q hk => args_cons (wpAny_BinOp (e.out _ _ fun tk' => wpAny_Constant_int (sub_int (l.out _ _ _ (l.mono (fun _ f q tk'' => f (congrArg (· + 1) q) tk'') (hk _)))))) he, fun f hk t => l.mono (fun _ => f _) (hk t), fun pos => by rw [he]; show (false || (backTo pos (starEach es env)).any (·.1)) = false; rw [l.plain]; rfl⟩
/-- a call, what is called known -/
theorem X_callF {func : Expr} {args : List Expr} {pos : Pos} {f : Value} {Q : Value → Shared → Prop} {tk : Nat} (ef : Ev prog w A E env h g d os func f) (he : eval (.Call func args [] pos) env = (do callWith pos (← eval func env) [] (backTo pos (starEach args env)) (backToKw pos (keywordEach [] env))))
    (hw : ∀ tk', wpAny (model prog w) A (callWith pos f [] (backTo pos (starEach args env)) []) Q E ⟨h, g, d, tk', os⟩) : wpAny (model prog w) A (eval (.Call func args [] pos) env) Q E ⟨h, g, d, tk, os⟩ := Call_ (ef.out _ _ hw) he
/-- a def is called, its first arguments known -/
theorem X_callP {K : Frag} {h₀ : Heap} {L : Addr} {m : Str → Option Value} {func x : Expr} {y : Expr} {ys es' : List Expr} {pos : Pos} {f : Addr} {P : ((List Value → List Value) → Prop) → Prop} {Q : Value → Shared → Prop} {tk : Nat} (ef : Ev prog w A E env h g d os func (.ref f)) (F : Fr h₀ L h m) (X : K.In h₀) (hk : keepIn K (.ref f) = true) (l : EvP prog w A E env h g d os (y :: ys) (x :: es') P)
    (he : eval (.Call func (y :: ys) [] pos) env = (do callWith pos (← eval func env) [] (backTo pos (starEach (y :: ys) env)) (backToKw pos (keywordEach [] env)))) (hs : starEach (y :: ys) env = (false, eval y env) :: starEach ys env)
    (hp : (backTo pos (starEach ys env)).any (·.1) = false) (hx : starEach (x :: es') env = (false, eval x env) :: starEach es' env)
    (hw : P (fun acc => ∀ tk', wpAny (model prog w) A (eval x env) (fun v s₁ => wpAny (model prog w) A (spliced (backTo pos (starEach es' env))) (fun vs s₂ => K.In s₂.heap ∧ wpAny (model prog w) A (call (.ref f) (acc (v :: vs))) Q E s₂) E s₁) E ⟨h, g, d, tk', os⟩)) : wpAny (model prog w) A (eval (.Call func (y :: ys) [] pos) env) Q E ⟨h, g, d, tk, os⟩ :=
  Call_ (ef.out _ _ fun tk' => callWith_K X hk (X_argsP l hx hw) hs hp) he
/-- a tuple's display, its first parts known -/
theorem X_tupP {x y : Expr} {ys es' : List Expr} {kd : Nat} {pos : Pos} {P : ((List Value → List Value) → Prop) → Prop} {Q : Value → Shared → Prop} {tk : Nat} (l : EvP prog w A E env h g d os (y :: ys) (x :: es') P) (hx : starEach (x :: es') env = (false, eval x env) :: starEach es' env)
    (hw : P (fun acc => ∀ tk', wpAny (model prog w) A (eval x env) (fun v s₁ => wpAny (model prog w) A (spliced (backTo pos (starEach es' env))) (fun vs s₂ => wpAny (model prog w) A (newTuple (acc (v :: vs))) Q E s₂) E s₁) E ⟨h, g, d, tk', os⟩)) : wpAny (model prog w) A (eval (.Tuple (y :: ys) kd pos) env) Q E ⟨h, g, d, tk, os⟩ :=
  Tuple_ (X_argsP l hx hw)
/-- what an int's comparison with a number of the text answers -/
def opI (op : CmpOp) (i c : Int) (b : Bool) : Prop := match op with
  | .Eq => (i == c) = b
  | .NotEq => (i != c) = b
  | .Lt => decide (i < c) = b
  | .LtE => decide (i ≤ c) = b
  | .Gt => decide (i > c) = b
  | .GtE => decide (i ≥ c) = b
  | _ => False
theorem tst_int {x : Expr} {op : CmpOp} {i c : Int} {t : Tok} {kd : Nat} {p pos : Pos} {b : Bool} (e : Ev prog w A E env h g d os x (.int i t)) (hb : opI op i c b) : Tst prog w A E env h g d os (.Compare x [op] [.Constant (.int c) kd p] pos) b := by
  refine ⟨fun _ tk Q hQ => wpAny_isTrue_Compare1 (e.out _ _ fun tk' => wpAny_Constant_int ?_) (by cases op <;> rfl)⟩
  cases op with
  | Eq => exact eq_int (wpAny_truthy_bool ((show (i == c) = b from hb) ▸ hQ _))
  | NotEq => exact ne_int (wpAny_truthy_bool ((show (i != c) = b from hb) ▸ hQ _))
  | Lt => exact lt_int (wpAny_truthy_bool ((show decide (i < c) = b from hb) ▸ hQ _))
  | LtE => exact le_int (wpAny_truthy_bool ((show decide (i ≤ c) = b from hb) ▸ hQ _))
  | Gt => exact gt_int (wpAny_truthy_bool ((show decide (i > c) = b from hb) ▸ hQ _))
  | GtE => exact ge_int (wpAny_truthy_bool ((show decide (i ≥ c) = b from hb) ▸ hQ _))
  | _ => exact False.elim hb
end
section
variable {prog : Program} {w : World} {A : Around} {E : Value → Shared → Prop} {g : Array GenState} {d : Drawn} {os : OsState} {cn : Str} {cs : Scope} {L a : Addr} {ccd : Value} {cl : List (Str × Addr)} {h₀ : Heap}
theorem ev_item (hk : cs.kind = .function) {h : Heap} {m : Str → Option Value} (F : Fr h₀ L h m) {led : Led} (N : News h₀ L h led) {x : Str} {xp : Pos} {k : Int} {kd : Nat} {p pos : Pos} {r : Addr} {l : List Value} {v : Value} (hx : locOk cs.names x = true) (hv : m x = some (.ref r)) (hm : (r, tupO l) ∈ led) (hi : tupAt l k = some v) :
    Ev prog w A E (envX cn cs L a ccd cl) h g d os (.Subscript (.Name x xp) (.Constant (.int k) kd p) pos) v := ev_tup N (ev_loc hk F hx hv) hm hi
theorem tst_item (hk : cs.kind = .function) {h : Heap} {m : Str → Option Value} (F : Fr h₀ L h m) {led : Led} (N : News h₀ L h led) {x c c' : Str} {xp : Pos} {k : Int} {kd : Nat} {p pos : Pos} {r : Addr} {l : List Value} {t : Tok} {kd' : Nat} {p' pos' : Pos} {b : Bool} (hx : locOk cs.names x = true) (hv : m x = some (.ref r)) (hm : (r, tupO l) ∈ led) (hi : tupAt l k = some (.str c t)) (hb : (c == c') = b) :
    Tst prog w A E (envX cn cs L a ccd cl) h g d os (.Compare (.Subscript (.Name x xp) (.Constant (.int k) kd p) pos) [.Eq] [.Constant (.str c') kd' p'] pos') b := tst_eqS (ev_tup N (ev_loc hk F hx hv) hm hi) hb
theorem tst_locS (hk : cs.kind = .function) {h : Heap} {m : Str → Option Value} (F : Fr h₀ L h m) {x c c' : Str} {xp : Pos} {t : Tok} {kd' : Nat} {p' pos' : Pos} {b : Bool} (hx : locOk cs.names x = true) (hv : m x = some (.str c t)) (hb : (c == c') = b) :
    Tst prog w A E (envX cn cs L a ccd cl) h g d os (.Compare (.Name x xp) [.Eq] [.Constant (.str c') kd' p'] pos') b := tst_eqS (ev_loc hk F hx hv) hb
end
def opP (op : CmpOp) (i c : Int) : Prop := match op with
  | .Eq => i = c
  | .NotEq => i ≠ c
  | .Lt => i < c
  | .LtE => i ≤ c
  | .Gt => c < i
  | .GtE => c ≤ i
  | _ => False
theorem opi_t {op : CmpOp} {i c : Int} (h : opP op i c) : opI op i c true := by
  cases op with
  | Eq => exact beq_iff_eq.mpr h
  | NotEq => exact bne_iff_ne.mpr h
  | Lt => exact decide_eq_true h
  | LtE => exact decide_eq_true h
  | Gt => exact decide_eq_true h
  | GtE => exact decide_eq_true h
  | _ => exact h
theorem opi_f {op : CmpOp} {i c : Int} (h : ¬ opP op i c) (k : ∃ b, opI op i c b) : opI op i c false := by
  cases op with
  | Eq => exact beq_eq_false_iff_ne.mpr h
  | NotEq => exact bne_eq_false_iff_eq.mpr (Decidable.byContradiction h)
  | Lt => exact decide_eq_false h
  | LtE => exact decide_eq_false h
  | Gt => exact decide_eq_false h
  | GtE => exact decide_eq_false h
  | _ => exact k.elim fun _ h => h
theorem eqI_t {i c : Int} (h : i = c) : opI .Eq i c true := opi_t (op := .Eq) h
theorem eqI_f {i c : Int} (h : i ≠ c) : opI .Eq i c false := opi_f (op := .Eq) h ⟨_, rfl⟩
theorem neI_t {i c : Int} (h : i ≠ c) : opI .NotEq i c true := opi_t (op := .NotEq) h
theorem neI_f {i c : Int} (h : i = c) : opI .NotEq i c false := opi_f (op := .NotEq) (fun k => k h) ⟨_, rfl⟩
theorem ltI_t {i c : Int} (h : i < c) : opI .Lt i c true := opi_t (op := .Lt) h
theorem ltI_f {i c : Int} (h : c ≤ i) : opI .Lt i c false := opi_f (op := .Lt) (Int.not_lt.mpr h) ⟨_, rfl⟩
theorem gtI_t {i c : Int} (h : c < i) : opI .Gt i c true := opi_t (op := .Gt) h
theorem gtI_f {i c : Int} (h : i ≤ c) : opI .Gt i c false := opi_f (op := .Gt) (Int.not_lt.mpr h) ⟨_, rfl⟩
/-- the value of a flow that leaves a def -/
def flV : Flow → Value
  | .ret v => v
  | _ => .none
/-- a def's end: its caller's frame stands as it stood -/
def KRet (h₀ : Heap) (L : Addr) (m : Str → Option Value) (g : Heap) (Q : Value → Shared → Prop) (fl : Flow) (s' : Shared) : Prop :=
  ∃ L' m' news', Fr g L' s'.heap m' ∧ News g L' s'.heap news' ∧ (Fr h₀ L s'.heap m → News h₀ L s'.heap news' → Q (flV fl) s')
section
variable {prog : Program} {w : World} {A A₀ : Around} {K : Frag} {L : Addr} {h₀ base hp : Heap} {gs : Array GenState} {dr : Drawn} {tk : Nat} {os : OsState} {m mg mb : Str → Option Value} {news : Led} {p : Program} {loose : List Str} {mean : ExcName → Option Value}
  {env : Env} {outer : List Env} {name qual : Str} {params : Arguments} {body : List Stmt} {scope : Scope} {dV kV doc pm cdv ct oc : Value} {an od : Option Addr} {osl : Array (Option Value)} {f : Addr} {vs : List Value} {binds : List (Str × Value)} {Q E : Value → Shared → Prop}
theorem kret_ {L' : Addr} {m' : Str → Option Value} {g h : Heap} {v : Value} {news' : Led} {Q' : Value → Shared → Prop} (hQ : ∀ v s, Q v s → Q' v s) (F' : Fr g L' h m') (N' : News g L' h news') (k : Fr h₀ L h m → News h₀ L h news' → Q v ⟨h, gs, dr, tk, os⟩) : KRet h₀ L m g Q' (.ret v) ⟨h, gs, dr, tk, os⟩ := ⟨L', m', news', F', N', fun a b => hQ _ _ (k a b)⟩
theorem kret_n {L' : Addr} {m' : Str → Option Value} {g h : Heap} {news' : Led} {Q' : Value → Shared → Prop} (hQ : ∀ v s, Q v s → Q' v s) (F' : Fr g L' h m') (N' : News g L' h news') (k : Fr h₀ L h m → News h₀ L h news' → Q .none ⟨h, gs, dr, tk, os⟩) : KRet h₀ L m g Q' .next ⟨h, gs, dr, tk, os⟩ := ⟨L', m', news', F', N', fun a b => hQ _ _ (k a b)⟩
theorem leave_of {g : Heap} {fl : Flow} {s' : Shared} (h : KRet h₀ L m g Q fl s') : LeaveK h₀ L m g (fun r s' => match r with | .ok (.ret v) => Q v s' | .ok _ => False | .error e => E e s') (flV fl) s' := by
  obtain ⟨L', m', news', F', N', k⟩ := h
  exact ⟨L', m', news', F', N', fun a b => by have := k a b; cases fl <;> exact this⟩
theorem call_def (B : Below A₀ base outer h₀) (F : Fr h₀ L hp m) (X₀ : K.In h₀) (N : News h₀ L hp news) (T : Top p loose mean mg mb h₀) (hA : A.frames = some (env :: outer)) (hf : env.frame = some L) (hke : env.scope.kind = .function)
    (ho : K.lookup f = some ⟨oc, od, .func (fnOf name qual params body scope dV kV doc pm an cdv ct), osl⟩) (hcd : codeIn K cdv qual = true) (hroom : A.depth < recursionLimit)
    (hbind : BindsTo ⟨hp, gs, dr, tk, os⟩ (fnOf name qual params body scope dV kV doc pm an cdv ct) ⟨vs, []⟩ binds) (hloc : ∀ y ∈ binds, scope.names.lookup y.1 = some .local)
    (h : ∀ (Q' : Value → Shared → Prop) g L' h₁ tk', (∀ v s, Q v s → Q' v s) → Fr h₀ L g m → Fr g L' h₁ (fun y => binds.reverse.lookup y) → News g L' h₁ news → Below A base (env :: outer) g → K.In g → Top p loose mean mg mb g →
      wpAny (model prog w) (A.deeper (envOf qual scope L' f cdv)) (execs body (envOf qual scope L' f cdv)) (KRet h₀ L m g Q') (fun _ _ => False) ⟨h₁, gs, dr, tk', os⟩)
    (hco : scope.isCoroutine = false) (hgen : scope.isGenerator = false) (hk : scope.kind = .function)
    (hcell : ∀ x ∈ scope.names, x.2 ≠ .cell) : wpAny (model prog w) A (call (.ref f) vs) Q E ⟨hp, gs, dr, tk, os⟩ :=
  wpAny_call (code_def (s := ⟨hp, gs, dr, tk, os⟩) B F X₀ N T hA hf hke ho hcd hroom hbind hloc (fun g L' h₁ FG F' N' B' X' T' => wpAny_mono (h Q g L' h₁ _ (fun _ _ x => x) FG F' N' B' X' T') (fun _ _ x => leave_of x) (fun _ _ x => x.elim)) hco hgen hk hcell)
theorem call_defC (B : Below A₀ base outer h₀) (F : Fr h₀ L hp m) (X₀ : K.In h₀) (N : News h₀ L hp news) (T : Top p loose mean mg mb h₀) (hA : A.frames = some (env :: outer)) (hf : env.frame = some L) (hke : env.scope.kind = .function)
    (ho : K.lookup f = some ⟨oc, od, .func (fnOf name qual params body scope dV kV doc pm an cdv ct), osl⟩) (hcd : codeIn K cdv qual = true) (hroom : A.depth < recursionLimit)
    (hbind : BindsTo ⟨hp, gs, dr, tk, os⟩ (fnOf name qual params body scope dV kV doc pm an cdv ct) ⟨vs, []⟩ binds) (hkind : (binds.all fun y => scope.names.lookup y.1 == some .local || scope.names.lookup y.1 == some .cell) = true)
    (hnd : ((cellsFrom 0 scope.names []).map (·.1)).Nodup)
    (h : ∀ (Q' : Value → Shared → Prop) g L' h₁ tk cells, (∀ v s, Q v s → Q' v s) → Fr h₀ L g m → Fr g L' h₁ (bindL (envOfC qual scope L' f cdv).kindOf binds fun _ => none) → News g L' h₁ (cells ++ news) →
      CellsAre (bindC (envOfC qual scope L' f cdv).kindOf binds fun _ => none) (cellsFrom (L' + 1) scope.names []) cells → Below A base (env :: outer) g → K.In g → Top p loose mean mg mb g → AllLt L' news →
      wpAny (model prog w) (A.deeper (envOfC qual scope L' f cdv)) (execs body (envOfC qual scope L' f cdv)) (KRet h₀ L m g Q') (fun _ _ => False) ⟨h₁, gs, dr, tk, os⟩)
    (hco : scope.isCoroutine = false) (hgen : scope.isGenerator = false) (hk : scope.kind = .function) : wpAny (model prog w) A (call (.ref f) vs) Q E ⟨hp, gs, dr, tk, os⟩ :=
  wpAny_call (code_defC (s := ⟨hp, gs, dr, tk, os⟩) B F X₀ N T hA hf hke ho hcd hroom hbind hkind hnd (fun g L' h₁ tk cells FG F' N' Y B' X' T' l => wpAny_mono (h Q g L' h₁ tk cells (fun _ _ x => x) FG F' N' Y B' X' T' (allLt_of l)) (fun _ _ x => leave_of x) (fun _ _ x => x.elim)) hco hgen hk)
end
/-- a statement, what follows it put aside -/
theorem x_seq {M : Model} {A : Around} {st : Stmt} {rest : List Stmt} {env : Env} {Q : Flow → Shared → Prop} {E : Value → Shared → Prop} {s : Shared}
    (h : ∀ Q1 : Flow → Shared → Prop, (∀ s', wpAny M A (execs rest env) Q E s' → Q1 .next s') → (∀ v s', Q (.ret v) s' → Q1 (.ret v) s') → wpAny M A (exec st env) Q1 E s) : wpAny M A (execs (st :: rest) env) Q E s :=
  wpAny_execs_cons (h _ (fun _ h => h) (fun _ _ h => h))
theorem x_next {Q1 : Flow → Shared → Prop} {P : Shared → Prop} {s : Shared} (hn : ∀ s', P s' → Q1 .next s') (h : P s) : Q1 .next s := hn _ h
theorem x_retn {Q Q1 : Flow → Shared → Prop} {v : Value} {s : Shared} (hr : ∀ v s', Q (.ret v) s' → Q1 (.ret v) s') (h : Q (.ret v) s) : Q1 (.ret v) s := hr _ _ h
def Stop (p : Prop) : Prop := p
theorem stop_i {p : Prop} (h : Stop p) : p := h
/-- what stands is put aside, but for two entries -/
theorem seal2 {h₀ h : Heap} {L : Addr} {led lf lr tl : Led} {a b : Addr} {o o' : Obj} {G : Prop} (N : News h₀ L h lf) (P : Pulls [(a, o), (b, o')] lf lr) (e : Ext led lr tl) (O : Offs [(a, o), (b, o')] lr)
    (k : ∀ T, News h₀ L h ((a, o) :: (b, o') :: (T ++ led)) → Apart led T → Off a T → Off b T → Off a led → Off b led → (∀ p ∈ tl, p ∈ T) → G) : G := by
  have q := e.eq
  subst q
  exact k tl (fun p hp => N p (P.mem p hp)) e.apart (fun q hq => O.1 q (List.mem_append_left _ hq)) (fun q hq => O.2.1 q (List.mem_append_left _ hq)) (fun q hq => O.1 q (List.mem_append_right _ hq)) (fun q hq => O.2.1 q (List.mem_append_right _ hq)) (fun _ h => h)
section
variable {l : Led}
theorem TyIn.inv_byte {motive : ∀ v, TyIn l v .byte → Prop} (mk : ∀ {a : Addr} {k1 k2 : Tok} (m : (a, tupO [st "int" k1, st "u8" k2]) ∈ l), motive (.ref a) (.byte m)) {v : Value} (h : TyIn l v .byte) : motive v h := by
  cases h with
  | byte m => exact mk m
theorem TyIn.inv_par {motive : ∀ v, TyIn l v .par → Prop} (mk : ∀ {a : Addr} {k1 k2 : Tok} (m : (a, tupO [st "param" k1, st "T" k2]) ∈ l), motive (.ref a) (.par m)) {v : Value} (h : TyIn l v .par) : motive v h := by
  cases h with
  | par m => exact mk m
theorem TyIn.inv_ref {r : Reg} {t : Ty} {motive : ∀ v, TyIn l v (.ref r t) → Prop} (mk : ∀ {a : Addr} {k1 : Tok} {rv v' : Value} (m : (a, tupO [st "ref" k1, rv, .bool false, v']) ∈ l) (h1 : RegIs rv r) (h2 : TyIn l v' t), motive (.ref a) (.ref m h1 h2)) {v : Value} (h : TyIn l v (.ref r t)) : motive v h := by
  cases h with
  | ref m h1 h2 => exact mk m h1 h2
theorem TyIn.inv_box {t : Ty} {motive : ∀ v, TyIn l v (.box t) → Prop} (mk : ∀ {a : Addr} {k1 : Tok} {v' : Value} (m : (a, tupO [st "box" k1, v']) ∈ l) (h2 : TyIn l v' t), motive (.ref a) (.box m h2)) {v : Value} (h : TyIn l v (.box t)) : motive v h := by
  cases h with
  | box m h2 => exact mk m h2
theorem TyIn.inv_arr {t : Ty} {motive : ∀ v, TyIn l v (.arr t) → Prop} (mk : ∀ {a : Addr} {k1 k2 : Tok} {v' : Value} (m : (a, tupO [st "array" k1, v', .int 2 k2]) ∈ l) (h2 : TyIn l v' t), motive (.ref a) (.arr m h2)) {v : Value} (h : TyIn l v (.arr t)) : motive v h := by
  cases h with
  | arr m h2 => exact mk m h2
theorem TyIn.inv_pair {t u : Ty} {motive : ∀ v, TyIn l v (.pair t u) → Prop} (mk : ∀ {a b : Addr} {k1 : Tok} {v' u' : Value} (m : (a, tupO [st "tuple" k1, .ref b]) ∈ l) (m2 : (b, tupO [v', u']) ∈ l) (h2 : TyIn l v' t) (h3 : TyIn l u' u), motive (.ref a) (.pair m m2 h2 h3)) {v : Value} (h : TyIn l v (.pair t u)) : motive v h := by
  cases h with
  | pair m m2 h2 h3 => exact mk m m2 h2 h3
theorem TyIn.inv_g {r : Reg} {motive : ∀ v, TyIn l v (.g r) → Prop} (mk : ∀ {a b c : Addr} {k1 k2 : Tok} {rv : Value} (m : (a, tupO [st "adt" k1, st "G" k2, .ref b, .ref c]) ∈ l) (m2 : (b, tupO [rv]) ∈ l) (m3 : (c, tupO []) ∈ l) (h1 : RegIs rv r), motive (.ref a) (.g m m2 m3 h1)) {v : Value} (h : TyIn l v (.g r)) : motive v h := by
  cases h with
  | g m m2 m3 h1 => exact mk m m2 m3 h1
theorem TyIn.inv_ad {n : Nm} {r : Reg} {t : Ty} {motive : ∀ v, TyIn l v (.ad n r t) → Prop} (mk : ∀ {a b c : Addr} {k1 k2 : Tok} {rv v' : Value} (m : (a, tupO [st "adt" k1, .str n.s k2, .ref b, .ref c]) ∈ l) (m2 : (b, tupO [rv]) ∈ l) (m3 : (c, tupO [v']) ∈ l) (h1 : RegIs rv r) (h2 : TyIn l v' t), motive (.ref a) (.ad m m2 m3 h1 h2)) {v : Value} (h : TyIn l v (.ad n r t)) : motive v h := by
  cases h with
  | ad m m2 m3 h1 h2 => exact mk m m2 m3 h1 h2
end
section
variable {prog : Program} {w : World} {A : Around} {h₀ : Heap} {L : Addr} {m : Str → Option Value} {env : Env} {s : Shared} {elt : Expr} {x x₂ : Str} {scope : Scope} {cl : List (Str × Addr)} {S : Led → Prop} {Fin : List Value → Led → Prop} {k i : Nat} {ys vs : List Value} {news : Led} {v0 : Value}
/-- a turn of a comprehension over what is known -/
theorem comp_succ (hv : vs[i]? = some v0)
    (h : ∀ (Q9 : Value → Shared → Prop) I oI C oC D m₂ h tk, (∀ y s', LCg.CompEnd h₀ L m { s with heap := h, toks := tk } I oI C oC D (LCg.lst ys) S (fun y news' => LCg.CompRest prog w A h₀ L m env elt x scope cl s S (fun i v => vs.toArray[i]? = some v) Fin k (i + 1) (ys ++ [y]) news') y s' → Q9 y s') →
      LCg.NsObj oC m₂ → m₂ x = some v0 → Fr h₀ L h m → News h₀ L h ((I, oI) :: (C, oC) :: (D, LCg.lst ys) :: news) → Off I news → Off C news → Off D news → ((@Ne Nat I C) ∧ (@Ne Nat I D) ∧ (@Ne Nat C D)) →
      wpAny (model prog w) A (eval elt (compEnvC scope cl C env)) Q9 (fun _ _ => False) ⟨h, s.gens, s.drawn, tk, s.os⟩) :
    LCg.CompRest prog w A h₀ L m env elt x scope cl s S (fun i v => vs.toArray[i]? = some v) Fin (k + 1) i ys news :=
  LCg.CompRest.succ fun v I oI C oC D m₂ h' tk E' hP hN hx F N o ne => by
    have e : v0 = v := Option.some.inj (hv.symm.trans (List.getElem?_toArray.symm.trans hP))
    subst e
    obtain ⟨a, b, c⟩ := off3_of o
    exact wpAny_noRaise (h _ I oI C oC D m₂ h' tk (fun _ _ x => x) hN hx F N a b c ne)
theorem compP_succ {t : Addr} {v₁ v₂ : Value} {nt : Nat} (hv : vs[i]? = some (.ref t)) (ht : (t, ({ cls := .type "tuple", data := .seq #[v₁, v₂] nt } : Obj)) ∈ news)
    (h : ∀ (Q9 : Value → Shared → Prop) I oI C oC D m₂ h tk, (∀ y s', LCg.CompEnd h₀ L m { s with heap := h, toks := tk } I oI C oC D (LCg.lst ys) S (fun y news' => LCp.CompRestP prog w A h₀ L m env elt x x₂ scope cl s S (fun i v => vs.toArray[i]? = some v) Fin k (i + 1) (ys ++ [y]) news') y s' → Q9 y s') →
      LCg.NsObj oC m₂ → m₂ x = some v₁ → m₂ x₂ = some v₂ → Fr h₀ L h m → News h₀ L h ((I, oI) :: (C, oC) :: (D, LCg.lst ys) :: news) → Off I news → Off C news → Off D news → ((@Ne Nat I C) ∧ (@Ne Nat I D) ∧ (@Ne Nat C D)) →
      wpAny (model prog w) A (eval elt (compEnvC scope cl C env)) Q9 (fun _ _ => False) ⟨h, s.gens, s.drawn, tk, s.os⟩) :
    LCp.CompRestP prog w A h₀ L m env elt x x₂ scope cl s S (fun i v => vs.toArray[i]? = some v) Fin (k + 1) i ys news :=
  LCp.CompRestP.succ fun v hP => by
    have e : .ref t = v := Option.some.inj (hv.symm.trans (List.getElem?_toArray.symm.trans hP))
    subst e
    refine ⟨_, _, v₁, v₂, nt, rfl, ht, rfl, rfl, fun I oI C oC D m₂ h' tk E' hN hx hy F N o ne => ?_⟩
    obtain ⟨a, b, c⟩ := off3_of o
    exact wpAny_noRaise (h _ I oI C oC D m₂ h' tk (fun _ _ x => x) hN hx hy F N a b c ne)
theorem x_val {P Q1 : Value → Shared → Prop} {v : Value} {s : Shared} (hv : ∀ v s', P v s' → Q1 v s') (h : P v s) : Q1 v s := hv _ _ h
end
end Mine
end
section
namespace Mine
section
variable {prog : Program} {w : World} {A : Around} {E : Value → Shared → Prop} {s : Shared}
/-- an iterator over a tuple, drawn from within a zip: one more -/
theorem nextOf_tup {it t : Addr} {i : Nat} {items : Array Value} {x : Value} {Q : Value → Shared → Prop} (hit : s.heap.IsTupleIter it t i) (ht : s.heap.IsTuple t items) (hx : items[i]? = some x)
    (hQ : ∀ h', h'.IsTupleIter it t (i + 1) → Heap.SameBut it s.heap h' → Q x { s with heap := h' }) : wpAny (model prog w) A (Builtin.SmallTypes.nextOf (.ref it)) Q E s := by
  have hit0 := hit
  obtain ⟨o, ho, hc, hd⟩ := hit
  obtain ⟨ot, hot, _, nt, hdt⟩ := ht
  unfold Builtin.SmallTypes.nextOf
  refine wpAny_bind (wpAny_callSpecial?_slot (name := Str.ofString "__next__") hit0.typeIs F.slot_tuple_iterator_next (wpAny_call_entry F.slot_tuple_iterator_next hit0.typeIs F.entry_tuple_iterator_next ?_ (F.args_tuple_iterator_next_1 _)))
  show wpAny _ _ (field (.ref it) 0 >>= _) _ _ s
  refine wpAny_bind (wpAny_field ho hd (x := .ref t) rfl ?_)
  show wpAny _ _ (if (Value.ref t == Value.none) = true then _ else _) _ _ s
  rw [if_neg (show ¬ ((Value.ref t == Value.none) = true) from Bool.false_ne_true)]
  show wpAny _ _ (field (.ref it) 1 >>= _) _ _ s
  refine wpAny_bind (wpAny_field ho hd (x := .int i 0) rfl ?_)
  show wpAny _ _ (seqItems? (.ref t) >>= _) _ _ s
  refine wpAny_bind (wpAny_seqItems hot hdt ?_)
  simp only [Int.toNat_natCast, hx]
  refine wpAny_bind (wpAny_setField ho hd (by simp) (wpAny_pure ⟨x, rfl, wpAny_pure (hQ _ ?_ (Heap.SameBut.update ..))⟩))
  refine ⟨_, Heap.get?_update_self _ ho (Obj.isFreed_of_fields (Obj.data_mapFields hd _)), (Obj.cls_mapFields ..).trans hc, ?_⟩
  rw [Obj.data_mapFields hd]
  simp [rawInt]
/-- .. and its end -/
theorem nextOf_tup_end {it t : Addr} {i : Nat} {items : Array Value} {Q : Value → Shared → Prop} (hh : A.handled = none) (hit : s.heap.IsTupleIter it t i) (ht : s.heap.IsTuple t items) (hx : items[i]? = none)
    (hE : ∀ h' e, Heap.ExtBut it s.heap h' → (∃ o, h'.get? e = some o ∧ o.cls = .type "StopIteration") → E (.ref e) { s with heap := h' }) : wpAny (model prog w) A (Builtin.SmallTypes.nextOf (.ref it)) Q E s := by
  have hit0 := hit
  obtain ⟨o, ho, hc, hd⟩ := hit
  obtain ⟨ot, hot, _, nt, hdt⟩ := ht
  unfold Builtin.SmallTypes.nextOf
  refine wpAny_bind (wpAny_callSpecial?_slot (name := Str.ofString "__next__") hit0.typeIs F.slot_tuple_iterator_next (wpAny_call_entry F.slot_tuple_iterator_next hit0.typeIs F.entry_tuple_iterator_next ?_ (F.args_tuple_iterator_next_1 _)))
  show wpAny _ _ (field (.ref it) 0 >>= _) _ _ s
  refine wpAny_bind (wpAny_field ho hd (x := .ref t) rfl ?_)
  show wpAny _ _ (if (Value.ref t == Value.none) = true then _ else _) _ _ s
  rw [if_neg (show ¬ ((Value.ref t == Value.none) = true) from Bool.false_ne_true)]
  show wpAny _ _ (field (.ref it) 1 >>= _) _ _ s
  refine wpAny_bind (wpAny_field ho hd (x := .int i 0) rfl ?_)
  show wpAny _ _ (seqItems? (.ref t) >>= _) _ _ s
  refine wpAny_bind (wpAny_seqItems hot hdt ?_)
  simp only [Int.toNat_natCast, hx]
  refine wpAny_bind (wpAny_rule (wpAny_bind (wpAny_setField ho hd (by simp) ?_)))
  show wpAny _ _ (newExc (.type "StopIteration") [] >>= _) _ _ _
  refine wpAny_bind ?_
  simp only [newExc, newTuple]
  refine wpAny_bind (wpAny_newObj_type ?_ (by size_fits))
  refine wpAny_bind (m := firstArgMember _ _) (wpAny_of_eq (a := Value.none) (by first | rfl | (simp only [firstArgMember]; rfl)) ?_)
  refine wpAny_newObj_type ?_ (by size_fits)
  simp only [raiseNew]
  refine wpAny_bind (wpAny_handled ?_)
  first | rw [show A.in1.handled = none from hh] | rw [hh]
  refine wpAny_bind (wpAny_pure (wpAny_throw ?_))
  exact hE _ _ (((Heap.SameBut.update ..).extBut.push _).push _) ⟨_, Heap.get?_push_size _ rfl, rfl⟩
/-- where the parts of a zip of two tuples lie -/
structure ZA (z TI TO i1 i2 l1 l2 : Addr) : Prop where
  a1 : TI ≠ z
  a2 : TO ≠ z
  a3 : i1 ≠ z
  a4 : i2 ≠ z
  a5 : TI ≠ TO
  a6 : TI ≠ i1
  a7 : TI ≠ i2
  a8 : TO ≠ i1
  a9 : TO ≠ i2
  b1 : i1 ≠ i2
  b2 : l1 ≠ z
  b3 : l1 ≠ TO
  b4 : l1 ≠ i1
  b5 : l1 ≠ i2
  b6 : l2 ≠ z
  b7 : l2 ≠ TO
  b8 : l2 ≠ i1
  b9 : l2 ≠ i2
/-- a zip of two tuples that stands before its k-th pair -/
structure ZSt (h : Heap) (z TI TO i1 i2 l1 l2 : Addr) (xs ys : Array Value) (f0 : Value) (k : Nat) : Prop where
  hz : IsZip h z TI TO f0
  hTI : IsPair h TI (.ref i1) (.ref i2)
  hTO : ∃ a b, IsPair h TO a b
  h1 : h.IsTupleIter i1 l1 k
  h2 : h.IsTupleIter i2 l2 k
  l1 : h.IsTuple l1 xs
  l2 : h.IsTuple l2 ys
abbrev OffZ (z TO i1 i2 : Addr) (h h' : Heap) : Prop := ∀ c o, c ≠ z → c ≠ TO → c ≠ i1 → c ≠ i2 → h.get? c = some o → h'.get? c = some o
section
variable {z TI TO i1 i2 l1 l2 : Addr} {xs ys : Array Value} {k : Nat} {x y : Value}
theorem zipT_item {Q : Value → Shared → Prop} (D : ZA z TI TO i1 i2 l1 l2) (S : ZSt s.heap z TI TO i1 i2 l1 l2 xs ys .none k) (hx : xs[k]? = some x) (hy : ys[k]? = some y)
    (hQ : ∀ h', ZSt h' z TI TO i1 i2 l1 l2 xs ys (rawInt s.heap.objs.size) (k + 1) → IsPair h' s.heap.objs.size x y → h'.objs.size = s.heap.objs.size + 1 → OffZ z TO i1 i2 s.heap h' → Q (.ref s.heap.objs.size) { s with heap := h' }) :
    wpAny (model prog w) A (Builtin.«zip.__next__» ⟨[.ref z], []⟩) (fun fin s' => ∃ v, fin = .done (.ret v) ∧ Q v s') E s := by
  obtain ⟨hz, hTI, ⟨a, b, hTO⟩, h1, h2, hl1, hl2⟩ := S
  show wpAny _ _ (field (.ref z) 2 >>= _) _ _ _
  refine wpAny_bind (wpAny_field hz rfl (x := .bool false) rfl ?_)
  show wpAny _ _ (field (.ref z) 3 >>= _) _ _ _
  refine wpAny_bind (wpAny_field hz rfl (x := .ref TI) rfl ?_)
  refine wpAny_bind (wpAny_seqItems hTI rfl ?_)
  show wpAny _ _ (Builtin.SmallTypes.ownedTupleIsFree (.ref z) >>= _) _ _ _
  refine wpAny_bind ?_
  unfold Builtin.SmallTypes.ownedTupleIsFree
  refine wpAny_bind (wpAny_field hz rfl (x := .none) rfl (wpAny_pure ?_))
  simp only [if_true]
  refine wpAny_bind (wpAny_rule ?_)
  refine wpAny_bind (wpAny_field hz rfl (x := .ref TO) rfl ?_)
  refine wpAny_bind (wpAny_setField_rec hz (by simp) fun g₁ hz₁ s₁ => ?_)
  replace hz₁ : IsZip g₁ z TI TO .ellipsis := hz₁
  refine wpAny_bind ?_
  simp only [List.zipIdx_cons, List.zipIdx_nil, List.forIn_cons, List.forIn_nil]
  refine wpAny_bind (wpAny_bind (wpAny_onRaise ?_))
  show wpAny _ _ (Builtin.SmallTypes.nextOf (.ref i1) >>= _) _ _ _
  refine wpAny_bind (nextOf_tup (h1.extBut s₁.extBut D.a3) (hl1.extBut s₁.extBut D.b2) hx fun g₂ q1 s₂ => wpAny_pure ?_)
  have o₂ : IsPair g₂ TO a b := s₂.extBut _ _ D.a8 (s₁.extBut _ _ D.a2 hTO)
  refine wpAny_bind (wpAny_seqItems o₂ rfl ?_)
  refine wpAny_bind (wpAny_updateSeq_pair o₂ fun g₃ o₃ s₃ => ?_)
  replace o₃ : IsPair g₃ TO x b := o₃
  refine wpAny_bind (wpAny_letGo (wpAny_pure ?_))
  refine wpAny_bind (wpAny_bind (wpAny_onRaise ?_))
  show wpAny _ _ (Builtin.SmallTypes.nextOf (.ref i2) >>= _) _ _ _
  refine wpAny_bind (nextOf_tup (((h2.extBut s₁.extBut D.a4).extBut s₂.extBut D.b1.symm).extBut s₃.extBut D.a9.symm) (((hl2.extBut s₁.extBut D.b6).extBut s₂.extBut D.b8).extBut s₃.extBut D.b7) hy fun g₄ q2 s₄ => wpAny_pure ?_)
  have o₄ : IsPair g₄ TO x b := s₄.extBut _ _ D.a9 o₃
  refine wpAny_bind (wpAny_seqItems o₄ rfl ?_)
  refine wpAny_bind (wpAny_updateSeq_pair o₄ fun g₅ o₅ s₅ => ?_)
  replace o₅ : IsPair g₅ TO x y := o₅
  refine wpAny_bind (wpAny_letGo (wpAny_pure (wpAny_pure ?_)))
  refine wpAny_bind (wpAny_seqItems o₅ rfl ?_)
  refine wpAny_bind (wpAny_newTuple ?_)
  have sz : g₅.objs.size = s.heap.objs.size := by rw [s₅.1, s₄.1, s₃.1, s₂.1, s₁.1]
  have z₅ : IsZip g₅ z TI TO .ellipsis := s₅.extBut _ _ D.a2.symm (s₄.extBut _ _ D.a4.symm (s₃.extBut _ _ D.a2.symm (s₂.extBut _ _ D.a3.symm hz₁)))
  have k₅ : OffZ z TO i1 i2 s.heap g₅ := fun c o c1 c2 c3 c4 e => s₅.extBut _ _ c2 (s₄.extBut _ _ c4 (s₃.extBut _ _ c2 (s₂.extBut _ _ c3 (s₁.extBut _ _ c1 e))))
  have r1 : g₅.IsTupleIter i1 l1 (k + 1) := ((q1.extBut s₃.extBut D.a8.symm).extBut s₄.extBut D.b1).extBut s₅.extBut D.a8.symm
  have r2 : g₅.IsTupleIter i2 l2 (k + 1) := q2.extBut s₅.extBut D.a9.symm
  have zlt : z < g₅.objs.size := Heap.lt_size z₅
  show wpAny _ _ (Builtin.SmallTypes.ownedTupleHandOut (.ref z) (.ref g₅.objs.size) >>= _) _ _ _
  refine wpAny_bind ?_
  unfold Builtin.SmallTypes.ownedTupleHandOut
  have z₆ : IsZip (g₅.push { cls := .type "tuple", data := .seq #[x, y] }) z TI TO .ellipsis := Heap.get?_push_of_some _ z₅
  refine wpAny_bind (wpAny_setField_rec z₆ (by simp) fun g₇ z₇ s₇ => ?_)
  replace z₇ : IsZip g₇ z TI TO (rawInt g₅.objs.size) := z₇
  refine wpAny_setField_rec z₇ (by simp) fun g₈ z₈ s₈ => ?_
  replace z₈ : IsZip g₈ z TI TO (rawInt g₅.objs.size) := z₈
  have up : ∀ c o, c ≠ z → g₅.get? c = some o → g₈.get? c = some o := fun c o c1 e => s₈.extBut _ _ c1 (s₇.extBut _ _ c1 (Heap.get?_push_of_some _ e))
  have p₈ : IsPair g₈ g₅.objs.size x y := s₈.extBut _ _ (Nat.ne_of_gt zlt) (s₇.extBut _ _ (Nat.ne_of_gt zlt) (Heap.get?_push_size _ rfl))
  have n₈ : g₈.objs.size = g₅.objs.size + 1 := by rw [s₈.1, s₇.1, Heap.size_push]
  rw [sz] at z₈ p₈ n₈
  refine wpAny_pure ⟨_, rfl, ?_⟩
  show Q (.ref g₅.objs.size) _
  rw [sz]
  have kk : OffZ z TO i1 i2 s.heap g₈ := fun c o c1 c2 c3 c4 e => up c o c1 (k₅ c o c1 c2 c3 c4 e)
  exact hQ g₈ ⟨z₈, kk _ _ D.a1 D.a5 D.a6 D.a7 hTI, ⟨_, _, up _ _ D.a2 o₅⟩, r1.at fun o e => up _ o D.a3 e, r2.at fun o e => up _ o D.a4 e, hl1.at fun o e => kk _ o D.b2 D.b3 D.b4 D.b5 e, hl2.at fun o e => kk _ o D.b6 D.b7 D.b8 D.b9 e⟩ p₈ n₈ kk
/-- the end of a zip, where the first tuple ends and the pair is free -/
theorem zipT_end {Q : Fin → Shared → Prop} (hh : A.handled = none) (D : ZA z TI TO i1 i2 l1 l2) (S : ZSt s.heap z TI TO i1 i2 l1 l2 xs ys .none k) (hx : xs[k]? = none)
    (hE : ∀ h' e, OffZ z TO i1 i2 s.heap h' → (∃ o, h'.get? e = some o ∧ o.cls = .type "StopIteration") → E (.ref e) { s with heap := h' }) :
    wpAny (model prog w) A (Builtin.«zip.__next__» ⟨[.ref z], []⟩) Q E s := by
  obtain ⟨hz, hTI, ⟨a, b, hTO⟩, h1, h2, hl1, hl2⟩ := S
  show wpAny _ _ (field (.ref z) 2 >>= _) _ _ _
  refine wpAny_bind (wpAny_field hz rfl (x := .bool false) rfl ?_)
  show wpAny _ _ (field (.ref z) 3 >>= _) _ _ _
  refine wpAny_bind (wpAny_field hz rfl (x := .ref TI) rfl ?_)
  refine wpAny_bind (wpAny_seqItems hTI rfl ?_)
  show wpAny _ _ (Builtin.SmallTypes.ownedTupleIsFree (.ref z) >>= _) _ _ _
  refine wpAny_bind ?_
  unfold Builtin.SmallTypes.ownedTupleIsFree
  refine wpAny_bind (wpAny_field hz rfl (x := .none) rfl (wpAny_pure ?_))
  simp only [if_true]
  refine wpAny_bind (wpAny_rule ?_)
  refine wpAny_bind (wpAny_field hz rfl (x := .ref TO) rfl ?_)
  refine wpAny_bind (wpAny_setField_rec hz (by simp) fun g₁ hz₁ s₁ => ?_)
  replace hz₁ : IsZip g₁ z TI TO .ellipsis := hz₁
  refine wpAny_bind ?_
  simp only [List.zipIdx_cons, List.zipIdx_nil, List.forIn_cons, List.forIn_nil]
  refine wpAny_bind (wpAny_bind (wpAny_onRaise ?_))
  show wpAny _ _ (Builtin.SmallTypes.nextOf (.ref i1) >>= _) _ _ _
  refine wpAny_bind (nextOf_tup_end hh (h1.extBut s₁.extBut D.a3) (hl1.extBut s₁.extBut D.b2) hx fun g₂ e s₂ he => ?_)
  obtain ⟨oe, hoe, hce⟩ := he
  have z₂ : IsZip g₂ z TI TO .ellipsis := s₂ _ _ D.a3.symm hz₁
  have ez : e ≠ z := fun x => by subst x; rw [z₂] at hoe; cases hoe; simp at hce
  exact wpAny_setField_rec z₂ (by simp) fun g₃ _ s₃ => hE g₃ e (fun c o c1 _ c3 _ x => s₃.extBut _ _ c1 (s₂ _ _ c3 (s₁.extBut _ _ c1 x))) ⟨oe, s₃.extBut _ _ ez hoe, hce⟩
theorem wpAny_alive {a : Addr} {o : Obj} {Q : Option Obj → Shared → Prop} (ho : s.heap.get? a = some o) (h : Q (some o) s) : wpAny (model prog w) A (loadIfAlive a) Q E s := by
  intro Γ p hΓ
  show Q (s.heap.get? a) s
  rw [ho]
  exact h
/-- the end of a zip, where the first tuple ends and the pair is still held -/
theorem zipT_endHeld {Q : Fin → Shared → Prop} {T : Addr} {oT : Obj} (hh : A.handled = none) (D : ZA z TI TO i1 i2 l1 l2) (S : ZSt s.heap z TI TO i1 i2 l1 l2 xs ys (rawInt T) k) (hT : s.heap.get? T = some oT) (hx : xs[k]? = none)
    (hE : ∀ h' e, OffZ z TO i1 i2 s.heap h' → (∃ o, h'.get? e = some o ∧ o.cls = .type "StopIteration") → E (.ref e) { s with heap := h' }) :
    wpAny (model prog w) A (Builtin.«zip.__next__» ⟨[.ref z], []⟩) Q E s := by
  obtain ⟨hz, hTI, ⟨a, b, hTO⟩, h1, h2, hl1, hl2⟩ := S
  show wpAny _ _ (field (.ref z) 2 >>= _) _ _ _
  refine wpAny_bind (wpAny_field hz rfl (x := .bool false) rfl ?_)
  show wpAny _ _ (field (.ref z) 3 >>= _) _ _ _
  refine wpAny_bind (wpAny_field hz rfl (x := .ref TI) rfl ?_)
  refine wpAny_bind (wpAny_seqItems hTI rfl ?_)
  show wpAny _ _ (Builtin.SmallTypes.ownedTupleIsFree (.ref z) >>= _) _ _ _
  refine wpAny_bind ?_
  unfold Builtin.SmallTypes.ownedTupleIsFree
  refine wpAny_bind (wpAny_field hz rfl (x := rawInt T) rfl ?_)
  simp only [rawInt]
  refine wpAny_bind (wpAny_alive (o := oT) (by simpa using hT) ?_)
  simp only [Option.isNone_some, Bool.false_eq_true, if_false]
  refine wpAny_bind (wpAny_field hz rfl (x := .bool false) rfl ?_)
  rw [if_pos (by decide)]
  refine wpAny_bind (wpAny_setField_rec hz (by simp) fun g₁ hz₁ s₁ => ?_)
  refine wpAny_pure ?_
  simp only [Bool.false_eq_true, if_false]
  refine wpAny_bind ?_
  rw [← Array.forIn_toList]
  simp only [List.forIn_cons, List.forIn_nil]
  refine wpAny_bind (wpAny_bind (wpAny_holding ?_))
  show wpAny _ _ (Builtin.SmallTypes.nextOf (.ref i1) >>= _) _ _ _
  refine wpAny_bind (nextOf_tup_end hh (h1.extBut s₁.extBut D.a3) (hl1.extBut s₁.extBut D.b2) hx fun g₂ e s₂ he => ?_)
  exact hE g₂ e (fun c o c1 _ c3 _ x => s₂ _ _ c3 (s₁.extBut _ _ c1 x)) he
end
end
theorem entry_zip_ga : entryFor table "zip.__getattribute__" = some Builtin.«object.__getattribute__» :=
  entryFor_alias (id' := "object.__getattribute__") (by kernel_rfl) (by first | rfl | decide +kernel) (by decide +kernel) (by kernel_rfl)
theorem lk_zip_keys : typeLookup (.type "zip") "keys" = pure none := by rw [typeLookup_type, builtinLookup_eq_fast]; kernel_rfl
theorem lk_zip_ga : typeLookup (.type "zip") "__getattr__" = pure none := by rw [typeLookup_type, builtinLookup_eq_fast]; kernel_rfl
theorem heap_zip : onTheHeap (.type "zip") = false := by first | rfl | decide +kernel
theorem sub_ae : isSubtype (.type "AttributeError") (.type "AttributeError") = pure true := by rw [isSubtype_type]; kernel_rfl
section
variable {prog : Program} {w : World} {A : Around} {E : Value → Shared → Prop} {h : Heap} {g : Array GenState} {d : Drawn} {t : Nat} {os : OsState} {a : Addr} {o : Obj}
theorem zip_noKeys {Q : Option Value → Shared → Prop} (hh : A.handled = none) {fs : Array Value} (hx : h.get? a = some { cls := .type "zip", dict := none, data := .fields fs, slots := #[] }) (hq : ∀ h' tk, (∀ b o, h.get? b = some o → h'.get? b = some o) → Q none ⟨h', g, d, tk, os⟩) : wpAny (model prog w) A (getAttr? (.ref a) "keys") Q E ⟨h, g, d, t, os⟩ := by
  have hT : (⟨h, g, d, t, os⟩ : Shared).TypeIs (.ref a) "zip" := ⟨_, hx, rfl⟩
  have f2 := F.slot_zip_getattribute.lookup
  have f3 := F.slot_zip_getattribute.bind (.ref a)
  have f4 := lk_zip_keys
  have f5 := lk_zip_ga
  have f6 := sub_ae
  unfold getAttr? getAttrBy?
  repeat (any_goals (first | assumption | wp_step))
  refine codeAny_call_builtin F.slot_zip_getattribute.plain entry_zip_ga (F.slot_zip_getattribute.check _ _ _ _ _ _ _ _ (show (⟨h, g, d, t + 1, os⟩ : Shared).TypeIs (.ref a) "zip" from ⟨_, hx, rfl⟩) (F.args_zip_getattribute_2 _ _) ?_)
  repeat (any_goals (first | assumption | wp_step))
  refine wpAny_raiseAttrError hh (fun h' tk e hx' => ?_) (by rw [sizeLine_eq]; exact Nat.le_of_ble_eq_true (by kernel_rfl))
  obtain ⟨t', u', he⟩ := hx'.there
  show wpAny _ _ (getattributeRaised _ _ _ _ _ _ _) _ _ _
  unfold getattributeRaised
  repeat (any_goals (first | assumption | wp_step))
  exact hq _ _ hx'.keeps
end
section
variable {prog : Program} {w : World} {A : Around} {E : Value → Shared → Prop} {s : Shared}
section
variable {z TI TO i1 i2 l1 l2 : Addr} {xs ys : Array Value} {k : Nat} {x y : Value}
theorem nextZ_item {Q : Option Value → Shared → Prop} (D : ZA z TI TO i1 i2 l1 l2) (S : ZSt s.heap z TI TO i1 i2 l1 l2 xs ys .none k) (hx : xs[k]? = some x) (hy : ys[k]? = some y)
    (hQ : ∀ h', ZSt h' z TI TO i1 i2 l1 l2 xs ys (rawInt s.heap.objs.size) (k + 1) → IsPair h' s.heap.objs.size x y → h'.objs.size = s.heap.objs.size + 1 → OffZ z TO i1 i2 s.heap h' → Q (some (.ref s.heap.objs.size)) { s with heap := h' }) :
    wpAny (model prog w) A (pyNext (.ref z)) Q E s := by
  have hT : s.TypeIs (.ref z) "zip" := ⟨_, S.hz, rfl⟩
  unfold pyNext
  exact wpAny_bind (wpAny_attempt (wpAny_callSpecial?_slot (name := Str.ofString "__next__") hT F.slot_zip_next
    (wpAny_call_entry F.slot_zip_next hT F.entry_zip_next (zipT_item D S hx hy fun h' a1 a2 a3 a4 => wpAny_pure (hQ h' a1 a2 a3 a4)) (F.args_zip_next_1 _))))
theorem nextZ_end {Q : Option Value → Shared → Prop} (hh : A.handled = none) (D : ZA z TI TO i1 i2 l1 l2) (S : ZSt s.heap z TI TO i1 i2 l1 l2 xs ys .none k) (hx : xs[k]? = none)
    (hQ : ∀ h', OffZ z TO i1 i2 s.heap h' → Q none { s with heap := h' }) : wpAny (model prog w) A (pyNext (.ref z)) Q E s := by
  have hT : s.TypeIs (.ref z) "zip" := ⟨_, S.hz, rfl⟩
  unfold pyNext
  refine wpAny_bind (wpAny_attempt (wpAny_callSpecial?_slot (name := Str.ofString "__next__") hT F.slot_zip_next
    (wpAny_call_entry F.slot_zip_next hT F.entry_zip_next (zipT_end hh D S hx fun h' e hk he => ?_) (F.args_zip_next_1 _))))
  obtain ⟨o, ho, hc⟩ := he
  exact wpAny_bind (wpAny_isInstance (T := "StopIteration") (b := true) ⟨o, ho, hc⟩ isSubtype_stop (wpAny_pure (hQ _ hk)))
theorem nextZ_endHeld {Q : Option Value → Shared → Prop} {T : Addr} {oT : Obj} (hh : A.handled = none) (D : ZA z TI TO i1 i2 l1 l2) (S : ZSt s.heap z TI TO i1 i2 l1 l2 xs ys (rawInt T) k) (hT' : s.heap.get? T = some oT) (hx : xs[k]? = none)
    (hQ : ∀ h', OffZ z TO i1 i2 s.heap h' → Q none { s with heap := h' }) : wpAny (model prog w) A (pyNext (.ref z)) Q E s := by
  have hT : s.TypeIs (.ref z) "zip" := ⟨_, S.hz, rfl⟩
  unfold pyNext
  refine wpAny_bind (wpAny_attempt (wpAny_callSpecial?_slot (name := Str.ofString "__next__") hT F.slot_zip_next
    (wpAny_call_entry F.slot_zip_next hT F.entry_zip_next (zipT_endHeld hh D S hT' hx fun h' e hk he => ?_) (F.args_zip_next_1 _))))
  obtain ⟨o, ho, hc⟩ := he
  exact wpAny_bind (wpAny_isInstance (T := "StopIteration") (b := true) ⟨o, ho, hc⟩ isSubtype_stop (wpAny_pure (hQ _ hk)))
theorem ZSt.push {h : Heap} {f0 : Value} (S : ZSt h z TI TO i1 i2 l1 l2 xs ys f0 k) (o : Obj) : ZSt (h.push o) z TI TO i1 i2 l1 l2 xs ys f0 k := by
  obtain ⟨a, b, ⟨u, v, c⟩, d, e, f, g⟩ := S
  exact ⟨Heap.get?_push_of_some _ a, Heap.get?_push_of_some _ b, ⟨u, v, Heap.get?_push_of_some _ c⟩, d.at fun _ e => Heap.get?_push_of_some _ e, e.at fun _ e => Heap.get?_push_of_some _ e, f.push _, g.push _⟩
theorem ZSt.at {h h' : Heap} {f0 : Value} (S : ZSt h z TI TO i1 i2 l1 l2 xs ys f0 k) (up : ∀ c ∈ [z, TI, TO, i1, i2, l1, l2], ∀ o, h.get? c = some o → h'.get? c = some o) : ZSt h' z TI TO i1 i2 l1 l2 xs ys f0 k := by
  obtain ⟨a, b, ⟨u, v, c⟩, d, e, f, g⟩ := S
  exact ⟨up _ (by simp) _ a, up _ (by simp) _ b, ⟨u, v, up _ (by simp) _ c⟩, d.at fun _ q => up _ (by simp) _ q, e.at fun _ q => up _ (by simp) _ q, f.at fun _ q => up _ (by simp) _ q, g.at fun _ q => up _ (by simp) _ q⟩
end
theorem entry_dul : entryFor table "dict.update.loop" = some Builtin.«dict.update.loop» := entryFor_of_tree (by kernel_rfl)
theorem plain_dul : plainId "dict.update.loop" = true := by decide +kernel
/-- `dict(z)` for a zip of two tuples of one item each -/
theorem dict_zip1 {z TI TO i1 i2 l1 l2 : Addr} {kx : Str} {kt : Tok} {y : Value} {Q : Value → Shared → Prop} (hh : A.handled = none) (D : ZA z TI TO i1 i2 l1 l2) (S : ZSt s.heap z TI TO i1 i2 l1 l2 #[.str kx kt] #[y] .none 0)
    (hQ : ∀ h' tk, h'.DictOf (strKind prog w) s.heap.objs.size [(kx, y)] → OffZ z TO i1 i2 s.heap h' → Q (.ref s.heap.objs.size) { s with heap := h', toks := tk }) :
    wpAny (model prog w) A (call (.type "dict") [.ref z]) Q E s := by
  refine callType_codes (Q₁ := fun obj s₁ => obj = .ref s.heap.objs.size ∧ s₁ = { s with heap := s.heap.push { cls := .type "dict", data := .dict #[] } }) F.kt_called_dict (F.kt_typeCall_dict_1 _) F.entry_dict_init (kt_code_dict_new _ ⟨rfl, rfl⟩) ?_
  rintro obj s₁ ⟨rfl, rfl⟩
  have hnew : (s.heap.push { cls := .type "dict", data := .dict #[] }).DictOf (strKind prog w) s.heap.objs.size [] := Heap.DictOf.new s.heap
  have S' := S.push { cls := .type "dict", data := .dict #[] }
  refine ⟨hnew.typeIs, F.args_dict_init_2 _ _, ?_⟩
  unfold Builtin.«dict.__init__»
  refine wpAny_bind ?_
  unfold Builtin.Dict.selfAndRest
  refine wpAny_bind (wpAny_notOrdered_dict hnew.typeIs ?_)
  show wpAny _ _ (pure (s.heap.objs.size, [Value.ref z])) _ _ _
  refine wpAny_pure ?_
  show wpAny _ _ (Builtin.Dict.updateFrom "dict.__init__" s.heap.objs.size (.ref z) [] .none) _ _ _
  unfold Builtin.Dict.updateFrom
  have hTz : ({ s with heap := s.heap.push { cls := .type "dict", data := .dict #[] } } : Shared).TypeIs (.ref z) "zip" := ⟨_, S'.hz, rfl⟩
  refine wpAny_bind (wpAny_typeOf hTz ?_)
  rw [if_pos (by decide)]
  refine wpAny_bind (zip_noKeys (by exact hh) S'.hz fun h1 tk1 up1 => ?_)
  rw [if_pos (by rfl : (Option.none : Option Value).isNone = true)]
  refine wpAny_bind (wpAny_rule ?_)
  have S1 := S'.at fun c _ o e => up1 c o e
  obtain ⟨od, hgd, hod⟩ := Heap.dictOf_iff.mp hnew
  have hd1 : h1.DictOf (strKind prog w) s.heap.objs.size [] := Heap.dictOf_iff.mpr ⟨od, up1 _ _ hgd, hod⟩
  refine wpAny_bind (wpAny_pyIter_zip S1.hz (wpAny_pure ⟨Code.quiet_builtin _ (by decide +kernel), ?_⟩))
  have lz : z < s.heap.objs.size := Heap.lt_size S.hz
  have lO : TO < s.heap.objs.size := by obtain ⟨_, _, e⟩ := S.hTO; exact Heap.lt_size e
  have li1 : i1 < s.heap.objs.size := by obtain ⟨_, e, _⟩ := S.h1; exact Heap.lt_size e
  have li2 : i2 < s.heap.objs.size := by obtain ⟨_, e, _⟩ := S.h2; exact Heap.lt_size e
  refine codeAny_builtin entry_dul ?_
  rw [Around.under_plainId plain_dul]
  show wpAny _ _ (pyNext (.ref z) >>= _) _ _ _
  refine wpAny_bind (nextZ_item D S1 rfl rfl fun h2 S2 p2 n2 o2 => ?_)
  have hd2 : h2.DictOf (strKind prog w) s.heap.objs.size [] := Heap.dictOf_iff.mpr ⟨od, o2 _ _ (Nat.ne_of_gt lz) (Nat.ne_of_gt lO) (Nat.ne_of_gt li1) (Nat.ne_of_gt li2) (up1 _ _ hgd), hod⟩
  refine wpAny_bind (wpAny_holding ?_)
  refine wpAny_bind (wpAny_tryCatch ?_)
  unfold Builtin.Dict.pairItems
  have hTp : ({ s with heap := h2, toks := tk1 } : Shared).TypeIs (.ref h1.objs.size) "tuple" := ⟨_, p2, rfl⟩
  refine wpAny_bind (wpAny_typeOf hTp ?_)
  rw [if_pos (by decide)]
  refine wpAny_bind (wpAny_seqItems p2 rfl (wpAny_pure ?_))
  refine wpAny_holding ?_
  have hk : (PySem.strKind prog w).is kx (.str kx kt) = true := by simp [PySem.strKind, Value.isStrOf]
  refine wpAny_dictSet_pairs (knd := PySem.strKind prog w) (k := kx) hk hd2 fun h3 hd3 sb3 => ?_
  have S3 : ZSt h3 z TI TO i1 i2 l1 l2 #[.str kx kt] #[y] (rawInt h1.objs.size) 1 := S2.at fun c hc o e => sb3.extBut _ _ (by
    have lt : c < s.heap.objs.size := by
      simp only [List.mem_cons, List.not_mem_nil, or_false] at hc
      rcases hc with rfl | rfl | rfl | rfl | rfl | rfl | rfl
      · exact lz
      · exact Heap.lt_size S.hTI
      · exact lO
      · exact li1
      · exact li2
      · obtain ⟨_, e, _⟩ := S.l1; exact Heap.lt_size e
      · obtain ⟨_, e, _⟩ := S.l2; exact Heap.lt_size e
    exact Nat.ne_of_lt lt) e
  have lp : s.heap.objs.size ≠ h1.objs.size := Nat.ne_of_lt (Heap.lt_size (up1 _ _ hgd))
  have p3 : IsPair h3 h1.objs.size (.str kx kt) y := sb3.extBut _ _ lp.symm p2
  refine wpAny_pure ⟨Code.quiet_builtin _ (by decide +kernel), ?_⟩
  refine codeAny_builtin entry_dul ?_
  rw [Around.under_plainId plain_dul]
  show wpAny _ _ (pyNext (.ref z) >>= _) _ _ _
  refine wpAny_bind (nextZ_endHeld (by exact hh) D S3 p3 rfl fun h4 o4 => ?_)
  refine wpAny_bind (wpAny_pure (wpAny_pure ⟨rfl, ?_⟩))
  obtain ⟨oe, hge, hoe⟩ := Heap.dictOf_iff.mp hd3
  refine hQ h4 _ (Heap.dictOf_iff.mpr ⟨oe, o4 _ _ (Nat.ne_of_gt lz) (Nat.ne_of_gt lO) (Nat.ne_of_gt li1) (Nat.ne_of_gt li2) hge, hoe⟩) fun c o c1 c2 c3 c4 e => ?_
  exact o4 _ _ c1 c2 c3 c4 (sb3.extBut _ _ (Nat.ne_of_lt (Heap.lt_size e)) (o2 _ _ c1 c2 c3 c4 (up1 _ _ (Heap.get?_push_of_some _ e))))
abbrev itO (t : Addr) : Obj := { cls := .type "tuple_iterator", data := .fields #[.ref t, .int 0 0] }
abbrev pairO (a b : Value) : Obj := { cls := .type "tuple", data := .seq #[a, b] }
abbrev zipO (TI TO : Addr) : Obj := { cls := .type "zip", data := .fields #[.none, .bool false, .bool false, .ref TI, .ref TO] }
abbrev zp1 (h : Heap) (l1 : Addr) : Heap := h.push (itO l1)
abbrev zp2 (h : Heap) (l1 l2 : Addr) : Heap := (zp1 h l1).push (itO l2)
abbrev zp3 (h : Heap) (l1 l2 : Addr) : Heap := (zp2 h l1 l2).push (pairO (.ref h.objs.size) (.ref (zp1 h l1).objs.size))
abbrev zp4 (h : Heap) (l1 l2 : Addr) : Heap := (zp3 h l1 l2).push (pairO .none .none)
abbrev zp5 (h : Heap) (l1 l2 : Addr) : Heap := (zp4 h l1 l2).push (zipO (zp2 h l1 l2).objs.size (zp3 h l1 l2).objs.size)
theorem meets_zipT_new (l1 l2 : Addr) (xs ys : Array Value) :
    Meets (Builtin.«zip.__new__» ⟨[.type "zip", .ref l1, .ref l2], []⟩) (fun _ R s => s.heap.IsTuple l1 xs ∧ s.heap.IsTuple l2 ys ∧
      R (.ok (.ret (.ref (zp4 s.heap l1 l2).objs.size))) { s with heap := zp5 s.heap l1 l2 }) :=
  .of_wp fun prog w A R s h => by
    obtain ⟨hp, g, d, tk, os⟩ := s
    obtain ⟨hl1, hl2, h⟩ := h
    have hsub := sub_zip
    have hL1 : Heap.IsTuple (Shared.heap ⟨hp, g, d, tk, os⟩) l1 xs := hl1
    have hL2 : Heap.IsTuple (Shared.heap ⟨hp.push (itO l1), g, d, tk, os⟩) l2 ys := Heap.IsTuple.push hl2 _
    wp_walk using wpAny_pyIter_tuple hL1, wpAny_pyIter_tuple hL2
    exact ⟨_, rfl, h⟩
abbrev zipLed (I l1 l2 : Addr) : List (Addr × Obj) := [(I + 4, zipO (I + 2) (I + 3)), (I + 3, pairO .none .none), (I + 2, pairO (.ref I) (.ref (I + 1))), (I + 1, itO l2), (I, itO l1)]
section
variable {h₀ : Heap} {L l1 l2 : Addr} {m : Str → Option Value} {news : List (Addr × Obj)} {xs ys : List Value} {n1 n2 : Nat}
theorem zipT_call {Q : Value → Shared → Prop} (Fh : Fr h₀ L s.heap m) (N : News h₀ L s.heap news) (m1 : (l1, ({ cls := .type "tuple", data := .seq xs.toArray n1 } : Obj)) ∈ news) (m2 : (l2, ({ cls := .type "tuple", data := .seq ys.toArray n2 } : Obj)) ∈ news)
    (h : ∀ I h', Fr h₀ L h' m → News h₀ L h' (zipLed I l1 l2 ++ news) → AllLt I news → L < I → I + 5 = h'.objs.size → (∀ b, I ≤ b → h₀.get? b = none) → Q (.ref (I + 4)) { s with heap := h' }) :
    wpAny (model prog w) A (call (.type "zip") [.ref l1, .ref l2]) Q E s := by
  have hl1 : s.heap.IsTuple l1 xs.toArray := ⟨_, (N _ m1).1, rfl, _, rfl⟩
  have hl2 : s.heap.IsTuple l2 ys.toArray := ⟨_, (N _ m2).1, rfl, _, rfl⟩
  refine callType_new F.called_zip (by decide) (F.typeCall_zip_2 _ _) (F.newCall_zip_2 _ _) (fun obj => F.args_object_init_3 obj _ _) F.entry_zip_new (meets_zipT_new l1 l2 xs.toArray ys.toArray) ⟨hl1, hl2, ?_⟩
  have z1 : (zp1 s.heap l1).objs.size = s.heap.objs.size + 1 := Heap.size_push ..
  have z2 : (zp2 s.heap l1 l2).objs.size = s.heap.objs.size + 2 := by rw [Heap.size_push, z1]
  have z3 : (zp3 s.heap l1 l2).objs.size = s.heap.objs.size + 3 := by rw [Heap.size_push, z2]
  have z4 : (zp4 s.heap l1 l2).objs.size = s.heap.objs.size + 4 := by rw [Heap.size_push, z3]
  have z5 : (zp5 s.heap l1 l2).objs.size = s.heap.objs.size + 5 := by rw [Heap.size_push, z4]
  have N1 := News.push Fh N (itO l1)
  have F1 := Fh.push (itO l1)
  have N2 := News.push F1 N1 (itO l2)
  have F2 := F1.push (itO l2)
  have N3 := News.push F2 N2 (pairO (.ref s.heap.objs.size) (.ref (zp1 s.heap l1).objs.size))
  have F3 := F2.push (pairO (.ref s.heap.objs.size) (.ref (zp1 s.heap l1).objs.size))
  have N4 := News.push F3 N3 (pairO .none .none)
  have F4 := F3.push (pairO .none .none)
  have N5 := News.push F4 N4 (zipO (zp2 s.heap l1 l2).objs.size (zp3 s.heap l1 l2).objs.size)
  have F5 := F4.push (zipO (zp2 s.heap l1 l2).objs.size (zp3 s.heap l1 l2).objs.size)
  have g5 := (N5 _ (.head _)).1
  show _ ∧ _
  refine ⟨⟨_, g5, rfl⟩, ?_⟩
  rw [z4]
  refine h s.heap.objs.size _ F5 ?_ (allLt_of fun p hp => Heap.lt_size (N p hp).1) Fh.ns.lt z5.symm fun b hb => ktu_new Fh hb
  have e : (zipLed s.heap.objs.size l1 l2 ++ news) = ((zp4 s.heap l1 l2).objs.size, zipO (zp2 s.heap l1 l2).objs.size (zp3 s.heap l1 l2).objs.size) :: ((zp3 s.heap l1 l2).objs.size, pairO .none .none) :: ((zp2 s.heap l1 l2).objs.size, pairO (.ref s.heap.objs.size) (.ref (zp1 s.heap l1).objs.size)) :: ((zp1 s.heap l1).objs.size, itO l2) :: (s.heap.objs.size, itO l1) :: news := by
    rw [z1, z2, z3, z4]
    rfl
  rw [e]
  exact N5
theorem za_of {I l1 l2 : Nat} (h1 : l1 < I) (h2 : l2 < I) : ZA (I + 4) (I + 2) (I + 3) I (I + 1) l1 l2 := by
  constructor <;> (refine neN ?_; lia)
theorem allLt_at {d a : Addr} {o : Obj} {l : List (Addr × Obj)} (h : AllLt d l) (k : (a, o) ∈ l) : a < d := by
  induction l with
  | nil => cases k
  | cons x l ih =>
    rcases List.mem_cons.mp k with rfl | k
    · exact h.1
    · exact ih h.2 k
theorem zst_of {I : Addr} (N : News h₀ L s.heap (zipLed I l1 l2 ++ news)) (m1 : (l1, ({ cls := .type "tuple", data := .seq xs.toArray n1 } : Obj)) ∈ news) (m2 : (l2, ({ cls := .type "tuple", data := .seq ys.toArray n2 } : Obj)) ∈ news) :
    ZSt s.heap (I + 4) (I + 2) (I + 3) I (I + 1) l1 l2 xs.toArray ys.toArray .none 0 :=
  ⟨(N _ (.head _)).1, (N _ (.tail _ (.tail _ (.head _)))).1, ⟨_, _, (N _ (.tail _ (.head _))).1⟩, ⟨_, (N _ (.tail _ (.tail _ (.tail _ (.tail _ (.head _)))))).1, rfl, rfl⟩, ⟨_, (N _ (.tail _ (.tail _ (.tail _ (.head _))))).1, rfl, rfl⟩,
    ⟨_, (N _ (List.mem_append_right _ m1)).1, rfl, _, rfl⟩, ⟨_, (N _ (List.mem_append_right _ m2)).1, rfl, _, rfl⟩⟩
theorem dictZip_call {I : Addr} {kx : Str} {kt : Tok} {y : Value} {Q : Value → Shared → Prop} (hh : A.handled = none) (Fh : Fr h₀ L s.heap m) (N : News h₀ L s.heap (zipLed I l1 l2 ++ news)) (m1 : (l1, ({ cls := .type "tuple", data := .seq [.str kx kt].toArray n1 } : Obj)) ∈ news) (m2 : (l2, ({ cls := .type "tuple", data := .seq [y].toArray n2 } : Obj)) ∈ news)
    (lt : AllLt I news) (hL : L < I) (hI : I + 5 = s.heap.objs.size) (h0 : ∀ b, I ≤ b → h₀.get? b = none) (hb : h₀.NoLimit)
    (h : ∀ d o h' tk', Fr h₀ L h' m → News h₀ L h' ((d, o) :: news) → AllLt d news → (d == sysModules) = false → o.IsDictOf (PySem.strKind prog w) [(kx, y)] → Q (.ref d) { s with heap := h', toks := tk' }) :
    wpAny (model prog w) A (call (.type "dict") [.ref (I + 4)]) Q E s := by
  have a1 := allLt_at lt m1
  have a2 := allLt_at lt m2
  refine dict_zip1 hh (za_of a1 a2) (zst_of N m1 m2) fun h' tk' hd off => ?_
  obtain ⟨o, hg, ho⟩ := Heap.dictOf_iff.mp hd
  have ln : ∀ {b : Nat}, b < I → b ≠ I + 4 ∧ b ≠ I + 3 ∧ b ≠ I ∧ b ≠ I + 1 := fun {b} h => ⟨neN (by lia), neN (by lia), neN (by lia), neN (by lia)⟩
  have kp : ∀ {b o'}, b < I → s.heap.get? b = some o' → h'.get? b = some o' := fun {b o'} hb e => off b o' (ln hb).1 (ln hb).2.1 (ln hb).2.2.1 (ln hb).2.2.2 e
  have lh : ∀ b o', h₀.get? b = some o' → b < I := fun b o' e => by
    rcases Nat.lt_or_ge b I with h | h
    · exact h
    · rw [h0 b h] at e; cases e
  have Fh' : Fr h₀ L h' m := ⟨Fh.ns.at' fun o e => kp hL e, fun b o' e => kp (lh b o' e) (Fh.keep b o' e), Fh.above⟩
  refine h s.heap.objs.size o h' tk' Fh' ?_ (allLt_of fun p hp => Heap.lt_size (N p (List.mem_append_right _ hp)).1) (Fh.notModules (modules_low hb)) ho
  intro p hp
  rcases List.mem_cons.mp hp with rfl | hp
  · exact ⟨hg, hI ▸ Nat.ne_of_gt (Nat.lt_of_lt_of_le hL (Nat.le_add_right _ _)), h0 _ (by rw [← hI]; exact Nat.le_add_right _ _)⟩
  · have q := N p (List.mem_append_right _ hp)
    exact ⟨kp (allLt_at (a := p.1) (o := p.2) lt hp) q.1, q.2⟩
/-- the turns of a for over a zip of two tuples of like length -/
theorem zipTurns {elts : List Expr} {ek : Nat} {pos : Pos} {z TI TO i1 i2 l1 l2 : Addr} {xs ys : Array Value} (hh : A.handled = none) (D : ZA z TI TO i1 i2 l1 l2) (hn : xs.size = ys.size) :
    KTurns prog w A (.Tuple elts ek pos) z [z, TI, TO, i1, i2, l1, l2] [z, TO, i1, i2] xs.size (fun i v h => ∃ x y T, v = .ref T ∧ xs[i]? = some x ∧ ys[i]? = some y ∧ IsTup h T #[x, y])
      (fun i v h => ∃ x y T, v = .ref T ∧ xs[i]? = some x ∧ ys[i]? = some y ∧ IsTup h T #[x, y] ∧ T ∉ [z, TO, i1, i2] ∧ ZSt h z TI TO i1 i2 l1 l2 xs ys (rawInt T) (i + 1)) (fun i h => ZSt h z TI TO i1 i2 l1 l2 xs ys .none i) where
  sub := fun c hc => by simp at hc ⊢; rcases hc with rfl | rfl | rfl | rfl <;> simp
  frame := fun i h h' st up => st.at up
  item := fun i s Q E hi st hQ => by
    have hy : i < ys.size := hn ▸ hi
    refine nextZ_item D st (Array.getElem?_eq_getElem hi) (Array.getElem?_eq_getElem hy) fun h' st' p n off => ?_
    refine hQ _ h' s.toks ⟨_, _, _, rfl, Array.getElem?_eq_getElem hi, Array.getElem?_eq_getElem hy, ⟨_, p, rfl, _, rfl⟩, ?_, st'⟩ fun b o hb e => off b o (fun x => hb (by simp [x])) (fun x => hb (by simp [x])) (fun x => hb (by simp [x])) (fun x => hb (by simp [x])) e
    intro hm
    have l : s.heap.objs.size < s.heap.objs.size := by
      simp only [List.mem_cons, List.not_mem_nil, or_false] at hm
      rcases hm with e | e | e | e
      · exact e.symm ▸ Heap.lt_size st.hz
      · obtain ⟨_, _, q⟩ := st.hTO; exact e.symm ▸ Heap.lt_size q
      · obtain ⟨_, q, _⟩ := st.h1; exact e.symm ▸ Heap.lt_size q
      · obtain ⟨_, q, _⟩ := st.h2; exact e.symm ▸ Heap.lt_size q
    exact Nat.lt_irrefl _ l
  go := fun i v s Q E hm hQ => by
    obtain ⟨x, y, T, rfl, hx, hy, hT, hno, st⟩ := hm
    refine wpAny_letOwnedTupleGo_zip st.hz fun h' hz' hs' => ?_
    have up : ∀ c o, c ≠ z → s.heap.get? c = some o → h'.get? c = some o := fun c o hc e => hs'.extBut _ _ hc e
    obtain ⟨_, hTI, ⟨a, b, hTO⟩, h1, h2, hl1, hl2⟩ := st
    have e0 : T ≠ z := fun x => hno (by simp [x])
    have hT' : IsTup h' T #[x, y] := by obtain ⟨o, q, r⟩ := hT; exact ⟨o, up _ _ e0 q, r⟩
    exact hQ h' ⟨x, y, T, rfl, hx, hy, hT'⟩ ⟨hz', up _ _ D.a1 hTI, ⟨a, b, up _ _ D.a2 hTO⟩, h1.at fun o e => up _ o D.a3 e, h2.at fun o e => up _ o D.a4 e, hl1.at fun o e => up _ o D.b2 e, hl2.at fun o e => up _ o D.b6 e⟩ fun b o hb e => up b o (fun x => hb (by simp [x])) e
  done := fun s Q E st hQ => by
    refine nextZ_end hh D st (Array.getElem?_eq_none (Nat.le_refl _)) fun h' off => hQ h' s.toks fun b o hb e => off b o (fun x => hb (by simp [x])) (fun x => hb (by simp [x])) (fun x => hb (by simp [x])) (fun x => hb (by simp [x])) e
section
variable {env : Env} {elts : List Expr} {ek : Nat} {pos : Pos} {body : List Stmt} {Q : Flow → Shared → Prop}
theorem forZip (hh : A.handled = none) (Fh : Fr h₀ env.locals s.heap m) (N : News h₀ env.locals s.heap news) (m1 : (l1, ({ cls := .type "tuple", data := .seq xs.toArray n1 } : Obj)) ∈ news) (m2 : (l2, ({ cls := .type "tuple", data := .seq ys.toArray n2 } : Obj)) ∈ news) (hn : xs.length = ys.length)
    (rest₀ : ∀ I : Addr, AllLt I news → ItemsRest prog w A E h₀ env (.Tuple elts ek pos) body Q s [(I + 4, "zip"), (I + 3, "tuple"), (I + 2, "tuple"), (I + 1, "tuple_iterator"), (I, "tuple_iterator")] [(l1, ({ cls := .type "tuple", data := .seq xs.toArray n1 } : Obj)), (l2, ({ cls := .type "tuple", data := .seq ys.toArray n2 } : Obj))] (zipItems xs ys) m news) :
    wpAny (model prog w) A (call (.type "zip") [.ref l1, .ref l2]) (fun xv s₁ => wpAny (model prog w) A (pyIter xv) (fun it s₂ => TurnsAt prog w A h₀ env (.Tuple elts ek pos) body Q E it s₂) E s₁) E s := by
  refine zipT_call Fh N m1 m2 fun I h' Fh' N' lt hL hI h0 => ?_
  have a1 := allLt_at lt m1
  have a2 := allLt_at lt m2
  have S := zst_of (s := { s with heap := h' }) N' m1 m2
  refine wpAny_pyIter_zip S.hz ?_
  refine ktu_core (tk0 := s.toks) (keep := [(l1, ({ cls := .type "tuple", data := .seq xs.toArray n1 } : Obj)), (l2, ({ cls := .type "tuple", data := .seq ys.toArray n2 } : Obj))]) (zipTurns hh (za_of a1 a2) (by simpa using hn)) (by simp [zipItems_length, hn]) ?_ ?_ ?_ ?_ ?_ ?_ ?_ S Fh' (fun p hp => N' p (List.mem_append_right _ hp)) (And.intro m1 (And.intro m2 trivial)) (rest₀ I lt)
  · rintro i v h ⟨x, y, T, rfl, hx, hy, hT⟩
    exact ⟨_, zipItems_get xs ys i (x := x) (y := y) (by simpa using hx) (by simpa using hy), T, 0, rfl, hT⟩
  · rintro i h ⟨hz, hTI, ⟨a, b, hTO⟩, ⟨o1, ho1, hc1, _⟩, ⟨o2, ho2, hc2, _⟩, _, _⟩
    refine ⟨[(I + 4, zipO (I + 2) (I + 3)), (I + 3, pairO a b), (I + 2, pairO (.ref I) (.ref (I + 1))), (I + 1, o2), (I, o1)], ⟨⟨rfl, rfl⟩, ⟨rfl, rfl⟩, ⟨rfl, rfl⟩, ⟨rfl, hc2⟩, ⟨rfl, hc1⟩, trivial⟩, fun p hp => ?_⟩
    rcases List.mem_cons.mp hp with rfl | hp
    · exact hz
    rcases List.mem_cons.mp hp with rfl | hp
    · exact hTO
    rcases List.mem_cons.mp hp with rfl | hp
    · exact hTI
    rcases List.mem_cons.mp hp with rfl | hp
    · exact ho2
    rw [List.mem_singleton.mp hp]
    exact ho1
  · intro b hb
    have hb' : b = I + 4 ∨ b = I + 3 ∨ b = I + 2 ∨ b = I + 1 ∨ b = I := by simpa using hb
    rcases hb' with rfl | rfl | rfl | rfl | rfl
    · exact ⟨by simp, h0 _ (Nat.le_add_right _ _)⟩
    · exact ⟨by simp, h0 _ (Nat.le_add_right _ _)⟩
    · exact ⟨by simp, h0 _ (Nat.le_add_right _ _)⟩
    · exact ⟨by simp, h0 _ (Nat.le_add_right _ _)⟩
    · exact ⟨by simp, h0 _ (Nat.le_refl _)⟩
  · intro b hb
    have hb' : b = I + 4 ∨ b = I + 3 ∨ b = I ∨ b = I + 1 := by simpa using hb
    rcases hb' with rfl | rfl | rfl | rfl <;> simp
  · intro b hb
    have hb' : b = I + 4 ∨ b = I + 2 ∨ b = I + 3 ∨ b = I ∨ b = I + 1 ∨ b = l1 ∨ b = l2 := by simpa using hb
    rcases hb' with rfl | rfl | rfl | rfl | rfl | rfl | rfl
    · exact .inl (by simp)
    · exact .inl (by simp)
    · exact .inl (by simp)
    · exact .inl (by simp)
    · exact .inl (by simp)
    · exact .inr ⟨_, by simp; exact .inl rfl⟩
    · exact .inr ⟨_, by simp; exact .inr rfl⟩
  · intro hq
    have hb' : env.locals = I + 4 ∨ env.locals = I + 2 ∨ env.locals = I + 3 ∨ env.locals = I ∨ env.locals = I + 1 ∨ env.locals = l1 ∨ env.locals = l2 := by simpa using hq
    rcases hb' with e | e | e | e | e | e | e
    · exact ktu_ne 4 hL e
    · exact ktu_ne 2 hL e
    · exact ktu_ne 3 hL e
    · exact Nat.ne_of_lt hL e
    · exact ktu_ne 1 hL e
    · exact (N _ m1).2.1 e.symm
    · exact (N _ m2).2.1 e.symm
  · intro p hp hq
    have hlp := allLt_at (a := p.1) (o := p.2) lt hp
    have hb' : p.1 = I + 4 ∨ p.1 = I + 3 ∨ p.1 = I ∨ p.1 = I + 1 := by simpa using hq
    rcases hb' with e | e | e | e
    · exact ktu_ne 4 hlp e
    · exact ktu_ne 3 hlp e
    · exact Nat.ne_of_lt hlp e
    · exact ktu_ne 1 hlp e
end
end
end
end Mine
end
section
namespace Mine
/-- a type as plain data -/
def Reg.data : Reg → PyData
  | .none => .none
  | .int i => .int i
  | .str x => .str x
def Ty.data : Ty → PyData
  | .byte => .tuple [.str (Str.ofString "int"), .str (Str.ofString "u8")]
  | .par => .tuple [.str (Str.ofString "param"), .str (Str.ofString "T")]
  | .ref r t => .tuple [.str (Str.ofString "ref"), r.data, .bool false, t.data]
  | .box t => .tuple [.str (Str.ofString "box"), t.data]
  | .arr t => .tuple [.str (Str.ofString "array"), t.data, .int 2]
  | .pair t u => .tuple [.str (Str.ofString "tuple"), .tuple [t.data, u.data]]
  | .g r => .tuple [.str (Str.ofString "adt"), .str (Str.ofString "G"), .tuple [r.data], .tuple []]
  | .ad n r t => .tuple [.str (Str.ofString "adt"), .str n.s, .tuple [r.data], .tuple [t.data]]
/-- every region is a number -/
def Ty.ints : Ty → Prop
  | .byte => True
  | .par => True
  | .ref r t => (∃ i, r = .int i) ∧ t.ints
  | .box t => t.ints
  | .arr t => t.ints
  | .pair t u => t.ints ∧ u.ints
  | .g r => ∃ i, r = .int i
  | .ad _ r t => (∃ i, r = .int i) ∧ t.ints
theorem reg_reads {h : Heap} {v : Value} {r : Reg} (k : RegIs v r) : Reads h v r.data [] := by
  cases k with
  | none => exact .none
  | int i t => exact .int i t
  | str x t => exact .str x t
theorem ty_reads {h : Heap} {news : Led} {v : Value} {t : Ty} (hn : ∀ p ∈ news, h.get? p.1 = some p.2) (k : TyIn news v t) : Reads h v t.data [] := by
  induction k with
  | byte m => exact .tuple (hn _ m) rfl rfl (.cons (as := []) (.str _ _) (.cons (as := []) (.str _ _) .nil))
  | par m => exact .tuple (hn _ m) rfl rfl (.cons (as := []) (.str _ _) (.cons (as := []) (.str _ _) .nil))
  | ref m r _ ih => exact .tuple (hn _ m) rfl rfl (.cons (as := []) (.str _ _) (.cons (as := []) (reg_reads r) (.cons (as := []) (.bool _) (.cons (as := []) ih .nil))))
  | box m _ ih => exact .tuple (hn _ m) rfl rfl (.cons (as := []) (.str _ _) (.cons (as := []) ih .nil))
  | arr m _ ih => exact .tuple (hn _ m) rfl rfl (.cons (as := []) (.str _ _) (.cons (as := []) ih (.cons (as := []) (.int _ _) .nil)))
  | pair m m' _ _ ih ih' => exact .tuple (hn _ m) rfl rfl (.cons (as := []) (.str _ _) (.cons (as := []) (.tuple (hn _ m') rfl rfl (.cons (as := []) ih (.cons (as := []) ih' .nil))) .nil))
  | g m m' m'' r => exact .tuple (hn _ m) rfl rfl (.cons (as := []) (.str _ _) (.cons (as := []) (.str _ _) (.cons (as := []) (.tuple (hn _ m') rfl rfl (.cons (as := []) (reg_reads r) .nil)) (.cons (as := []) (.tuple (hn _ m'') rfl rfl .nil) .nil))))
  | ad m m' m'' r _ ih => exact .tuple (hn _ m) rfl rfl (.cons (as := []) (.str _ _) (.cons (as := []) (.str _ _) (.cons (as := []) (.tuple (hn _ m') rfl rfl (.cons (as := []) (reg_reads r) .nil)) (.cons (as := []) (.tuple (hn _ m'') rfl rfl (.cons (as := []) ih .nil)) .nil))))
theorem okS : PyData.strOk (Str.ofString "int") = true ∧ PyData.strOk (Str.ofString "u8") = true ∧ PyData.strOk (Str.ofString "param") = true ∧ PyData.strOk (Str.ofString "T") = true ∧ PyData.strOk (Str.ofString "ref") = true ∧ PyData.strOk (Str.ofString "box") = true ∧ PyData.strOk (Str.ofString "array") = true ∧ PyData.strOk (Str.ofString "tuple") = true ∧ PyData.strOk (Str.ofString "adt") = true ∧ PyData.strOk (Str.ofString "G") = true ∧ PyData.strOk (Str.ofString "W") = true ∧ PyData.strOk (Str.ofString "N") = true ∧ PyData.strOk (Str.ofString "E") = true := by decide +kernel
theorem ty_lay {t : Ty} (h : t.ints) : t.data.canLay0 = true := by
  obtain ⟨o1, o2, o3, o4, o5, o6, o7, o8, o9, o10, o11, o12, o13⟩ := okS
  induction t with
  | byte => simp only [Ty.data, PyData.canLay0, PyData.canLayAll0, Bool.and_true, *]
  | par => simp only [Ty.data, PyData.canLay0, PyData.canLayAll0, Bool.and_true, *]
  | ref r t ih =>
    obtain ⟨⟨i, rfl⟩, h⟩ := h
    simp only [Ty.data, Reg.data, PyData.canLay0, PyData.canLayAll0, ih h, Bool.and_true, *]
  | box t ih => simp only [Ty.data, PyData.canLay0, PyData.canLayAll0, ih h, Bool.and_true, *]
  | arr t ih => simp only [Ty.data, PyData.canLay0, PyData.canLayAll0, ih h, Bool.and_true, *]
  | pair t u ih ih' => simp only [Ty.data, PyData.canLay0, PyData.canLayAll0, ih h.1, ih' h.2, Bool.and_true, *]
  | g r => obtain ⟨i, rfl⟩ := h; simp only [Ty.data, Reg.data, PyData.canLay0, PyData.canLayAll0, Bool.and_true, *]
  | ad n r t ih =>
    obtain ⟨⟨i, rfl⟩, h⟩ := h
    cases n <;> simp only [Nm.s, Ty.data, Reg.data, PyData.canLay0, PyData.canLayAll0, ih h, Bool.and_true, *]
theorem ty_depth (t : Ty) : t.data.depth ≤ 2 * t.deep := by
  induction t with
  | byte => decide
  | par => decide
  | ref r t ih => cases r <;> (simp only [Ty.data, Reg.data, PyData.depth, PyData.depthAll, Ty.deep]; lia)
  | box t ih => simp only [Ty.data, PyData.depth, PyData.depthAll, Ty.deep]; lia
  | arr t ih => simp only [Ty.data, PyData.depth, PyData.depthAll, Ty.deep]; lia
  | pair t u ih ih' => simp only [Ty.data, PyData.depth, PyData.depthAll, Ty.deep]; lia
  | g r => cases r <;> (simp only [Ty.data, Reg.data, PyData.depth, PyData.depthAll, Ty.deep]; lia)
  | ad n r t ih => cases r <;> (simp only [Ty.data, Reg.data, PyData.depth, PyData.depthAll, Ty.deep]; lia)
/-- the test for equality, as the program makes it -/
abbrev Ty.like (t u : Ty) : Bool := PyData.eqv t.data u.data
def has (ms : List Ty) (t : Ty) : Bool := ms.any fun u => u.like t
theorem regI {i j : Int} : PyData.eqv (Reg.data (.int i)) (Reg.data (.int j)) = decide (i = j) := by
  simp only [Reg.data, PyData.eqv]
  rfl
theorem neS : ("int" : String) ≠ "param" := by decide
/-- a number for the head -/
def Ty.head : Ty → Str
  | .byte => Str.ofString "int"
  | .par => Str.ofString "param"
  | .ref _ _ => Str.ofString "ref"
  | .box _ => Str.ofString "box"
  | .arr _ => Str.ofString "array"
  | .pair _ _ => Str.ofString "tuple"
  | .g _ => Str.ofString "adt"
  | .ad _ _ _ => Str.ofString "adt"
theorem like_head {t u : Ty} (h : t.like u = true) : t.head = u.head := by
  cases t <;> cases u <;> first | rfl | (simp only [Ty.like, Ty.data, PyData.eqv, PyData.eqvAll, Bool.and_eq_true, beq_iff_eq] at h; exact h.1)
theorem heads : (Str.ofString "int" ≠ Str.ofString "param" ∧ Str.ofString "int" ≠ Str.ofString "ref" ∧ Str.ofString "int" ≠ Str.ofString "box" ∧ Str.ofString "int" ≠ Str.ofString "array" ∧ Str.ofString "int" ≠ Str.ofString "tuple" ∧ Str.ofString "int" ≠ Str.ofString "adt" ∧ Str.ofString "param" ≠ Str.ofString "ref" ∧ Str.ofString "param" ≠ Str.ofString "box" ∧ Str.ofString "param" ≠ Str.ofString "array" ∧ Str.ofString "param" ≠ Str.ofString "tuple" ∧ Str.ofString "param" ≠ Str.ofString "adt" ∧ Str.ofString "ref" ≠ Str.ofString "box" ∧ Str.ofString "ref" ≠ Str.ofString "array" ∧ Str.ofString "ref" ≠ Str.ofString "tuple" ∧ Str.ofString "ref" ≠ Str.ofString "adt" ∧ Str.ofString "box" ≠ Str.ofString "array" ∧ Str.ofString "box" ≠ Str.ofString "tuple" ∧ Str.ofString "box" ≠ Str.ofString "adt" ∧ Str.ofString "array" ≠ Str.ofString "tuple" ∧ Str.ofString "array" ≠ Str.ofString "adt" ∧ Str.ofString "tuple" ≠ Str.ofString "adt") ∧
    Str.ofString "G" ≠ Str.ofString "W" ∧ Str.ofString "G" ≠ Str.ofString "N" ∧ Str.ofString "G" ≠ Str.ofString "E" ∧ Str.ofString "W" ≠ Str.ofString "N" ∧ Str.ofString "W" ≠ Str.ofString "E" ∧ Str.ofString "N" ≠ Str.ofString "E" := by decide +kernel
theorem like_refl {t : Ty} (h : t.ints) : t.like t = true := SeqAt.eqv_refl _ (ty_lay h)
theorem like_eq : ∀ {t u : Ty}, t.ints → u.ints → t.like u = true → t = u := by
  intro t
  have hs := heads.1
  have hn := heads.2
  induction t with
  | byte =>
    intro u _ _ h
    have k := like_head h
    cases u <;> simp_all [Ty.head]
  | par =>
    intro u _ _ h
    have k := like_head h
    cases u <;> simp_all [Ty.head]
  | ref r t ih =>
    intro u h1 h2 h
    have k := like_head h
    cases u with
    | ref r' t' =>
      obtain ⟨⟨i, rfl⟩, h1⟩ := h1
      obtain ⟨⟨j, rfl⟩, h2⟩ := h2
      simp only [Ty.like, Ty.data, Reg.data, PyData.eqv, PyData.eqvAll, Bool.and_eq_true, beq_iff_eq] at h
      rw [h.2.1, ih h1 h2 h.2.2.2.1]
    | _ => simp_all [Ty.head]
  | box t ih =>
    intro u h1 h2 h
    have k := like_head h
    cases u with
    | box t' =>
      simp only [Ty.like, Ty.data, PyData.eqv, PyData.eqvAll, Bool.and_eq_true, beq_iff_eq] at h
      rw [ih (u := t') h1 h2 h.2.1]
    | _ => simp_all [Ty.head]
  | arr t ih =>
    intro u h1 h2 h
    have k := like_head h
    cases u with
    | arr t' =>
      simp only [Ty.like, Ty.data, PyData.eqv, PyData.eqvAll, Bool.and_eq_true, beq_iff_eq] at h
      rw [ih (u := t') h1 h2 h.2.1]
    | _ => simp_all [Ty.head]
  | pair t t2 ih ih2 =>
    intro u h1 h2 h
    have k := like_head h
    cases u with
    | pair t' u' =>
      simp only [Ty.like, Ty.data, Reg.data, PyData.eqv, PyData.eqvAll, Bool.and_eq_true, beq_iff_eq] at h
      rw [ih h1.1 h2.1 h.2.1.1, ih2 h1.2 h2.2 h.2.1.2.1]
    | _ => simp_all [Ty.head]
  | g r =>
    intro u h1 h2 h
    have k := like_head h
    cases u with
    | g r' =>
      obtain ⟨i, rfl⟩ := h1
      obtain ⟨j, rfl⟩ := h2
      simp only [Ty.like, Ty.data, Reg.data, PyData.eqv, PyData.eqvAll, Bool.and_eq_true, beq_iff_eq] at h
      rw [h.2.2.1.1]
    | ad n r' t' =>
      simp only [Ty.like, Ty.data, PyData.eqv, PyData.eqvAll, Bool.and_eq_true, beq_iff_eq] at h
      exact absurd h.2.2.2.1 Bool.false_ne_true
    | _ => simp_all [Ty.head]
  | ad n r t ih =>
    intro u h1 h2 h
    have k := like_head h
    cases u with
    | ad n' r' t' =>
      obtain ⟨⟨i, rfl⟩, h1⟩ := h1
      obtain ⟨⟨j, rfl⟩, h2⟩ := h2
      simp only [Ty.like, Ty.data, Reg.data, PyData.eqv, PyData.eqvAll, Bool.and_eq_true, beq_iff_eq] at h
      obtain ⟨_, h3, ⟨h4, _⟩, ⟨h5, _⟩, _⟩ := h
      have : n = n' := by cases n <;> cases n' <;> simp_all [Nm.s]
      rw [this, h4, ih h1 h2 h5]
    | g r' =>
      simp only [Ty.like, Ty.data, PyData.eqv, PyData.eqvAll, Bool.and_eq_true, beq_iff_eq] at h
      exact absurd h.2.2.2.1 Bool.false_ne_true
    | _ => simp_all [Ty.head]
theorem has_iff {ms : List Ty} {t : Ty} (ht : t.ints) (hm : ∀ u ∈ ms, u.ints) : has ms t = true ↔ t ∈ ms := by
  unfold has
  rw [List.any_eq_true]
  constructor
  · rintro ⟨u, h1, h2⟩
    rw [like_eq (hm u h1) ht h2] at h1
    exact h1
  · intro h
    exact ⟨t, h, like_refl ht⟩
/-- a list of types -/
inductive TysIn (l : Led) : List Value → List Ty → Prop
  | nil : TysIn l [] []
  | cons {v : Value} {vs : List Value} {t : Ty} {ts : List Ty} : TyIn l v t → TysIn l vs ts → TysIn l (v :: vs) (t :: ts)
theorem TysIn.mono {l l' : Led} {vs : List Value} {ts : List Ty} (h : TysIn l vs ts) (s : ∀ p ∈ l, p ∈ l') : TysIn l' vs ts := by
  induction h with
  | nil => exact .nil
  | cons h _ ih => exact .cons (h.mono s) ih
theorem TysIn.add {l : Led} {vs : List Value} {ts : List Ty} {v : Value} {t : Ty} (h : TysIn l vs ts) (k : TyIn l v t) : TysIn l (vs ++ [v]) (ts ++ [t]) := by
  induction h with
  | nil => exact .cons k .nil
  | cons h _ ih => exact .cons h ih
theorem TysIn.length {l : Led} {vs : List Value} {ts : List Ty} (h : TysIn l vs ts) : vs.length = ts.length := by
  induction h with
  | nil => rfl
  | cons h _ ih => simp [ih]
theorem tys_reads {h : Heap} {news : Led} {vs : List Value} {ts : List Ty} (hn : ∀ p ∈ news, h.get? p.1 = some p.2) (k : TysIn news vs ts) : ReadsAll h vs (ts.map Ty.data) [] := by
  induction k with
  | nil => exact .nil
  | cons k _ ih => exact .cons (as := []) (ty_reads hn k) ih
theorem tys_lay {ts : List Ty} (h : ∀ u ∈ ts, u.ints) : PyData.canLayAll0 (ts.map Ty.data) = true := by
  induction ts with
  | nil => rfl
  | cons t ts ih => rw [List.map_cons, PyData.canLayAll0, ty_lay (h _ (.head _)), ih fun u hu => h u (.tail _ hu)]; rfl
section
variable {prog : Program} {w : World} {A : Around} {E : Value → Shared → Prop} {s : Shared} {h₀ : Heap} {L : Addr} {m : Str → Option Value}
theorem notIn_met {news : Led} {Q : Value → Shared → Prop} {v : Value} {t : Ty} {ms : List Value} {mts : List Ty} {D : Addr} {n : Nat} (N : News h₀ L s.heap news) (md : (D, listOf ms.toArray n) ∈ news) (R : TyIn news v t) (M : TysIn news ms mts)
    (hi : t.ints) (hm : ∀ u ∈ mts, u.ints) (hu : A.units + 1 + 2 * t.deep < cLine) (h : Q (.bool (!has mts t)) s) : wpAny (model prog w) A (compareOp .NotIn v (.ref D)) Q E s := by
  have hn : ∀ p ∈ news, s.heap.get? p.1 = some p.2 := fun p hp => (N p hp).1
  refine SeqAt.notIn_list_reads (xs := mts.map Ty.data) (d := t.data) (.list (as := []) (hn _ md) rfl rfl (by simpa using tys_reads hn M)) (ty_reads hn R) (tys_lay hm) (ty_lay hi) ?_ ?_
  · have := ty_depth t
    have := Nat.min_le_right (PyData.depthAll (mts.map Ty.data)) t.data.depth
    lia
  · rw [List.any_map]
    exact h
end
end Mine
end
section
namespace Mine
/-- what dropped_within finds, and whom it has met -/
def dw : Nat → Ty → List Ty → List Reg × List Ty
  | 0, t, met => (t.regs, met)
  | _ + 1, .byte, met => ([], met)
  | _ + 1, .par, met => ([], met)
  | _ + 1, .ref _ _, met => ([], met)
  | k + 1, .box t, met => dw k t met
  | k + 1, .arr t, met => dw k t met
  | k + 1, .pair t u, met => ((dw k t met).1 ++ (dw k u (dw k t met).2).1, (dw k u (dw k t met).2).2)
  | _ + 1, .g r, met => if has met (.g r) then ([], met) else ([r], met ++ [.g r])
  | k + 1, .ad n r t, met => if has met (.ad n r t) then ([], met) else
    match n with
    | .W => (r :: t.regs, met ++ [.ad .W r t])
    | .N => ((dw k t (met ++ [.ad .N r t])).1 ++ (dw k (.g r) (dw k t (met ++ [.ad .N r t])).2).1, (dw k (.g r) (dw k t (met ++ [.ad .N r t])).2).2)
    | .E => ((dw k t (met ++ [.ad .E r t])).1 ++ (dw k (.g r) (dw k t (met ++ [.ad .E r t])).2).1, (dw k (.g r) (dw k t (met ++ [.ad .E r t])).2).2)
theorem regs_size (t : Ty) : t.regs.length ≤ t.size := by
  induction t with
  | byte => exact Nat.zero_le _
  | par => exact Nat.zero_le _
  | ref r t ih => simp only [Ty.regs, Ty.size, List.length_cons]; lia
  | box t ih => simp only [Ty.regs, Ty.size]; lia
  | arr t ih => simp only [Ty.regs, Ty.size]; lia
  | pair t u ih ih' => simp only [Ty.regs, Ty.size, List.length_append]; lia
  | g r => exact Nat.le_refl _
  | ad n r t ih => simp only [Ty.regs, Ty.size, List.length_cons]; lia
theorem dw_size : ∀ (k : Nat) (t : Ty) (met : List Ty), (dw k t met).1.length ≤ 2 * t.size ∧ (dw k t met).2.length ≤ met.length + 2 * t.size := by
  intro k
  induction k with
  | zero => intro t met; exact ⟨Nat.le_trans (regs_size t) (by lia), Nat.le_add_right _ _⟩
  | succ k ih =>
    intro t met
    cases t with
    | byte => exact ⟨Nat.zero_le _, Nat.le_add_right _ _⟩
    | par => exact ⟨Nat.zero_le _, Nat.le_add_right _ _⟩
    | ref r t => exact ⟨Nat.zero_le _, Nat.le_add_right _ _⟩
    | box t => have := ih t met; simp only [dw, Ty.size]; lia
    | arr t => have := ih t met; simp only [dw, Ty.size]; lia
    | pair t u =>
      have h1 := ih t met
      have h2 := ih u (dw k t met).2
      simp only [dw, Ty.size, List.length_append]; lia
    | g r =>
      simp only [dw]
      split
      · exact ⟨Nat.zero_le _, Nat.le_add_right _ _⟩
      · simp only [Ty.size, List.length_append, List.length_cons, List.length_nil]; lia
    | ad n r t =>
      have h0 := regs_size t
      simp only [dw]
      split
      · exact ⟨Nat.zero_le _, Nat.le_add_right _ _⟩
      · cases n with
        | W => simp only [Ty.size, List.length_append, List.length_cons, List.length_nil]; lia
        | N =>
          have h1 := ih t (met ++ [.ad .N r t])
          have h2 : (dw k (.g r) (dw k t (met ++ [.ad .N r t])).2).1.length ≤ 1 ∧ (dw k (.g r) (dw k t (met ++ [.ad .N r t])).2).2.length ≤ (dw k t (met ++ [.ad .N r t])).2.length + 1 := by
            cases k with
            | zero => exact ⟨Nat.le_refl _, Nat.le_add_right _ _⟩
            | succ k =>
              simp only [dw]
              split
              · exact ⟨Nat.zero_le _, Nat.le_add_right _ _⟩
              · simp only [List.length_append, List.length_cons, List.length_nil]; lia
          simp only [Ty.size, List.length_append, List.length_cons, List.length_nil] at h1 h2 ⊢; lia
        | E =>
          have h1 := ih t (met ++ [.ad .E r t])
          have h2 : (dw k (.g r) (dw k t (met ++ [.ad .E r t])).2).1.length ≤ 1 ∧ (dw k (.g r) (dw k t (met ++ [.ad .E r t])).2).2.length ≤ (dw k t (met ++ [.ad .E r t])).2.length + 1 := by
            cases k with
            | zero => exact ⟨Nat.le_refl _, Nat.le_add_right _ _⟩
            | succ k =>
              simp only [dw]
              split
              · exact ⟨Nat.zero_le _, Nat.le_add_right _ _⟩
              · simp only [List.length_append, List.length_cons, List.length_nil]; lia
          simp only [Ty.size, List.length_append, List.length_cons, List.length_nil] at h1 h2 ⊢; lia
theorem ints_add {met : List Ty} {t : Ty} (h : ∀ u ∈ met, u.ints) (k : t.ints) : ∀ u ∈ met ++ [t], u.ints := fun u hu => by
  rcases List.mem_append.mp hu with hu | hu
  · exact h u hu
  · rw [List.mem_singleton.mp hu]; exact k
theorem dw_ints : ∀ (k : Nat) (t : Ty) (met : List Ty), t.ints → (∀ u ∈ met, u.ints) → ∀ u ∈ (dw k t met).2, u.ints := by
  intro k
  induction k with
  | zero => intro t met _ h; exact h
  | succ k ih =>
    intro t met ht h
    cases t with
    | byte => exact h
    | par => exact h
    | ref r t => exact h
    | box t => exact ih t met ht h
    | arr t => exact ih t met ht h
    | pair t u => exact ih u _ ht.2 (ih t met ht.1 h)
    | g r =>
      simp only [dw]
      split
      · exact h
      · exact ints_add h ht
    | ad n r t =>
      simp only [dw]
      split
      · exact h
      · cases n with
        | W => exact ints_add h ht
        | N => exact ih (.g r) _ ht.1 (ih t _ ht.2 (ints_add h ht))
        | E => exact ih (.g r) _ ht.1 (ih t _ ht.2 (ints_add h ht))
theorem deep_pos (t : Ty) : 1 ≤ t.deep := by cases t <;> simp only [Ty.deep] <;> lia
theorem size_pos (t : Ty) : 1 ≤ t.size := by cases t <;> simp only [Ty.size] <;> lia
theorem dw_byte (k : Nat) (met : List Ty) : dw k .byte met = ([], met) := by cases k <;> rfl
theorem Grown.byte {xs ys zs : List Value} {rs : List Reg} {k : Nat} {met : List Ty} (h : Grown xs ys rs) (b : Grown ys zs (dw k .byte met).1) : Grown xs zs rs := by
  rw [dw_byte] at b
  have := h.trans b
  rwa [List.append_nil] at this
theorem TysIn.byte {l : Led} {ms : List Value} {k : Nat} {met : List Ty} (h : TysIn l ms (dw k .byte met).2) : TysIn l ms met := by rwa [dw_byte] at h
/-- what lies in a type, as _law_held tells it -/
def held : Ty → List Ty
  | .box t => [t]
  | .arr t => [t]
  | .pair t u => [t, u]
  | .ad .N r t => [t, .g r]
  | .ad .E r t => [t, .g r]
  | _ => []
end Mine
end
section
namespace Mine
section
variable {prog : Program} {w : World} {A : Around} {E : Value → Shared → Prop} {R : Result → Shared → Prop} {s : Shared}
abbrev twoFor (elt iter iter2 : Expr) (x y : Str) (px py : Pos) (scope : Scope) (pos : Pos) : Expr := .ListComp elt [⟨.Name x px, iter, [], 0⟩, ⟨.Name y py, iter2, [], 0⟩] scope pos
theorem compTurn_a (elt iter iter2 : Expr) (x y : Str) (px py : Pos) (scope : Scope) (pos : Pos) (it acc : Value) (env : Env) :
    compTurn (twoFor elt iter iter2 x y px py scope pos) 0 it acc env = (standAt iter.pos >>= fun _ => pyNext it >>= fun r => match r with
      | none => pure (.done .next)
      | some v => letOwnedTupleGo (.Name x px) it v >>= fun _ => assign (.Name x px) env v >>= fun _ =>
        eval iter2 env >>= fun z => standAt iter2.pos >>= fun _ => foldedSetIterable iter2 env z >>= fun z => holding [z] (pyIter z) >>= fun it' => runOwn (.compStart (twoFor elt iter iter2 x y px py scope pos) 1 it' acc env) env >>= fun _ =>
          again (.compLoop (twoFor elt iter iter2 x y px py scope pos) 0 it acc env)) := by rfl
theorem compTurn_b (elt iter iter2 : Expr) (x y : Str) (px py : Pos) (scope : Scope) (pos : Pos) (it acc : Value) (env : Env) :
    compTurn (twoFor elt iter iter2 x y px py scope pos) 1 it acc env = (standAt iter2.pos >>= fun _ => pyNext it >>= fun r => match r with
      | none => pure (.done .next)
      | some v => letOwnedTupleGo (.Name y py) it v >>= fun _ => assign (.Name y py) env v >>= fun _ =>
        (eval elt env >>= fun z => call (.builtin "list.append") [acc, z] >>= fun _ => pure ()) >>= fun _ =>
          again (.compLoop (twoFor elt iter iter2 x y px py scope pos) 1 it acc env)) := by rfl
theorem loop_b {elt iter iter2 : Expr} {x y : Str} {px py : Pos} {scope : Scope} {pos : Pos} {it acc : Value} {env : Env} (I : Nat → Shared → Prop)
    (turn : ∀ n s, I n s → wpAny (model prog w) A (pyNext it) (fun r s₁ => match r with
      | none => R (.ok .next) s₁
      | some v => wpAny (model prog w) A (assign (.Name y py) env v) (fun _ s₂ => wpAny (model prog w) A (eval elt env) (fun z s₃ =>
          wpAny (model prog w) A (call (.builtin "list.append") [acc, z]) (fun _ s₄ => ∃ m, m < n ∧ I m s₄) (notedBy (model prog w) A env fun e s' => R (.error e) s') s₃)
          (notedBy (model prog w) A env fun e s' => R (.error e) s') s₂) (notedBy (model prog w) A env fun e s' => R (.error e) s') s₁) (notedBy (model prog w) A env fun e s' => R (.error e) s') s)
    (n : Nat) (h : I n s) (ht : ∀ v, letOwnedTupleGo (.Name y py) it v = pure () := by intro _; rfl) :
    codeAny (model prog w) A (.compLoop (twoFor elt iter iter2 x y px py scope pos) 1 it acc env) R s := by
  refine codeAny_loop rfl I (fun n s hI => ?_) n h
  show wpAny _ _ ((compTurn (twoFor elt iter iter2 x y px py scope pos) 1 it acc env).onRaise (fun x => do noteFrame x env; theTreesLotGoes x)) _ _ s
  refine wpAny_noted ?_
  rw [compTurn_b]
  refine wpAny_bind (wpAny_standAt (wpAny_bind (wpAny_mono (turn n s hI) (fun r s₁ h₁ => ?_) fun _ _ h' => h')))
  cases r with
  | none => exact wpAny_pure h₁
  | some v =>
    refine wpAny_bind (wpAny_of_eq (ht v) ?_)
    refine wpAny_bind (wpAny_mono h₁ (fun _ s₂ h₂ => ?_) fun _ _ h' => h')
    exact wpAny_bind (wpAny_bind (wpAny_mono h₂ (fun z s₄ h₄ => wpAny_bind (wpAny_mono h₄ (fun _ s₅ h₅ => wpAny_pure (wpAny_pure ⟨rfl, h₅⟩)) fun _ _ h' => h')) fun _ _ h' => h'))
theorem start_b {elt iter iter2 : Expr} {x y : Str} {px py : Pos} {scope : Scope} {pos : Pos} {it acc : Value} {env : Env}
    (h0 : codeAny (model prog w) A (.compLoop (twoFor elt iter iter2 x y px py scope pos) 1 it acc env) R s)
    (h : wpAny (model prog w) A (pyIter it) (fun it' s' => codeAny (model prog w) A (.compLoop (twoFor elt iter iter2 x y px py scope pos) 1 it' acc env) R s')
      (notedBy (model prog w) A env fun x s' => R (.error x) s') s) :
    codeAny (model prog w) A (.compStart (twoFor elt iter iter2 x y px py scope pos) 1 it acc env) R s := by
  refine codeAny_of_tree ?_
  show wpAny _ _ ((compStart (twoFor elt iter iter2 x y px py scope pos) 1 it acc env).onRaise (fun x => do noteFrame x env; standAt theWindowsPlace)) _ _ s
  refine wpAny_notedAt ?_
  unfold compStart
  show wpAny _ _ (ask >>= _) _ _ s
  refine wpAny_bind (wpAny_askSetting (wpAny_ite ?_))
  split
  · first
      | exact wpAny_bind (wpAny_pure (wpAny_pure (And.intro rfl h0)))
      | exact wpAny_pure (And.intro rfl h0)
  · first
      | exact wpAny_bind (wpAny_rule (wpAny_bind (wpAny_standAt (wpAny_bind (wpAny_mono h (fun it' s' h' => wpAny_pure (And.intro rfl h')) fun _ _ x => x)))))
      | (refine wpAny_bind (wpAny_rule ?_); show wpAny _ _ (standAt iter2.pos >>= _) _ _ s; exact wpAny_bind (wpAny_standAt (wpAny_bind (wpAny_mono h (fun it' s' h' => wpAny_pure (And.intro rfl h')) fun _ _ x => x))))
theorem loop_a {elt iter iter2 : Expr} {x y : Str} {px py : Pos} {scope : Scope} {pos : Pos} {it acc : Value} {env : Env} (I : Nat → Shared → Prop)
    (hs : ∀ z, foldedSetIterable iter2 env z = pure z)
    (turn : ∀ n s, I n s → wpAny (model prog w) A (pyNext it) (fun r s₁ => match r with
      | none => R (.ok .next) s₁
      | some v => wpAny (model prog w) A (assign (.Name x px) env v) (fun _ s₂ => wpAny (model prog w) A (eval iter2 env) (fun z s₃ =>
          wpAny (model prog w) A (pyIter z) (fun it' s₄ => codeAny (model prog w) (A.mark none) (.compStart (twoFor elt iter iter2 x y px py scope pos) 1 it' acc env)
            (fun r s₅ => match r with | .ok _ => ∃ m, m < n ∧ I m s₅ | .error e => cameBackBy (model prog w) A env (notedBy (model prog w) A env fun e s' => R (.error e) s') e s₅) s₄) (notedBy (model prog w) A env fun e s' => R (.error e) s') s₃)
          (notedBy (model prog w) A env fun e s' => R (.error e) s') s₂) (notedBy (model prog w) A env fun e s' => R (.error e) s') s₁) (notedBy (model prog w) A env fun e s' => R (.error e) s') s)
    (n : Nat) (h : I n s) (ht : ∀ v, letOwnedTupleGo (.Name x px) it v = pure () := by intro _; rfl) :
    codeAny (model prog w) A (.compLoop (twoFor elt iter iter2 x y px py scope pos) 0 it acc env) R s := by
  refine codeAny_loop rfl I (fun n s hI => ?_) n h
  show wpAny _ _ ((compTurn (twoFor elt iter iter2 x y px py scope pos) 0 it acc env).onRaise (fun x => do noteFrame x env; theTreesLotGoes x)) _ _ s
  refine wpAny_noted ?_
  rw [compTurn_a]
  refine wpAny_bind (wpAny_standAt (wpAny_bind (wpAny_mono (turn n s hI) (fun r s₁ h₁ => ?_) fun _ _ h' => h')))
  cases r with
  | none => exact wpAny_pure h₁
  | some v =>
    refine wpAny_bind (wpAny_of_eq (ht v) ?_)
    refine wpAny_bind (wpAny_mono h₁ (fun _ s₂ h₂ => ?_) fun _ _ h' => h')
    refine wpAny_bind (wpAny_mono h₂ (fun z s₃ h₃ => ?_) fun _ _ h' => h')
    refine wpAny_bind (wpAny_standAt (wpAny_bind (wpAny_of_eq (hs z) (wpAny_bind (wpAny_holding (wpAny_mono h₃ (fun it' s₄ h₄ => ?_) fun _ _ h' => h'))))))
    refine wpAny_bind (wpAny_runOwn (codeAny_mono h₄ fun r s₅ h₅ => ?_) (fun e => nomatch e))
    cases r with
    | ok f => exact wpAny_pure ⟨rfl, h₅⟩
    | error e => exact h₅
theorem inner_N {iter iter2 : Expr} {x y : Str} {px py pn : Pos} {scope : Scope} {cl : List (Str × Addr)} {pos : Pos} {env : Env} {fl C D : Addr} {zs ys : List Value} {m₂ : Str → Option Value} {Q : Shared → Prop} {EE : Value → Shared → Prop}
    (hh : A.handled = none) (hkind : scope.kind = .function) (hy : scope.names.lookup y = some .local) (hyd : (y == ("__debug__" : Str)) = false)
    (hl : s.heap.IsList fl zs.toArray) (hD : s.heap.get? D = some (LCg.lst ys)) (hC : s.heap.Ns C m₂) (hCD : C ≠ D) (hfC : fl ≠ C) (hfD : fl ≠ D) (hz : ys.length + zs.length ≤ 100000)
    (hQ : ∀ h' tk m', h'.Ns C m' → h'.get? D = some (LCg.lst (ys ++ zs)) → (∀ b o, b ≠ C → b ≠ D → s.heap.get? b = some o → h'.get? b = some o) → Q { s with heap := h', toks := tk }) :
    wpAny (model prog w) A (pyIter (.ref fl)) (fun it' s₄ => codeAny (model prog w) A (.compStart (twoFor (.Name y pn) iter iter2 x y px py scope pos) 1 it' (.ref D) (compEnvC scope cl C env))
      (fun r s₅ => match r with | .ok _ => Q s₅ | .error e => EE e s₅) s₄) E s := by
  have hlt : fl < s.heap.objs.size := by obtain ⟨_, e, _⟩ := hl; exact Heap.lt_size e
  have hClt : C < s.heap.objs.size := hC.lt
  have hDlt : D < s.heap.objs.size := Heap.lt_size hD
  refine wpAny_pyIter_list hl ?_
  have up : ∀ b o, s.heap.get? b = some o → (s.heap.push { cls := .type "list_iterator", data := .fields #[.ref fl, .int 0 0] }).get? b = some o := fun b o e => Heap.get?_push_of_some _ e
  have W := Walks.list (prog := prog) (w := w) hh s.heap.objs.size fl (Nat.ne_of_lt hlt) zs.toArray
  rw [show zs.toArray.size = zs.length by simp] at W
  have hIC : s.heap.objs.size ≠ C := Nat.ne_of_gt hClt
  have hID : s.heap.objs.size ≠ D := Nat.ne_of_gt hDlt
  have hst0 : (s.heap.push { cls := .type "list_iterator", data := .fields #[.ref fl, .int 0 0] }).IsListIter s.heap.objs.size fl 0 ∧ (s.heap.push { cls := .type "list_iterator", data := .fields #[.ref fl, .int 0 0] }).IsList fl zs.toArray := ⟨⟨_, Heap.get?_push_size _ rfl, rfl, rfl⟩, hl.push _⟩
  have loop : codeAny (model prog w) A (.compLoop (twoFor (.Name y pn) iter iter2 x y px py scope pos) 1 (.ref s.heap.objs.size) (.ref D) (compEnvC scope cl C env))
      (fun r s₅ => match r with | .ok _ => Q s₅ | .error e => EE e s₅) { s with heap := s.heap.push { cls := .type "list_iterator", data := .fields #[.ref fl, .int 0 0] } } := by
    refine loop_b (fun k s' => ∃ h' tk j m', s' = { s with heap := h', toks := tk } ∧ j ≤ zs.length ∧ k = zs.length + 1 - j ∧ (h'.IsListIter s.heap.objs.size fl j ∧ h'.IsList fl zs.toArray) ∧ h'.Ns C m' ∧ h'.get? D = some (LCg.lst (ys ++ zs.take j)) ∧
      (∀ b o, b ≠ C → b ≠ D → s.heap.get? b = some o → h'.get? b = some o)) ?_ (zs.length + 1) ⟨_, s.toks, 0, _, rfl, Nat.zero_le _, rfl, hst0, hC.at' (fun o e => up _ _ e), by rw [List.take_zero, List.append_nil]; exact up _ _ hD, fun b o _ _ e => up _ _ e⟩
    rintro k s' ⟨h', tk, j, m', rfl, hj, rfl, hst, hn, hd, hk⟩
    by_cases hlt : j < zs.length
    · refine W.item j _ _ _ hlt hst fun v h₂ tk₂ hPv hst₂ hk₂ => ?_
      refine wpAny_assign_Name (wpAny_storeName_local (lookup_relabel_local hy) (hn.at' fun o e => hk₂ _ o (by simpa using Ne.symm hIC) e) (fun h₃ hn₃ hs₃ => ?_) (by simp [compEnvC, relabel, hkind]))
      refine ldVarK hn₃ (if_pos rfl) ?_ hkind (lookup_relabel_local hy) hyd
      have hst₃ : h₃.IsListIter s.heap.objs.size fl (j + 1) ∧ h₃.IsList fl zs.toArray := W.frame _ _ _ hst₂ fun b hb o e => hs₃.extBut b o (by
        rcases List.mem_cons.mp hb with rfl | hb
        · exact hIC
        · rw [List.mem_singleton.mp hb]; exact hfC) e
      have hd₃ : h₃.get? D = some (LCg.lst (ys ++ zs.take j)) := hs₃.extBut _ _ (Ne.symm hCD) (hk₂ _ _ (by simpa using Ne.symm hID) hd)
      refine append_at (hsz := by simp only [List.size_toArray, List.length_append, List.length_take, sizeLine_eq]; lia) hd₃ fun h₅ hs₅ hD₅ => ?_
      refine ⟨zs.length + 1 - (j + 1), by lia, h₅, _, j + 1, _, rfl, hlt, rfl, W.frame _ _ _ hst₃ fun b hb o e => hs₅.extBut b o (by
        rcases List.mem_cons.mp hb with rfl | hb
        · exact hID
        · rw [List.mem_singleton.mp hb]; exact hfD) e, hn₃.sameBut hs₅ hCD, ?_, ?_⟩
      · have hv : zs[j]? = some v := by simpa using hPv
        rw [hD₅, LCg.lst_snoc, List.append_assoc]
        have : zs.take (j + 1) = zs.take j ++ [v] := by rw [List.take_add_one, hv]; rfl
        rw [this]
      · intro b o hb1 hb2 e
        have hbI : b ≠ s.heap.objs.size := Nat.ne_of_lt (Heap.lt_size e)
        exact hs₅.extBut b o hb2 (hs₃.extBut b o hb1 (hk₂ b o (by simpa using hbI) (hk b o hb1 hb2 e)))
    · obtain rfl : j = zs.length := Nat.le_antisymm hj (Nat.not_lt.mp hlt)
      refine W.done _ _ _ hst fun h₂ tk₂ hk₂ => ?_
      refine hQ h₂ tk₂ _ (hn.at' fun o e => hk₂ _ o (by simpa using Ne.symm hIC) e) ?_ ?_
      · rw [List.take_length] at hd
        exact hk₂ _ _ (by simpa using Ne.symm hID) hd
      · intro b o hb1 hb2 e
        have hbI : b ≠ s.heap.objs.size := Nat.ne_of_lt (Heap.lt_size e)
        exact hk₂ b o (by simpa using hbI) (hk b o hb1 hb2 e)
  exact start_b loop (W.self 0 _ _ _ hst0 loop)
/-- a turn's end: the inner list, and what comes behind it -/
def NestEnd (h₀ : Heap) (L : Addr) (m : Str → Option Value) (s₁ : Shared) (I : Addr) (oI : Obj) (C : Addr) (oC : Obj) (D : Addr) (oD : Obj) (S : Led → Prop) (rest : List Value → Led → Prop) (y : Value) (s₂ : Shared) : Prop :=
  ∃ h' tk news' fl zs k, y = .ref fl ∧ s₂ = { s₁ with heap := h', toks := tk } ∧ Fr h₀ L h' m ∧ News h₀ L h' ((I, oI) :: (C, oC) :: (D, oD) :: news') ∧ LCg.Off3 I C D news' ∧ S news' ∧ (fl, listOf zs.toArray k) ∈ news' ∧ rest zs news'
def NestRest (prog : Program) (w : World) (A : Around) (h₀ : Heap) (L : Addr) (m : Str → Option Value) (env : Env) (iter2 : Expr) (x : Str) (scope : Scope) (cl : List (Str × Addr)) (s : Shared) (S : Led → Prop) (P : Nat → Value → Prop)
    (Fin : List Value → Led → Prop) : Nat → Nat → List Value → Led → Prop
  | 0, _, ys, news => Fin ys news
  | k + 1, i, ys, news => ∀ v I oI C oC D m₂ h tk (E' : Value → Shared → Prop), P i v → LCg.NsObj oC m₂ → m₂ x = some v → Fr h₀ L h m → News h₀ L h ((I, oI) :: (C, oC) :: (D, LCg.lst ys) :: news) → LCg.Off3 I C D news → ((@Ne Nat I C) ∧ (@Ne Nat I D) ∧ (@Ne Nat C D)) →
      wpAny (model prog w) A (eval iter2 (compEnvC scope cl C env)) (NestEnd h₀ L m { s with heap := h, toks := tk } I oI C oC D (LCg.lst ys) S (fun zs news' => ys.length + zs.length ≤ 100000 ∧ NestRest prog w A h₀ L m env iter2 x scope cl s S P Fin k (i + 1) (ys ++ zs) news')) E' { s with heap := h, toks := tk }
theorem block_N {iter iter2 : Expr} {x y : Str} {px py pn : Pos} {scope : Scope} {cl : List (Str × Addr)} {pos : Pos} {env : Env} {s₂ : Shared} {I : Addr} {fp : List Addr} {n : Nat} {P : Nat → Value → Prop} {St : Nat → Heap → Prop} {S : Led → Prop} {news : Led} {h₀ : Heap} {L : Addr} {m : Str → Option Value}
    {Fin : List Value → Led → Prop} {RR : Value → Addr → Result → Shared → Prop}
    (W : Walks prog w A I fp [I] n P St) (hh : A.handled = none) (hIo : ∀ i h, St i h → ∃ o, h.get? I = some o)
    (hSt : ∀ i h h' o nw, St i h → h.get? I = some o → h'.get? I = some o → (∀ b o, h₀.get? b = some o → h'.get? b = some o) → News h₀ L h' nw → S nw → St i h')
    (hcell : ∀ z ∈ scope.names, z.2 ≠ .cell) (hkind : scope.kind = .function) (hx : scope.names.lookup x = some .local) (hy : scope.names.lookup y = some .local) (hyd : (y == ("__debug__" : Str)) = false) (hs : ∀ env' z, foldedSetIterable iter2 env' z = pure z) (hst : St 0 s₂.heap) (hfp : ∀ b ∈ fp, b < s₂.heap.objs.size)
    (F : Fr h₀ L s₂.heap m) (N : News h₀ L s₂.heap news) (hIL : L ≠ I) (hI₀ : h₀.get? I = none) (off : ∀ p ∈ news, p.1 ≠ I) (hS : S news)
    (R : NestRest prog w A h₀ L m env iter2 x scope cl s₂ S P Fin n 0 [] news)
    (hRR : ∀ D C h tk m' ys news', Fr h₀ L h m → News h₀ L h ((D, LCg.lst ys) :: news') → LCg.Off1 D news' → h.Ns C m' → h₀.get? C = none → h₀.get? D = none → C ≠ L → D ≠ L → C ≠ D → (∀ p ∈ news', p.1 ≠ C) → Fin ys news' → RR (.ref D) C (.ok .next) { s₂ with heap := h, toks := tk }) :
    wpAny (model prog w) A (newList []) (fun acc s₃ => wpAny (model prog w) A (newFunctionEnv scope env.globals cl [] env.qual none .none (some env)) (fun cenv s₄ =>
      codeAny (model prog w) A (.compStart (twoFor (.Name y pn) iter iter2 x y px py scope pos) 0 (.ref I) acc { cenv with scope := relabel scope env }) (RR acc cenv.locals) s₄) E s₃) E s₂ := by
  refine wpAny_newObj_type (wpAny_newFunctionEnv hcell (by intro y hy; simp at hy) (fun h₁ hns₁ hsb₁ => ?_) hkind)
  dsimp only at hns₁ hsb₁ ⊢
  generalize hH2 : s₂.heap.push { cls := .type "list", dict := none, data := .seq ([] : List Value).toArray } = H2 at hns₁ hsb₁ ⊢
  have hC : H2.objs.size = s₂.heap.objs.size + 1 := by rw [← hH2, Heap.size_push]
  have hDC : s₂.heap.objs.size ≠ H2.objs.size := by rw [hC]; exact Nat.ne_of_lt (Nat.lt_succ_self _)
  have below : ∀ b, b < s₂.heap.objs.size → b ≠ H2.objs.size ∧ b ≠ s₂.heap.objs.size := fun b hb => ⟨by rw [hC]; exact Nat.ne_of_lt (Nat.lt_succ_of_lt hb), Nat.ne_of_lt hb⟩
  have hDf : s₂.heap.objs.size ∉ fp := fun hm => Nat.lt_irrefl _ (hfp _ hm)
  have hCf : H2.objs.size ∉ fp := fun hm => by have := hfp _ hm; rw [hC] at this; exact Nat.lt_irrefl _ (Nat.lt_of_succ_lt this)
  have hIlt : I < s₂.heap.objs.size := hfp I (W.sub I (List.mem_singleton.mpr rfl))
  have old : ∀ b o, s₂.heap.get? b = some o → h₁.get? b = some o := fun b o e => hsb₁.extBut b o (below b (Heap.lt_size e)).1 (Heap.get?_push_of_some _ (hH2 ▸ Heap.get?_push_of_some _ e))
  have hacc : h₁.get? s₂.heap.objs.size = some (LCg.lst []) := hsb₁.extBut _ _ hDC (Heap.get?_push_of_some _ (hH2 ▸ Heap.get?_push_size _ rfl))
  have hst₁ : St 0 h₁ := W.frame _ _ _ hst fun b _ o e => old b o e
  have fresh₀ : ∀ a, s₂.heap.objs.size ≤ a → h₀.get? a = none := fun a ha => by
    cases e : h₀.get? a with
    | none => rfl
    | some o' => exact absurd (Heap.lt_size (F.keep a o' e)) (Nat.not_lt.mpr ha)
  have hD₀ : h₀.get? s₂.heap.objs.size = none := fresh₀ _ (Nat.le_refl _)
  have hC₀ : h₀.get? H2.objs.size = none := fresh₀ _ (by rw [hC]; exact Nat.le_succ _)
  have hLlt : L < s₂.heap.objs.size := F.ns.lt
  have hDL : s₂.heap.objs.size ≠ L := Ne.symm (below L hLlt).2
  have hCL : H2.objs.size ≠ L := Ne.symm (below L hLlt).1
  have hCI : I ≠ H2.objs.size := (below I hIlt).1
  have hDI : I ≠ s₂.heap.objs.size := (below I hIlt).2
  have off₀ : LCg.Off3 I H2.objs.size s₂.heap.objs.size news := LCg.Off3.of fun p hp => ⟨off p hp, (below _ (Heap.lt_size (N p hp).1)).1, (below _ (Heap.lt_size (N p hp).1)).2⟩
  have hA : A.mark none = A := by cases A; rfl
  have loop : ∀ s₃ : Shared, s₃ = { s₂ with heap := h₁, toks := s₂.toks + ([] : List (Str × Value)).length } →
      codeAny (model prog w) A (.compLoop (twoFor (.Name y pn) iter iter2 x y px py scope pos) 0 (.ref I) (.ref s₂.heap.objs.size) (compEnvC scope cl H2.objs.size env))
        (RR (.ref s₂.heap.objs.size) H2.objs.size) s₃ := by
    rintro s₃ rfl
    refine loop_a
      (fun k s' => ∃ h' tk i ys m' news', s' = { s₂ with heap := h', toks := tk } ∧ i ≤ n ∧ k = n + 1 - i ∧ St i h' ∧ Fr h₀ L h' m ∧ h'.Ns H2.objs.size m' ∧ News h₀ L h' ((s₂.heap.objs.size, LCg.lst ys) :: news') ∧
        LCg.Off3 I H2.objs.size s₂.heap.objs.size news' ∧ S news' ∧ NestRest prog w A h₀ L m env iter2 x scope cl s₂ S P Fin (n - i) i ys news') (hs _) ?_ (n + 1)
      ⟨h₁, _, 0, [], _, news, rfl, Nat.zero_le _, rfl, hst₁, F.keeps old, hns₁, fun p hp => ?_, off₀, hS, R⟩
    · rintro k s' ⟨h', tk, i, ys, m', news', rfl, hi, rfl, hst', F', hn', N', off', hS', R'⟩
      by_cases hlt : i < n
      · obtain ⟨j, hj⟩ : ∃ j, n - i = j + 1 := ⟨n - i - 1, by lia⟩
        rw [hj] at R'
        refine W.item i _ _ _ hlt hst' fun v h₂ tk₂ hPv hst₂ hk₂ => ?_
        refine wpAny_assign_Name (wpAny_storeName_local (lookup_relabel_local hx) (hn'.at' fun o e => hk₂ _ o (by simpa using Ne.symm hCI) e) (fun h₃ hn₃ hs₃ => ?_) (by simp [compEnvC, relabel, hkind]))
        have hst₃ : St (i + 1) h₃ := W.frame _ _ _ hst₂ fun b hb o e => hs₃.extBut b o (fun q => hCf (by have q' : b = H2.objs.size := q; rw [← q']; exact hb)) e
        obtain ⟨oI, heI⟩ := hIo _ _ hst₃
        obtain ⟨oC, heC, hoC⟩ := LCg.ns_obj hn₃
        have F₃ : Fr h₀ L h₃ m := (LCg.fr_but F' hk₂ hIL hI₀).change hs₃ hCL hC₀
        have off3 := off'.mem
        have N₂ : News h₀ L h₂ ((s₂.heap.objs.size, LCg.lst ys) :: news') := LCg.news_but N' hk₂ fun p hp => by
          rcases List.mem_cons.mp hp with rfl | hp
          · exact Ne.symm hDI
          · exact (off3 p hp).1
        have N₃ : News h₀ L h₃ ((I, oI) :: (H2.objs.size, oC) :: (s₂.heap.objs.size, LCg.lst ys) :: news') := fun p hp => by
          rcases List.mem_cons.mp hp with rfl | hp
          · exact ⟨heI, Ne.symm hIL, hI₀⟩
          · rcases List.mem_cons.mp hp with rfl | hp
            · exact ⟨heC, hCL, hC₀⟩
            · have z := N₂ p hp
              refine ⟨hs₃.extBut _ _ ?_ z.1, z.2⟩
              rcases List.mem_cons.mp hp with rfl | hp
              · exact hDC
              · exact (off3 p hp).2.1
        refine wpAny_mono (R' v I oI H2.objs.size oC s₂.heap.objs.size _ h₃ _ _ hPv hoC (by simp) F₃ N₃ off' ⟨hCI, hDI, Ne.symm hDC⟩) (fun y' s₄ h₄ => ?_) fun _ _ e => e
        obtain ⟨h₄, tk₄, news₄, fl, zs, kk, rfl, rfl, F₄, N₄, off₄, hS₄, hfl, hz, R₄⟩ := h₄
        have zI := (N₄ (I, oI) List.mem_cons_self).1
        have zC := (N₄ (H2.objs.size, oC) (List.mem_cons_of_mem _ List.mem_cons_self)).1
        have zD := (N₄ (s₂.heap.objs.size, LCg.lst ys) (List.mem_cons_of_mem _ (List.mem_cons_of_mem _ List.mem_cons_self))).1
        have N₄' : News h₀ L h₄ news₄ := fun p hp => N₄ p (List.mem_cons_of_mem _ (List.mem_cons_of_mem _ (List.mem_cons_of_mem _ hp)))
        have hst₄ : St (i + 1) h₄ := hSt _ _ _ _ _ hst₃ heI zI F₄.keep N₄' hS₄
        have off4 := off₄.mem
        rw [hA]
        refine inner_N (s := { s₂ with heap := h₄, toks := tk₄ }) hh hkind hy hyd ⟨_, (N₄' _ hfl).1, rfl, _, rfl⟩ zD (hoC.ns zC) (Ne.symm hDC) (off4 _ hfl).2.1 (off4 _ hfl).2.2 hz fun h₅ tk₅ m₅ hn₅ hD₅ hk₅ => ?_
        have keep₀ : ∀ b o, h₀.get? b = some o → h₅.get? b = some o := fun b o e => hk₅ b o (fun q => by rw [q, hC₀] at e; cases e) (fun q => by rw [q, hD₀] at e; cases e) (F₄.keep b o e)
        have N₅ : News h₀ L h₅ news₄ := fun p hp => ⟨hk₅ _ _ (off4 p hp).2.1 (off4 p hp).2.2 (N₄' p hp).1, (N₄' p hp).2⟩
        have zI₅ : h₅.get? I = some oI := hk₅ _ _ hCI hDI zI
        refine ⟨n + 1 - (i + 1), by lia, h₅, tk₅, i + 1, ys ++ zs, _, news₄, rfl, hlt, rfl, hSt _ _ _ _ _ hst₄ zI zI₅ keep₀ N₅ hS₄, ⟨F₄.ns.at' fun o e => hk₅ L o (Ne.symm hCL) (Ne.symm hDL) e, keep₀, F₄.above⟩, hn₅, fun p hp => ?_, off₄, hS₄, ?_⟩
        · rcases List.mem_cons.mp hp with rfl | hp
          · exact ⟨hD₅, hDL, hD₀⟩
          · exact N₅ p hp
        · rw [show n - (i + 1) = j by lia]
          exact R₄
      · obtain rfl : i = n := Nat.le_antisymm hi (Nat.not_lt.mp hlt)
        rw [Nat.sub_self] at R'
        refine W.done _ _ _ hst' fun h₂ tk₂ hk₂ => ?_
        have off3 := off'.mem
        exact hRR _ _ h₂ tk₂ _ ys news' (LCg.fr_but F' hk₂ hIL hI₀) (LCg.news_but N' hk₂ fun p hp => by
          rcases List.mem_cons.mp hp with rfl | hp
          · exact Ne.symm hDI
          · exact (off3 p hp).1) off'.one (hn'.at' fun o e => hk₂ _ o (by simpa using Ne.symm hCI) e) hC₀ hD₀ hCL hDL (Ne.symm hDC) (fun p hp => (off3 p hp).2.1) R'
    · rcases List.mem_cons.mp hp with rfl | hp
      · exact ⟨hacc, hDL, hD₀⟩
      · exact ⟨old _ _ (N p hp).1, (N p hp).2⟩
  exact codeAny_compStart_list (loop _ rfl) (W.self 0 _ _ _ hst₁ (loop _ rfl))
/-- the source of the outer for is a tuple of the ledger -/
def SrcN (prog : Program) (w : World) (A : Around) (h₀ : Heap) (L : Addr) (m : Str → Option Value) (env : Env) (iter2 : Expr) (x : Str) (scope : Scope) (cl : List (Str × Addr)) (Fin : Shared → List Value → Led → Prop) (xv : Value) (s₁ : Shared) : Prop :=
  ∃ (ax : Addr) (o : Obj) (vs : List Value) (news : Led), xv = .ref ax ∧ A.handled = none ∧ Fr h₀ L s₁.heap m ∧ News h₀ L s₁.heap news ∧ (ax, o) ∈ news ∧ o.cls = .type "tuple" ∧ (∃ k, o.data = .seq vs.toArray k) ∧
    ∀ s₂ : Shared, (∃ h, s₂ = { s₁ with heap := h }) → NestRest prog w A h₀ L m env iter2 x scope cl s₂ (fun nw => (ax, o) ∈ nw) (fun i v => vs.toArray[i]? = some v) (Fin s₂) vs.length 0 [] news
theorem SrcN.intro {iter2 : Expr} {x : Str} {scope : Scope} {cl : List (Str × Addr)} {Fin : Shared → List Value → Led → Prop} {ax : Addr} {vs : List Value} {news : Led} {s₁ : Shared} {k : Nat} {h₀ : Heap} {L : Addr} {m : Str → Option Value} {env : Env}
    (hh : A.handled = none) (F : Fr h₀ L s₁.heap m) (N : News h₀ L s₁.heap news) (hm : (ax, ({ cls := .type "tuple", data := .seq vs.toArray k } : Obj)) ∈ news)
    (h : ∀ g, NestRest prog w A h₀ L m env iter2 x scope cl { s₁ with heap := g } (fun nw => (ax, ({ cls := .type "tuple", data := .seq vs.toArray k } : Obj)) ∈ nw) (fun i v => vs.toArray[i]? = some v) (Fin { s₁ with heap := g }) vs.length 0 [] news) :
    SrcN prog w A h₀ L m env iter2 x scope cl Fin (.ref ax) s₁ := ⟨ax, _, vs, news, rfl, hh, F, N, hm, rfl, ⟨_, rfl⟩, fun _ ⟨g, e⟩ => e ▸ h g⟩
theorem ListComp_N {iter iter2 : Expr} {x y : Str} {px py pn : Pos} {scope : Scope} {cl : List (Str × Addr)} {pos : Pos} {Q : Value → Shared → Prop} {h₀ : Heap} {L : Addr} {m : Str → Option Value} {env : Env} (F₀ : Fr h₀ L s.heap m)
    (hclos : closureFor scope env = pure cl) (hcell : ∀ y ∈ scope.names, y.2 ≠ .cell) (hkind : scope.kind = .function)
    (hnames : ∀ y ∈ scope.names, y.2 = .local → scope.names.lookup y.1 = some .local) (hx : scope.names.lookup x = some .local) (hy : scope.names.lookup y = some .local) (hyd : (y == ("__debug__" : Str)) = false)
    (h : wpAny (model prog w) A (eval iter env) (SrcN prog w A h₀ L m env iter2 x scope cl (fun s₂ => LCg.FinE h₀ L m s₂ Q)) E s)
    (hs : ∀ x, foldedSetIterable iter env x = pure x := by intro _; rfl) (hs2 : ∀ env' x, foldedSetIterable iter2 env' x = pure x := by intro _ _; rfl) :
    wpAny (model prog w) A (eval (.ListComp (.Name y pn) [⟨.Name x px, iter, [], 0⟩, ⟨.Name y py, iter2, [], 0⟩] scope pos) env) Q E s := by
  rw [eval_ListComp]
  refine wpAny_comprehension_free (use := none) rfl hs hclos hkind hnames (wpAny_mono h (fun xv s₁ h₁ => ?_) fun _ _ e => e)
  obtain ⟨ax, o, vs, news, rfl, hh, F, N, hm, hc, ⟨k, hd⟩, R⟩ := h₁
  have hl : s₁.heap.IsTuple ax vs.toArray := ⟨o, (N _ hm).1, hc, k, hd⟩
  have hlt : ax < s₁.heap.objs.size := Heap.lt_size (N _ hm).1
  refine wpAny_pyIter_tuple hl ?_
  have up : ∀ b o, s₁.heap.get? b = some o → (s₁.heap.push { cls := .type "tuple_iterator", data := .fields #[.ref ax, .int 0 0] }).get? b = some o := fun b o e => Heap.get?_push_of_some _ e
  have W := Walks.tuple (prog := prog) (w := w) hh s₁.heap.objs.size ax (Nat.ne_of_lt hlt) vs.toArray
  rw [show vs.toArray.size = vs.length by simp] at W
  have W' : Walks prog w A s₁.heap.objs.size [s₁.heap.objs.size, ax] [s₁.heap.objs.size] vs.length (fun i v => vs.toArray[i]? = some v) (fun i h => h.IsTupleIter s₁.heap.objs.size ax i ∧ h.IsTuple ax vs.toArray) := W
  refine block_N W' hh (fun i h st => by obtain ⟨o, e, _⟩ := st.1; exact ⟨o, e⟩) (S := fun nw => (ax, o) ∈ nw) (fun i h h' o' nw st e e' k' N' S => ⟨by obtain ⟨o₁, q, r⟩ := st.1; rw [e] at q; cases q; exact ⟨o', e', r⟩, ⟨o, (N' _ S).1, hc, k, hd⟩⟩) hcell hkind hx hy hyd hs2 ⟨⟨_, Heap.get?_push_size _ rfl, rfl, rfl⟩, hl.at fun o e => up _ _ e⟩ (fun b hb => ?_)
      (F.keeps up) (N.grown up) (Nat.ne_of_lt F.ns.lt) (next_is_new F) (fun p hp => Nat.ne_of_lt (Heap.lt_size (N p hp).1)) hm (R _ ⟨_, rfl⟩) ?_
  · show b < (s₁.heap.push _).objs.size
    rw [Heap.size_push]
    rcases List.mem_cons.mp hb with rfl | hb
    · exact Nat.lt_succ_self _
    · rw [List.mem_singleton.mp hb]; exact Nat.lt_succ_of_lt hlt
  · intro D C h tk m' ys news' F' N' o1 hn hC₀ hD₀ hCL hDL hCD offC fin
    refine ⟨m', hn, fun h'' hs'' => fin D h'' tk (F'.change hs'' hCL hC₀) (fun p hp => ?_) o1⟩
    refine ⟨hs''.extBut _ _ ?_ (N' p hp).1, (N' p hp).2⟩
    rcases List.mem_cons.mp hp with rfl | hp
    · exact Ne.symm hCD
    · exact offC p hp
theorem NestRest.zero {iter2 : Expr} {x : Str} {scope : Scope} {cl : List (Str × Addr)} {h₀ : Heap} {L : Addr} {m : Str → Option Value} {env : Env} {S : Led → Prop} {P : Nat → Value → Prop} {Fin : List Value → Led → Prop} {i : Nat} {ys : List Value} {news : Led} (h : Fin ys news) :
    NestRest prog w A h₀ L m env iter2 x scope cl s S P Fin 0 i ys news := h
theorem NestRest.succ {iter2 : Expr} {x : Str} {scope : Scope} {cl : List (Str × Addr)} {h₀ : Heap} {L : Addr} {m : Str → Option Value} {env : Env} {S : Led → Prop} {P : Nat → Value → Prop} {Fin : List Value → Led → Prop} {k i : Nat} {ys : List Value} {news : Led}
    (h : ∀ v I oI C oC D m₂ h tk (E' : Value → Shared → Prop), P i v → LCg.NsObj oC m₂ → m₂ x = some v → Fr h₀ L h m → News h₀ L h ((I, oI) :: (C, oC) :: (D, LCg.lst ys) :: news) → LCg.Off3 I C D news → ((@Ne Nat I C) ∧ (@Ne Nat I D) ∧ (@Ne Nat C D)) →
      wpAny (model prog w) A (eval iter2 (compEnvC scope cl C env)) (NestEnd h₀ L m { s with heap := h, toks := tk } I oI C oC D (LCg.lst ys) S (fun zs news' => ys.length + zs.length ≤ 100000 ∧ NestRest prog w A h₀ L m env iter2 x scope cl s S P Fin k (i + 1) (ys ++ zs) news')) E' { s with heap := h, toks := tk }) :
    NestRest prog w A h₀ L m env iter2 x scope cl s S P Fin (k + 1) i ys news := h
theorem nestEnd_pull {h₀ : Heap} {L I C D fl : Addr} {m : Str → Option Value} {s₁ : Shared} {oI oC oD : Obj} {S : Led → Prop} {rest : List Value → Led → Prop} {zs : List Value} {k : Nat} {h' : Heap} {tk : Nat} {all r1 r2 news : Led} {Z : List Value → Prop}
    (F : Fr h₀ L h' m) (N : News h₀ L h' all) (p1 : Pull (I, oI) all r1) (p2 : Pull (C, oC) r1 r2) (p3 : Pull (D, oD) r2 news) (o1 : Off I news) (o2 : Off C news) (o3 : Off D news) (hS : S news) (hm : (fl, listOf zs.toArray k) ∈ news) (z : Z zs) (r : rest zs news) :
    NestEnd h₀ L m s₁ I oI C oC D oD S (fun zs news => Z zs ∧ rest zs news) (.ref fl) { s₁ with heap := h', toks := tk } :=
  ⟨h', tk, news, fl, zs, k, rfl, rfl, F, fun q hq => N q (p1.mem _ (by
    rcases List.mem_cons.mp hq with rfl | hq
    · exact .head _
    · refine .tail _ (p2.mem _ ?_)
      rcases List.mem_cons.mp hq with rfl | hq
      · exact .head _
      · exact .tail _ (p3.mem _ hq))), LCg.Off3.of fun p hp => ⟨(o1 p hp).symm, (o2 p hp).symm, (o3 p hp).symm⟩, hS, hm, z, r⟩
theorem addL {h₀ : Heap} {L a b : Addr} {m : Str → Option Value} {news : Led} {xs ys : List Value} {n n2 : Nat} {Q : Value → Shared → Prop} (F : Fr h₀ L s.heap m) (N : News h₀ L s.heap news) (ma : (a, listOf xs.toArray n) ∈ news) (mb : (b, listOf ys.toArray n2) ∈ news) (z : xs.length + ys.length ≤ 100000)
    (h : ∀ D h', Fr h₀ L h' m → News h₀ L h' ((D, listOf (xs ++ ys).toArray 0) :: news) → (∀ p ∈ news, p.1 < D) → Q (.ref D) { s with heap := h' }) : wpAny (model prog w) A (binaryOp .Add (.ref a) (.ref b)) Q E s :=
  PySem.W.kmk_add_lit F N (N.isList ma) (N.isList mb) rfl h (by rw [sizeLine_eq]; simpa using Nat.le_trans z (by lia))
end
end Mine
end
section
namespace Mine
def Ty.adt : Ty → Bool
  | .g _ => true
  | .ad _ _ _ => true
  | _ => false
/-- what is due to a stack, its top first -/
def flat : List (Ty × Nat) → List Ty → List Reg
  | [], _ => []
  | (t, n) :: r, seen => (dw n t seen).1 ++ flat r (dw n t seen).2
def wt : Ty → Nat
  | .box t => wt t + 1
  | .arr t => wt t + 1
  | .pair t u => wt t + wt u + 1
  | .ad _ _ t => wt t + 2
  | _ => 1
def wts : List (Ty × Nat) → Nat
  | [] => 0
  | (t, _) :: r => wt t + wts r
def szs : List (Ty × Nat) → Nat
  | [] => 0
  | (t, _) :: r => t.size + szs r
theorem wt_pos (t : Ty) : 1 ≤ wt t := by cases t <;> simp only [wt] <;> lia
theorem flat_0 (t : Ty) (r : List (Ty × Nat)) (s : List Ty) : flat ((t, 0) :: r) s = t.regs ++ flat r s := rfl
theorem flat_byte (n : Nat) (r : List (Ty × Nat)) (s : List Ty) : flat ((.byte, n + 1) :: r) s = flat r s := rfl
theorem flat_par (n : Nat) (r : List (Ty × Nat)) (s : List Ty) : flat ((.par, n + 1) :: r) s = flat r s := rfl
theorem flat_ref (x : Reg) (t : Ty) (n : Nat) (r : List (Ty × Nat)) (s : List Ty) : flat ((.ref x t, n + 1) :: r) s = flat r s := rfl
theorem flat_box (t : Ty) (n : Nat) (r : List (Ty × Nat)) (s : List Ty) : flat ((.box t, n + 1) :: r) s = flat ((t, n) :: r) s := rfl
theorem flat_arr (t : Ty) (n : Nat) (r : List (Ty × Nat)) (s : List Ty) : flat ((.arr t, n + 1) :: r) s = flat ((t, n) :: r) s := rfl
theorem flat_pair (t u : Ty) (n : Nat) (r : List (Ty × Nat)) (s : List Ty) : flat ((.pair t u, n + 1) :: r) s = flat ((t, n) :: (u, n) :: r) s := by
  simp only [flat, dw, List.append_assoc]
theorem flat_hit (t : Ty) (n : Nat) (r : List (Ty × Nat)) (s : List Ty) (ha : t.adt = true) (h : has s t = true) : flat ((t, n + 1) :: r) s = flat r s := by
  cases t with
  | g x => simp only [flat, dw, h, if_true, List.nil_append]
  | ad m x t => simp only [flat, dw, h, if_true, List.nil_append]
  | byte => exact absurd ha Bool.false_ne_true
  | par => exact absurd ha Bool.false_ne_true
  | ref _ _ => exact absurd ha Bool.false_ne_true
  | box _ => exact absurd ha Bool.false_ne_true
  | arr _ => exact absurd ha Bool.false_ne_true
  | pair _ _ => exact absurd ha Bool.false_ne_true
theorem flat_g (x : Reg) (n : Nat) (r : List (Ty × Nat)) (s : List Ty) (h : has s (.g x) = false) : flat ((.g x, n + 1) :: r) s = (Ty.g x).regs ++ flat r (s ++ [.g x]) := by
  simp only [flat, dw, h, Bool.false_eq_true, if_false, Ty.regs]
theorem flat_W (x : Reg) (t : Ty) (n : Nat) (r : List (Ty × Nat)) (s : List Ty) (h : has s (.ad .W x t) = false) : flat ((.ad .W x t, n + 1) :: r) s = (Ty.ad .W x t).regs ++ flat r (s ++ [.ad .W x t]) := by
  simp only [flat, dw, h, Bool.false_eq_true, if_false, Ty.regs]
theorem flat_N (x : Reg) (t : Ty) (n : Nat) (r : List (Ty × Nat)) (s : List Ty) (h : has s (.ad .N x t) = false) : flat ((.ad .N x t, n + 1) :: r) s = flat ((t, n) :: (.g x, n) :: r) (s ++ [.ad .N x t]) := by
  simp only [flat, dw, h, Bool.false_eq_true, if_false, List.append_assoc]
theorem flat_E (x : Reg) (t : Ty) (n : Nat) (r : List (Ty × Nat)) (s : List Ty) (h : has s (.ad .E x t) = false) : flat ((.ad .E x t, n + 1) :: r) s = flat ((t, n) :: (.g x, n) :: r) (s ++ [.ad .E x t]) := by
  simp only [flat, dw, h, Bool.false_eq_true, if_false, List.append_assoc]
theorem has_no {s : List Ty} {t : Ty} (ht : t.ints) (ha : t.adt = false) (hs : ∀ u ∈ s, u.ints) (hs2 : ∀ u ∈ s, u.adt = true) : has s t = false := by
  rw [Bool.eq_false_iff]
  intro h
  have := hs2 t ((has_iff ht hs).mp h)
  rw [ha] at this
  cases this
/-- a stack of pairs, the top at the list's end -/
inductive StkIn (l : Led) : List Value → List (Ty × Nat) → Prop
  | nil : StkIn l [] []
  | cons {a : Addr} {v : Value} {i : Int} {k : Tok} {t : Ty} {n : Nat} {vs : List Value} {ts : List (Ty × Nat)} : (a, tupO [v, .int i k]) ∈ l → TyIn l v t → i = (n : Int) → StkIn l vs ts → StkIn l (vs ++ [.ref a]) ((t, n) :: ts)
theorem StkIn.mono {l l' : Led} {vs : List Value} {ts : List (Ty × Nat)} (h : StkIn l vs ts) (s : ∀ p ∈ l, p ∈ l') : StkIn l' vs ts := by
  induction h with
  | nil => exact .nil
  | cons m h e _ ih => exact .cons (s _ m) (h.mono s) e ih
theorem StkIn.length {l : Led} {vs : List Value} {ts : List (Ty × Nat)} (h : StkIn l vs ts) : vs.length ≤ wts ts := by
  induction h with
  | nil => exact Nat.le_refl _
  | @cons _ _ _ _ t _ _ _ m h e _ ih => have := wt_pos t; simp only [List.length_append, List.length_cons, List.length_nil, wts]; lia
theorem StkIn.zero {l : Led} {vs : List Value} {ts : List (Ty × Nat)} (h : StkIn l vs ts) : StkIn l (vs ++ []) ts := by rw [List.append_nil]; exact h
theorem StkIn.two {l : Led} {a b : Addr} {v u : Value} {i j : Int} {k k2 : Tok} {t t2 : Ty} {n : Nat} {vs : List Value} {ts : List (Ty × Nat)} (h : StkIn l vs ts) (m1 : (a, tupO [v, .int i k]) ∈ l) (r1 : TyIn l v t) (e1 : i = (n : Int)) (m2 : (b, tupO [u, .int j k2]) ∈ l) (r2 : TyIn l u t2) (e2 : j = (n : Int)) :
    StkIn l (vs ++ [.ref a, .ref b]) ((t2, n) :: (t, n) :: ts) := by
  have := StkIn.cons m2 r2 e2 (StkIn.cons m1 r1 e1 h)
  rwa [List.append_assoc] at this
theorem TysIn.zero {l : Led} {vs : List Value} {ts : List Ty} (h : TysIn l vs ts) : TysIn l (vs ++ []) ts := by rw [List.append_nil]; exact h
theorem stk_reads {h : Heap} {l : Led} (hn : ∀ p ∈ l, h.get? p.1 = some p.2) {vs : List Value} {ts : List (Ty × Nat)} (k : StkIn l vs ts) (hi : ∀ q ∈ ts, q.1.ints ∧ q.1.deep ≤ 20) : ∃ ds, ReadsAll h vs ds [] ∧ PyData.canLayAll0 ds = true ∧ PyData.depthAll ds ≤ 41 ∧ ds.length = vs.length := by
  induction k with
  | nil => exact ⟨[], .nil, rfl, by decide, rfl⟩
  | @cons a v i k t n vs ts m r e _ ih =>
    obtain ⟨ds, h1, h2, h3, h4⟩ := ih fun q hq => hi q (.tail _ hq)
    have ht := hi _ (.head _)
    have hd := ty_depth t
    have app : ∀ {us : List Value} {es : List PyData} {x : Value} {d : PyData}, ReadsAll h us es [] → Reads h x d [] → ReadsAll h (us ++ [x]) (es ++ [d]) [] := by
      intro us
      induction us with
      | nil => intro es x d h1 h2; cases h1; exact .cons (as := []) h2 .nil
      | cons u us ih =>
        intro es x d h1 h2
        generalize hq : ([] : List Addr) = q at h1
        cases h1 with
        | @cons _ _ _ _ as bs h3 h4 =>
          have hab := List.append_eq_nil_iff.mp hq.symm
          obtain ⟨rfl, rfl⟩ := hab
          exact .cons (as := []) h3 (ih h4 h2)
    refine ⟨ds ++ [.tuple [t.data, .int i]], app h1 (.tuple (hn _ m) rfl rfl (.cons (as := []) (ty_reads hn r) (.cons (as := []) (.int _ _) .nil))), ?_, ?_, by simp [h4]⟩
    · have lay : ∀ (xs ys : List PyData), PyData.canLayAll0 xs = true → PyData.canLayAll0 ys = true → PyData.canLayAll0 (xs ++ ys) = true := by
        intro xs ys a b
        induction xs with
        | nil => exact b
        | cons x xs ih => simp only [List.cons_append, PyData.canLayAll0, Bool.and_eq_true] at a ⊢; exact ⟨a.1, ih a.2⟩
      refine lay _ _ h2 ?_
      simp only [PyData.canLayAll0, PyData.canLay0, ty_lay ht.1, Bool.and_true]
    · have dep : ∀ (xs ys : List PyData), PyData.depthAll (xs ++ ys) ≤ max (PyData.depthAll xs) (PyData.depthAll ys) := by
        intro xs ys
        induction xs with
        | nil => exact Nat.le_max_right _ _
        | cons x xs ih => simp only [List.cons_append, PyData.depthAll]; lia
      refine Nat.le_trans (dep _ _) ?_
      have ht2 : t.deep ≤ 20 := ht.2
      simp only [PyData.depthAll, PyData.depth]
      lia
section
variable {prog : Program} {w : World} {A : Around} {E : Value → Shared → Prop} {s : Shared} {h₀ : Heap} {L : Addr} {m : Str → Option Value}
theorem stk_ne {news : Led} {Q : Value → Shared → Prop} {D D2 : Addr} {n n2 : Nat} {vs : List Value} {ts : List (Ty × Nat)} (N : News h₀ L s.heap news) (m1 : (D, listOf vs.toArray n) ∈ news) (m2 : (D2, listOf #[] n2) ∈ news) (K : StkIn news vs ts) (hi : ∀ q ∈ ts, q.1.ints ∧ q.1.deep ≤ 20)
    (hu : A.units + 64 < cLine) (h : Q (.bool (!ts.isEmpty)) s) : wpAny (model prog w) A (compareOp .NotEq (.ref D) (.ref D2)) Q E s := by
  have hn : ∀ p ∈ news, s.heap.get? p.1 = some p.2 := fun p hp => (N p hp).1
  obtain ⟨ds, h1, h2, h3, h4⟩ := stk_reads hn K hi
  have r1 : Reads s.heap (.ref D) (.list ds) [D] := .list (hn _ m1) rfl rfl (by simpa using h1)
  have r2 : Reads s.heap (.ref D2) (.list []) [D2] := .list (hn _ m2) rfl rfl .nil
  have sh1 : SeqAt.shaped (.list ds) = true := by
    unfold SeqAt.shaped
    rw [show PyData.canLay0 (.list ds) = true by simp only [PyData.canLay0]; exact h2, Bool.true_and]
    exact decide_eq_true (by simp only [PyData.depth]; lia)
  have sh2 : SeqAt.shaped (.list []) = true := by decide
  refine SeqAt.compareNe_shaped r1 r2 sh1 sh2 hu ?_
  have : PyData.eqv (.list ds) (.list []) = ts.isEmpty := by
    cases K with
    | nil =>
      have : ds = [] := by simpa using h4
      subst this; rfl
    | cons _ _ _ _ =>
      cases ds with
      | nil => simp at h4
      | cons d ds => rfl
  rw [this]
  exact h
end
end Mine
end
namespace Mine
theorem own_lines_0 : True := by
  k_with_none
  (k_with "mine kct_strs" => kct_strs)
  (k_with "mine lsm_bools" => lsm_bools)
  (k_with "mine kfm_turns" => kfm_turns)
  (k_with "mine kbo_bools" => kbo_bools)
  (k_with "mine keq_rows" => keq_rows)
  (k_with "mine keq_hits" => keq_hits)
  (k_with "mine kpc_turns" => kpc_turns)
  (k_with "mine tlg_ne" => tlg_ne)
  (k_with "mine kat_tups" => kat_tups)
  (k_with "mine kaf_pre" => kaf_pre)
  (k_with "mine kaf_suf" => kaf_suf)
  (k_with "mine ktr_room" => ktr_room)
  (k_with "mine ktr_units" => ktr_units)
  trivial
local macro_rules | `(tactic| k_enter) => `(tactic| k_extra "mine k_enter")
local macro_rules | `(tactic| k_ne) => `(tactic| k_extra "mine k_ne")
local macro_rules | `(tactic| k_mem) => `(tactic| k_extra "mine k_mem")
local macro_rules | `(tactic| k_room) => `(tactic| k_extra "mine k_room")
local macro_rules | `(tactic| k_all) => `(tactic| k_extra "mine k_all")
local macro_rules | `(tactic| kn_code) => `(tactic| k_extra "mine kn_code")
local macro_rules | `(tactic| walk_at "eval ListComp") => `(tactic| k_extra "eval ListComp")
local macro_rules | `(tactic| walk_at "SrcT") => `(tactic| k_extra "SrcT")
local macro_rules | `(tactic| walk_at "CompRest") => `(tactic| k_extra "CompRest")
local macro_rules | `(tactic| walk_at "CompEnd") => `(tactic| k_extra "CompEnd")
local macro_rules | `(tactic| walk_at "FinE") => `(tactic| k_extra "FinE")
local macro_rules | `(tactic| walk_at "subscriptTail") => `(tactic| k_extra "subscriptTail")
local macro_rules | `(tactic| walk_at "subscriptTail Name Constant ref int") => `(tactic| k_extra "subscriptTail Name Constant ref int")
local macro_rules | `(tactic| walk_at "subscriptTail Name Name ref int") => `(tactic| k_extra "subscriptTail Name Name ref int")
local macro_rules | `(tactic| walk_at "subscriptTail Subscript Name Constant Constant ref int") => `(tactic| k_extra "subscriptTail Subscript Name Constant Constant ref int")
local macro_rules | `(tactic| walk_at "subscriptTail Attribute Name Constant ref int") => `(tactic| k_extra "subscriptTail Attribute Name Constant ref int")
local macro_rules | `(tactic| walk_at "callWith ref") => `(tactic| k_extra "callWith ref")
local macro_rules | `(tactic| walk_at "call builtin:list.append") => `(tactic| k_extra "call builtin:list.append")
local macro_rules | `(tactic| walk_at "call ref") => `(tactic| k_extra "call ref")
local macro_rules | `(tactic| walk_at "KRet") => `(tactic| k_extra "KRet")
local macro_rules | `(tactic| walk_at "exec For Name Attribute cons nil") => `(tactic| k_extra "exec For Name Attribute cons nil")
local macro_rules | `(tactic| walk_at "exec For Name Subscript cons nil") => `(tactic| k_extra "exec For Name Subscript cons nil")
local macro_rules | `(tactic| walk_at "exec For Name Call cons nil") => `(tactic| k_extra "exec For Name Call cons nil")
local macro_rules | `(tactic| walk_at "exec For Name List cons nil") => `(tactic| k_extra "exec For Name List cons nil")
local macro_rules | `(tactic| walk_at "exec For Tuple Call cons nil") => `(tactic| k_extra "exec For Tuple Call cons nil")
local macro_rules | `(tactic| walk_at "pyIter ref") => `(tactic| k_extra "pyIter ref")
local macro_rules | `(tactic| walk_at "call type:zip") => `(tactic| k_extra "call type:zip")
local macro_rules | `(tactic| walk_at "call type:dict") => `(tactic| k_extra "call type:dict")
local macro_rules | `(tactic| walk_at "UnrEndW") => `(tactic| k_extra "UnrEndW")
local macro_rules | `(tactic| walk_at "setItem ref str") => `(tactic| k_extra "setItem ref str")
local macro_rules | `(tactic| walk_at "compareOp In str ref") => `(tactic| k_extra "compareOp In str ref")
local macro_rules | `(tactic| walk_at "getMethod ref") => `(tactic| k_extra "getMethod ref")
local macro_rules | `(tactic| walk_at "call builtin:dict.get") => `(tactic| k_extra "call builtin:dict.get")
local macro_rules | `(tactic| walk_at "SrcLP") => `(tactic| k_extra "SrcLP")
local macro_rules | `(tactic| walk_at "CompRestP") => `(tactic| k_extra "CompRestP")
local macro_rules | `(tactic| walk_at "execs cons Return") => `(tactic| k_extra "execs cons Return")
local macro_rules | `(tactic| walk_at "execs cons If") => `(tactic| k_extra "execs cons If")
local macro_rules | `(tactic| walk_at "execs cons Assign") => `(tactic| k_extra "execs cons Assign")
local macro_rules | `(tactic| walk_at "eval Name") => `(tactic| k_extra "eval Name")
local macro_rules | `(tactic| walk_at "eval Subscript") => `(tactic| k_extra "eval Subscript")
local macro_rules | `(tactic| walk_at "eval IfExp") => `(tactic| k_extra "eval IfExp")
local macro_rules | `(tactic| walk_at "isTrue Compare") => `(tactic| k_extra "isTrue Compare")
local macro_rules | `(tactic| walk_at "isTrue BoolOp") => `(tactic| k_extra "isTrue BoolOp")
local macro_rules | `(tactic| walk_at "eval Tuple") => `(tactic| k_extra "eval Tuple")
local macro_rules | `(tactic| walk_at "eval List") => `(tactic| k_extra "eval List")
local macro_rules | `(tactic| walk_at "eval Call Name cons") => `(tactic| k_extra "eval Call Name cons")
local macro_rules | `(tactic| walk_at "eval Call") => `(tactic| k_extra "eval Call")
local macro_rules | `(tactic| walk_at "spliced") => `(tactic| k_extra "spliced")
local macro_rules | `(tactic| walk_at "ite") => `(tactic| k_extra "ite")
local macro_rules | `(tactic| walk_at "eval Constant str") => `(tactic| k_extra "eval Constant str")
local macro_rules | `(tactic| walk_at "eval Constant int") => `(tactic| k_extra "eval Constant int")
local macro_rules | `(tactic| walk_at "newTuple") => `(tactic| k_extra "newTuple")
local macro_rules | `(tactic| walk_at "newList") => `(tactic| k_extra "newList")
local macro_rules | `(tactic| walk_at "subscriptTail Attribute Name Subscript ref str") => `(tactic| k_extra "subscriptTail Attribute Name Subscript ref str")
local macro_rules | `(tactic| walk_at "exec FunctionDef") => `(tactic| k_extra "exec FunctionDef")
local macro_rules | `(tactic| walk_at "storeName") => `(tactic| k_extra "storeName")
local macro_rules | `(tactic| walk_at "execs cons") => `(tactic| k_extra "execs cons")
local macro_rules | `(tactic| wrow_close) => `(tactic| k_extra "mine wrow_close")
local macro_rules | `(tactic| walk_at "subscriptTail Name Subscript ref str") => `(tactic| k_extra "subscriptTail Name Subscript ref str")
local macro_rules | `(tactic| walk_at "subscriptTail Attribute Subscript Name ref int") => `(tactic| k_extra "subscriptTail Attribute Subscript Name ref int")
local macro_rules | `(tactic| walk_at "subscriptTail Subscript Attribute Name Constant ref int") => `(tactic| k_extra "subscriptTail Subscript Attribute Name Constant ref int")
local macro_rules | `(tactic| walk_at "call builtin:list.extend") => `(tactic| k_extra "call builtin:list.extend")
local macro_rules | `(tactic| walk_at "compareOp NotIn ref ref") => `(tactic| k_extra "compareOp NotIn ref ref")
local macro_rules | `(tactic| walk_at "call builtin:len") => `(tactic| k_extra "call builtin:len")
local macro_rules | `(tactic| walk_at "call type:range") => `(tactic| k_extra "call type:range")
local macro_rules | `(tactic| walk_at "SrcN") => `(tactic| k_extra "SrcN")
local macro_rules | `(tactic| walk_at "NestRest") => `(tactic| k_extra "NestRest")
local macro_rules | `(tactic| walk_at "NestEnd") => `(tactic| k_extra "NestEnd")
local macro_rules | `(tactic| walk_at "binaryOp Add ref ref") => `(tactic| k_extra "binaryOp Add ref ref")
local macro_rules | `(tactic| walk_at "CompSrc") => `(tactic| k_extra "CompSrc")
local macro_rules | `(tactic| walk_at "call builtin:list.pop") => `(tactic| k_extra "call builtin:list.pop")
local macro_rules | `(tactic| walk_at "compareOp NotEq ref ref") => `(tactic| k_extra "compareOp NotEq ref ref")
local macro_rules | `(tactic| walk_at "last exec While") => `(tactic| k_extra "last exec While")
local macro_rules | `(tactic| walk_at "WhlRest") => `(tactic| k_extra "WhlRest")
local macro_rules | `(tactic| walk_at "subscriptTail Name Slice ref ref") => `(tactic| k_extra "subscriptTail Name Slice ref ref")
local macro_rules | `(tactic| walk_at "binaryOp Mult ref int") => `(tactic| k_extra "binaryOp Mult ref int")
local macro_rules | `(tactic| walk_at "last subscriptTail") => `(tactic| k_extra "last subscriptTail")
local macro_rules | `(tactic| walk_at "GrownAll") => `(tactic| k_extra "GrownAll")
theorem own_lines_1 : True := by
  (k_with "mine enter" =>
    first
      | ((first | (with_reducible refine' code_def ?q1k1 ?q1k2 ?q1k3 ?q1k4 ?q1k5 ?q1kA ?q1kF ?q1kK ?q1k6 ?q1k7 ?q1k8 ?q1k9 ?q1kB ?_ ?q1c2 ?q1c3 ?q1c4 ?q1c5) | refine' code_def ?q1k1 ?q1k2 ?q1k3 ?q1k4 ?q1k5 ?q1kA ?q1kF ?q1kK ?q1k6 ?q1k7 ?q1k8 ?q1k9 ?q1kB ?_ ?q1c2 ?q1c3 ?q1c4 ?q1c5); (case q1k2 => k_asm); (case q1k3 => k_asm); (case q1k6 => k_is); (case q1kA => exact rfl); (case q1kF => exact rfl); (case q1kK => first | exact rfl | assumption); (case q1k1 => k_asm); (case q1k4 => k_asm); (case q1k5 => k_asm); (case q1k7 => k_is); (case q1k8 => k_extra "mine ktr_room"); (case q1k9 => first | exact BindsTo.of_eq rfl | exact binds_K (by k_in) rfl (by k_is) rfl rfl rfl); (case q1c5 => decide); (case q1kB => exact locs rfl); (case q1c2 => exact rfl); (case q1c3 => exact rfl); (case q1c4 => exact rfl); k_whole; intro g' L' h' FG' F' N' B' X' T'; (try dsimp only); (try k_lift B'); (try k_fold))
      | ((first | (with_reducible refine' code_defC ?q1k1 ?q1k2 ?q1k3 ?q1k4 ?q1k5 ?q1kA ?q1kF ?q1kK ?q1k6 ?q1k7 ?q1k8 ?q1k9 ?q1kB ?q1kD ?_ ?q1c2 ?q1c3 ?q1c4) | refine' code_defC ?q1k1 ?q1k2 ?q1k3 ?q1k4 ?q1k5 ?q1kA ?q1kF ?q1kK ?q1k6 ?q1k7 ?q1k8 ?q1k9 ?q1kB ?q1kD ?_ ?q1c2 ?q1c3 ?q1c4); (case q1k2 => k_asm); (case q1k3 => k_asm); (case q1k6 => k_is); (case q1kA => exact rfl); (case q1kF => exact rfl); (case q1kK => first | exact rfl | assumption); (case q1k1 => k_asm); (case q1k4 => k_asm); (case q1k5 => k_asm); (case q1k7 => k_is); (case q1k8 => k_extra "mine ktr_room"); (case q1k9 => first | exact BindsTo.of_eq rfl | exact binds_K (by k_in) rfl (by k_is) rfl rfl rfl | fail "k_enter: no rule for these arguments"); (case q1kB => exact rfl); (case q1kD => decide +kernel); (case q1c2 => exact rfl); (case q1c3 => exact rfl); (case q1c4 => exact rfl); k_whole; intro Q9 g' L' h' tk' cells' hQ9 FG' F' N' Y' B' X' T' l1; (try k_lt l1); k_cells Y'; (try simp only [List.cons_append, List.nil_append] at N'); (try dsimp only); (try k_lift B'); (try k_fold)))
  (k_with "mine offl" =>
    first
      | exact Off.mono (off_lt (by with_reducible assumption)) (by k_extra "mine kfm_turns")
      | exact Off.mono (off_1 (by with_reducible assumption)) (by k_extra "mine kfm_turns")
      | exact Off.mono (off_lt1 (by with_reducible assumption)) (by k_extra "mine kfm_turns")
      | exact Off.mono (off_p2 (by with_reducible assumption)) (by k_extra "mine kfm_turns")
      | exact Off.mono (off_p3 (by with_reducible assumption)) (by k_extra "mine kfm_turns")
      | exact Off.mono (by with_reducible assumption) (by k_extra "mine kfm_turns"))
  (k_with "mine pullc" =>
    ((repeat (first | (with_reducible exact PullC.head) | (with_reducible apply PullC.tail) | (with_reducible apply PullC.app))); done))
  (k_with "mine offc" =>
    first
      | (with_reducible assumption)
      | ((with_reducible refine offc_cons ?_ ?_); rotate_left; (focus exact offa (by k_extra "mine offl")); k_extra "mine offc")
      | ((with_reducible refine offc_app ?_ ?_); (focus (with_reducible assumption)); k_extra "mine offc"))
  (k_with "mine k_enter" =>
    k_extra "mine enter")
  trivial
local macro_rules | `(tactic| k_lt $h:ident) => `(tactic| replace $h := allLt_of $h)
theorem own_lines_2 : True := by
  (k_with "mine k_ne" =>
    k_extra "mine tlg_ne")
  (k_with "mine kct_strs" =>
    first
      | (with_reducible exact List.mem_cons_self)
      | ((with_reducible refine List.mem_cons_of_mem _ ?_); k_extra "mine kct_strs")
      | ((with_reducible refine mem_app_id ?_); first
        | (with_reducible assumption)
        | ((with_reducible refine List.mem_append_right _ ?_); k_extra "mine kct_strs")
        | ((with_reducible refine mem_swap (by with_reducible assumption) ?_); k_extra "mine kfm_turns")
        | ((with_reducible refine List.mem_append_left _ ?_); k_extra "mine kct_strs"))
      | ((fail_if_success (with_reducible refine mem_cons_id ?_)); (fail_if_success (with_reducible refine mem_app_id ?_)); first
        | (with_reducible assumption)
        | ((with_reducible refine sub_use (by with_reducible assumption) ?_); k_extra "mine kct_strs")))
  (k_with "mine lsm_bools" =>
    first
      | (with_reducible assumption)
      | k_extra "mine kct_strs")
  (k_with "mine k_mem" =>
    k_extra "mine lsm_bools")
  (k_with "mine k_room" =>
    k_extra "mine ktr_room")
  (k_with "mine k_all" =>
    exact Off.all (by k_extra "mine kat_tups"))
  (k_with "mine kn_code" =>
    exact CodeHd.keeps (by assumption) (Fr.keep (by assumption)))
  (k_with "mine nest" =>
    ((first | (with_reducible refine' code_nest ?q13k1 ?q13k2 ?q13k3 ?q13k4 ?q13k5 ?q13kA ?q13kF ?q13kK ?q13k6 ?q13k7 ?q13k8 ?q13k9 ?q13kB ?_ ?q13c2 ?q13c3 ?q13c4 ?q13c5) | refine' code_nest ?q13k1 ?q13k2 ?q13k3 ?q13k4 ?q13k5 ?q13kA ?q13kF ?q13kK ?q13k6 ?q13k7 ?q13k8 ?q13k9 ?q13kB ?_ ?q13c2 ?q13c3 ?q13c4 ?q13c5); (case q13kA => exact rfl); (case q13kF => exact rfl); (case q13kK => first | exact rfl | assumption); (case q13k1 => k_asm); (case q13k2 => k_asm); (case q13k3 => k_asm); (case q13k4 => k_asm); (case q13k5 => k_asm); (case q13k6 => k_extra "mine lsm_bools"); (case q13k7 => exact codeRec_news (by k_asm) (by k_extra "mine lsm_bools") (by assumption) (by assumption)); (case q13k8 => k_room); (case q13k9 => exact BindsTo.of_eq rfl); (case q13c5 => decide); (case q13kB => exact locs rfl); (case q13c2 => exact rfl); (case q13c3 => exact rfl); (case q13c4 => exact rfl); k_whole; intro g' L' h' FG' F' N' B' X' T'; (try dsimp only); (try k_lift B'); (try k_fold)))
  (k_with "mine note" =>
    (unfold NoteOk; intro dp9 un9 gd9 cn9 cs9 a9 ccd9 cl9 outer9 A9 base9 hh9 L9 m9 s9 led9 xs9 n9 rv9 Q9 E9 B9 F9 X9 N9 hoff9 hsub9 T9 hk9 rd9 ru9 hz9 hret9; refine wpAny_call ?_; k_dflt (k_extra "mine nest"); k_steps; exact hret9 _ _ (by k_asm) (by k_asm)))
  (k_with "eval ListComp" =>
    (k_here; k_dflt (refine ListComp_T (F₀ := by k_asm) (by with_unfolding_all rfl) (by decide) (by rfl) (by decide) (by rfl) ?_)))
  (k_with "SrcT" =>
    (k_here; k_dflt (refine SrcT.intro (by rfl) (by k_asm) (by k_asm) (by k_mem) (by exact Nat.le_of_ble_eq_true rfl) ?_; intro g'; lcg_lit)))
  (k_with "CompRest" =>
    (with_unfolding_all first
      | ((first | (with_reducible refine' comp_succ ?q17hv ?_) | refine' comp_succ ?q17hv ?_); (case q17hv => exact rfl); intro Q9 I' oI' C' oC' D' m' h' tk' hQ9 hC' hx' F' N' oI9 oC9 oD9 ne')
      | refine LCg.CompRest.zero ?_))
  (k_with "CompEnd" =>
    ((first | refine compEnd_up (by k_asm) (by k_asm) (by assumption) (by assumption) (by first | exact Or.inr ⟨_, by k_mem, rfl, _, rfl⟩ | k_mem) ?_ | refine compEnd_0 (by k_asm) (by k_asm) (by assumption) (by first | exact Or.inr ⟨_, by k_mem, rfl, _, rfl⟩ | k_mem) ?_ | ((first | (with_reducible refine' compEnd_pull ?q18F ?q18N ?q18p1 ?q18p2 ?q18p3 ?q18o1 ?q18o2 ?q18o3 ?q18S ?_) | refine' compEnd_pull ?q18F ?q18N ?q18p1 ?q18p2 ?q18p3 ?q18o1 ?q18o2 ?q18o3 ?q18S ?_); (case q18F => k_asm); (case q18N => k_asm); (case q18p1 => k_extra "mine kpc_turns"); (case q18p2 => k_extra "mine kpc_turns"); (case q18p3 => (first | k_extra "mine kpc_turns" | (simp only [List.nil_append, List.cons_append]; k_extra "mine kpc_turns"))); (case q18o1 => k_extra "mine kat_tups"); (case q18o2 => k_extra "mine kat_tups"); (case q18o3 => k_extra "mine kat_tups"); (case q18S => (first | exact Or.inr ⟨_, by k_mem, rfl, _, rfl⟩ | k_mem)))); (try dsimp only)))
  (k_with "FinE" =>
    ((unfold LCg.FinE); intro D' h' tk' F' N' o1'; (try simp only [List.nil_append, List.cons_append] at N'); (try dsimp only)))
  (k_with "mine kfm_turns" =>
    first
      | (with_reducible assumption)
      | (with_reducible exact sub_refl)
      | (with_reducible exact sub_here)
      | ((with_reducible refine sub_cons ?_); k_extra "mine kfm_turns")
      | ((with_reducible refine sub_app ?_); k_extra "mine kfm_turns")
      | ((with_reducible refine sub_appL ?_ ?_) <;> k_extra "mine kfm_turns")
      | ((with_reducible refine sub_left ?_); k_extra "mine kfm_turns"))
  (k_with "mine apart" =>
    first
      | assumption
      | (refine ap_cons (x := ?_) ?_; rotate_left; k_extra "mine apart"))
  (k_with "mine kbo_bools" =>
    first
      | (with_reducible assumption)
      | exact Apart.mono (by with_reducible assumption) (by k_extra "mine kfm_turns"))
  (k_with "mine keq_rows" =>
    first
      | (with_reducible assumption)
      | exact Off.mono (off_lt (by with_reducible assumption)) (by k_extra "mine kfm_turns")
      | exact Off.mono (off_1 (by with_reducible assumption)) (by k_extra "mine kfm_turns")
      | exact Off.mono (off_lt1 (by with_reducible assumption)) (by k_extra "mine kfm_turns")
      | exact Off.mono (off_p2 (by with_reducible assumption)) (by k_extra "mine kfm_turns")
      | exact Off.mono (off_p3 (by with_reducible assumption)) (by k_extra "mine kfm_turns")
      | exact Off.mono (off_lt2 (by with_reducible assumption) (by with_reducible assumption)) (by k_extra "mine kfm_turns")
      | k_extra "mine kat_tups")
  (k_with "mine keq_hits" =>
    ((repeat (first | (with_reducible exact Ext.base) | ((with_reducible apply Ext.cons); rotate_left; (focus (first | (with_reducible assumption) | exact Off.mono (off_lt (by with_reducible assumption)) (by k_extra "mine kfm_turns") | exact Off.mono (off_1 (by with_reducible assumption)) (by k_extra "mine kfm_turns") | exact Off.mono (off_lt1 (by with_reducible assumption)) (by k_extra "mine kfm_turns") | exact Off.mono (off_p2 (by with_reducible assumption)) (by k_extra "mine kfm_turns") | exact Off.mono (off_p3 (by with_reducible assumption)) (by k_extra "mine kfm_turns") | exact Off.mono (off_lt2 (by with_reducible assumption) (by with_reducible assumption)) (by k_extra "mine kfm_turns") | k_extra "mine kat_tups")); rotate_right) | ((with_reducible apply Ext.app); rotate_left; (focus k_extra "mine kbo_bools"); rotate_right))); done))
  (k_with "mine reg" =>
    first
      | (with_reducible assumption)
      | exact RegIs.none)
  (k_with "mine same" =>
    exact TyIn.mono (by with_reducible assumption) (by k_extra "mine kfm_turns"))
  (k_with "mine byte" =>
    ((first | (with_reducible refine' TyIn.byte ?q27m1) | refine' TyIn.byte ?q27m1); (case q27m1 => k_extra "mine lsm_bools")))
  (k_with "mine par" =>
    ((first | (with_reducible refine' TyIn.par ?q28m1) | refine' TyIn.par ?q28m1); (case q28m1 => k_extra "mine lsm_bools")))
  (k_with "mine ref" =>
    ((first | (with_reducible refine' TyIn.ref ?q29m1 ?q29t1 ?q29t2) | refine' TyIn.ref ?q29m1 ?q29t1 ?q29t2); (case q29m1 => k_extra "mine lsm_bools"); (case q29t1 => k_extra "mine reg"); (case q29t2 => k_extra "mine same")))
  (k_with "mine box" =>
    ((first | (with_reducible refine' TyIn.box ?q30m1 ?q30t2) | refine' TyIn.box ?q30m1 ?q30t2); (case q30m1 => k_extra "mine lsm_bools"); (case q30t2 => k_extra "mine same")))
  (k_with "mine arr" =>
    ((first | (with_reducible refine' TyIn.arr ?q31m1 ?q31t2) | refine' TyIn.arr ?q31m1 ?q31t2); (case q31m1 => k_extra "mine lsm_bools"); (case q31t2 => k_extra "mine same")))
  (k_with "mine pair" =>
    ((first | (with_reducible refine' TyIn.pair ?q32m1 ?q32m2 ?q32t1 ?q32t2) | refine' TyIn.pair ?q32m1 ?q32m2 ?q32t1 ?q32t2); (case q32m1 => k_extra "mine lsm_bools"); (case q32m2 => k_extra "mine lsm_bools"); (case q32t1 => k_extra "mine same"); (case q32t2 => k_extra "mine same")))
  (k_with "mine g" =>
    ((first | (with_reducible refine' TyIn.g ?q33m1 ?q33m2 ?q33m3 ?q33t1) | refine' TyIn.g ?q33m1 ?q33m2 ?q33m3 ?q33t1); (case q33m1 => k_extra "mine lsm_bools"); (case q33m2 => k_extra "mine lsm_bools"); (case q33m3 => k_extra "mine lsm_bools"); (case q33t1 => k_extra "mine reg")))
  (k_with "mine ad" =>
    ((first | (with_reducible refine' TyIn.ad ?q34m1 ?q34m2 ?q34m3 ?q34t1 ?q34t2) | refine' TyIn.ad ?q34m1 ?q34m2 ?q34m3 ?q34t1 ?q34t2); (case q34m1 => k_extra "mine lsm_bools"); (case q34m2 => k_extra "mine lsm_bools"); (case q34m3 => k_extra "mine lsm_bools"); (case q34t1 => k_extra "mine reg"); (case q34t2 => k_extra "mine same")))
  (k_with "mine item" =>
    (k_here; (with_reducible show wpAny _ _ (subscriptTail _ _ (Value.ref _) (Value.int _ _)) _ _ _); k_dflt (first
      | ((first | (with_reducible refine' item_tupleT ?q35t ?q35a ?q35b ?q35c ?q35d ?_) | refine' item_tupleT ?q35t ?q35a ?q35b ?q35c ?q35d ?_); (case q35t => exact News.isTup (by k_asm) (by k_extra "mine lsm_bools")); (case q35a => decide); (case q35b => decide); (case q35c => rfl); (case q35d => rfl); k_whole)
      | ((first | (with_reducible refine' item_listV ?q35N ?q35m ?q35a ?q35b ?q35c ?_) | refine' item_listV ?q35N ?q35m ?q35a ?q35b ?q35c ?_); (case q35N => k_asm); (case q35m => k_extra "mine lsm_bools"); (case q35a => decide); (case q35b => decide); (case q35c => rfl); k_whole))))
  (k_with "subscriptTail" =>
    k_extra "mine item")
  (k_with "subscriptTail Name Constant ref int" =>
    k_extra "mine item")
  (k_with "subscriptTail Name Name ref int" =>
    k_extra "mine item")
  (k_with "subscriptTail Subscript Name Constant Constant ref int" =>
    k_extra "mine item")
  (k_with "subscriptTail Attribute Name Constant ref int" =>
    k_extra "mine item")
  (k_with "mine kpc_turns" =>
    ((repeat (first | (with_reducible exact Pull.head) | (with_reducible apply Pull.tail) | (with_reducible apply Pull.app))); done))
  (k_with "mine tlg_ne" =>
    first | (with_reducible assumption) | exact Ne.symm (by with_reducible assumption) | exact Ne.symm (ne_lt (by with_reducible assumption) (by k_extra "mine lsm_bools")) | exact ne_lt (by with_reducible assumption) (by k_extra "mine lsm_bools") | exact ne_lt1 (by with_reducible assumption) (by k_extra "mine lsm_bools") | exact Ne.symm (ne_lt1 (by with_reducible assumption) (by k_extra "mine lsm_bools")) | exact ne_p2 (by with_reducible assumption) (by k_extra "mine lsm_bools") | exact ne_p3 (by with_reducible assumption) (by k_extra "mine lsm_bools") | exact Ne.symm (ne_p2 (by with_reducible assumption) (by k_extra "mine lsm_bools")) | exact Ne.symm (ne_p3 (by with_reducible assumption) (by k_extra "mine lsm_bools")) | exact ne_o1 (by with_reducible assumption) (by k_extra "mine lsm_bools") | exact Ne.symm (ne_o1 (by with_reducible assumption) (by k_extra "mine lsm_bools")) | exact Off.ne (by with_reducible assumption) (by k_extra "mine lsm_bools") | exact Ne.symm (Off.ne (by with_reducible assumption) (by k_extra "mine lsm_bools")) | exact ne_lt2 (by with_reducible assumption) (by with_reducible assumption) (by k_extra "mine lsm_bools") | exact Ne.symm (ne_lt2 (by with_reducible assumption) (by with_reducible assumption) (by k_extra "mine lsm_bools")) | (refine neN ?_; (try dsimp only); lia))
  (k_with "mine kat_tups" =>
    ((repeat (first | (with_reducible exact off_nil) | (with_reducible assumption) | exact off_lt (by with_reducible assumption) | exact off_1 (by with_reducible assumption) | exact off_lt1 (by with_reducible assumption) | exact off_p2 (by with_reducible assumption) | exact off_p3 (by with_reducible assumption) | ((with_reducible refine off_cons ?_ ?_); focus (first | (with_reducible assumption) | exact Ne.symm (by with_reducible assumption) | exact Ne.symm (ne_lt (by with_reducible assumption) (by k_extra "mine lsm_bools")) | exact ne_lt (by with_reducible assumption) (by k_extra "mine lsm_bools") | exact ne_lt1 (by with_reducible assumption) (by k_extra "mine lsm_bools") | exact Ne.symm (ne_lt1 (by with_reducible assumption) (by k_extra "mine lsm_bools")) | exact ne_p2 (by with_reducible assumption) (by k_extra "mine lsm_bools") | exact ne_p3 (by with_reducible assumption) (by k_extra "mine lsm_bools") | exact Ne.symm (ne_p2 (by with_reducible assumption) (by k_extra "mine lsm_bools")) | exact Ne.symm (ne_p3 (by with_reducible assumption) (by k_extra "mine lsm_bools")) | exact ne_o1 (by with_reducible assumption) (by k_extra "mine lsm_bools") | exact Ne.symm (ne_o1 (by with_reducible assumption) (by k_extra "mine lsm_bools")) | exact Off.ne (by with_reducible assumption) (by k_extra "mine lsm_bools") | exact Ne.symm (Off.ne (by with_reducible assumption) (by k_extra "mine lsm_bools")) | exact ne_lt2 (by with_reducible assumption) (by with_reducible assumption) (by k_extra "mine lsm_bools") | exact Ne.symm (ne_lt2 (by with_reducible assumption) (by with_reducible assumption) (by k_extra "mine lsm_bools")) | (refine neN ?_; (try dsimp only); lia))) | ((with_reducible refine off_app ?_ ?_); focus k_extra "mine kat_tups") | exact off_ap (by with_reducible assumption) (by k_extra "mine lsm_bools") | exact Off.mono (off_lt (by with_reducible assumption)) (by k_extra "mine kfm_turns") | exact Off.mono (off_1 (by with_reducible assumption)) (by k_extra "mine kfm_turns") | exact Off.mono (off_lt1 (by with_reducible assumption)) (by k_extra "mine kfm_turns") | exact Off.mono (off_p2 (by with_reducible assumption)) (by k_extra "mine kfm_turns") | exact Off.mono (off_p3 (by with_reducible assumption)) (by k_extra "mine kfm_turns") | exact Off.mono (by with_reducible assumption) (by k_extra "mine kfm_turns") | exact off_cell (by k_extra "mine offl"))); done))
  (k_with "callWith ref" =>
    (k_here; k_dflt ((first | (with_reducible refine' callWith_F ?q44k1 ?_) | refine' callWith_F ?q44k1 ?_); (case q44k1 => exact FnAt.of (by k_asm) (by k_extra "mine lsm_bools")); k_whole)))
  (k_with "call builtin:list.append" =>
    (k_here; (with_reducible show wpAny _ _ (call (Value.builtin _) [Value.ref _, _]) _ _ _); k_dflt ((first | (with_reducible refine' append_pull ?q45F ?q45N ?q45P ?q45O ?q45z ?_) | refine' append_pull ?q45F ?q45N ?q45P ?q45O ?q45z ?_); (case q45F => k_asm); (case q45N => k_asm); (case q45P => k_extra "mine kpc_turns"); (case q45O => k_extra "mine kat_tups"); (case q45z => ((try simp only [List.length_append, List.length_cons, List.length_nil]); lia)); k_whole); intro h' F' N'; (try k_sweep)))
  (k_with "callWith ref" =>
    (k_here; k_dflt (first
      | ((first | (with_reducible refine' callWith_K ?q46k1 ?q46k2 ?_) | refine' callWith_K ?q46k1 ?q46k2 ?_); (case q46k1 => k_asm); (case q46k2 => k_is); k_whole)
      | ((first | (with_reducible refine' callWith_0 ?q46k0 ?q46k1 ?q46k2 ?_) | refine' callWith_0 ?q46k0 ?q46k1 ?q46k2 ?_); (case q46k0 => k_asm); (case q46k1 => k_asm); (case q46k2 => k_is); k_whole))))
  (k_with "mine in" =>
    first
      | ((first | (with_reducible refine' call_def ?q47k1 ?q47k2 ?q47k3 ?q47k4 ?q47k5 ?q47kA ?q47kF ?q47kK ?q47k6 ?q47k7 ?q47k8 ?q47k9 ?q47kB ?_ ?q47c2 ?q47c3 ?q47c4 ?q47c5) | refine' call_def ?q47k1 ?q47k2 ?q47k3 ?q47k4 ?q47k5 ?q47kA ?q47kF ?q47kK ?q47k6 ?q47k7 ?q47k8 ?q47k9 ?q47kB ?_ ?q47c2 ?q47c3 ?q47c4 ?q47c5); (case q47k2 => k_asm); (case q47k3 => k_asm); (case q47k6 => k_is); (case q47kA => exact rfl); (case q47kF => exact rfl); (case q47kK => first | exact rfl | assumption); (case q47k1 => k_asm); (case q47k4 => k_asm); (case q47k5 => k_asm); (case q47k7 => k_is); (case q47k8 => k_extra "mine ktr_room"); (case q47k9 => first | exact BindsTo.of_eq rfl | exact binds_K (by k_in) rfl (by k_is) rfl rfl rfl); (case q47c5 => decide); (case q47kB => exact locs rfl); (case q47c2 => exact rfl); (case q47c3 => exact rfl); (case q47c4 => exact rfl); k_whole; intro Q9 g' L' h' tk' hQ9 FG' F' N' B' X' T'; (try k_lift B'))
      | ((first | (with_reducible refine' call_defC ?q47k1 ?q47k2 ?q47k3 ?q47k4 ?q47k5 ?q47kA ?q47kF ?q47kK ?q47k6 ?q47k7 ?q47k8 ?q47k9 ?q47kB ?q47kD ?_ ?q47c2 ?q47c3 ?q47c4) | refine' call_defC ?q47k1 ?q47k2 ?q47k3 ?q47k4 ?q47k5 ?q47kA ?q47kF ?q47kK ?q47k6 ?q47k7 ?q47k8 ?q47k9 ?q47kB ?q47kD ?_ ?q47c2 ?q47c3 ?q47c4); (case q47k2 => k_asm); (case q47k3 => k_asm); (case q47k6 => k_is); (case q47kA => exact rfl); (case q47kF => exact rfl); (case q47kK => first | exact rfl | assumption); (case q47k1 => k_asm); (case q47k4 => k_asm); (case q47k5 => k_asm); (case q47k7 => k_is); (case q47k8 => k_extra "mine ktr_room"); (case q47k9 => first | exact BindsTo.of_eq rfl | exact binds_K (by k_in) rfl (by k_is) rfl rfl rfl | fail "k_enter: no rule for these arguments"); (case q47kB => exact rfl); (case q47kD => decide +kernel); (case q47c2 => exact rfl); (case q47c3 => exact rfl); (case q47c4 => exact rfl); k_whole; intro Q9 g' L' h' tk' cells' hQ9 FG' F' N' Y' B' X' T' l1; k_cells Y'; (try simp only [List.cons_append, List.nil_append] at N'); (try dsimp only)))
  (k_with "call ref" =>
    (k_here; k_dflt (k_extra "mine in")))
  (k_with "KRet" =>
    ((first
      | (k_dflt ((first | (with_reducible refine' kret_ ?q49kQ ?q49k1 ?q49k2 ?_) | refine' kret_ ?q49kQ ?q49k1 ?q49k2 ?_); (case q49kQ => with_reducible assumption); (case q49k1 => k_asm); (case q49k2 => k_asm); k_whole); (try (rename Frag.In _ _ => cX9; clear cX9)); (try (rename Top _ _ _ _ _ _ => cT9; clear cT9)); (try (rename Below _ _ _ _ => cB9; clear cB9)); (try (rename Fr _ _ _ _ => cF9; clear cF9)); (try (rename News _ _ _ _ => cN9; clear cN9)); intro kF kN)
      | (k_dflt ((first | (with_reducible refine' kret_n ?q49kQ2 ?q49k3 ?q49k4 ?_) | refine' kret_n ?q49kQ2 ?q49k3 ?q49k4 ?_); (case q49kQ2 => with_reducible assumption); (case q49k3 => k_asm); (case q49k4 => k_asm); k_whole); (try (rename Frag.In _ _ => cX9; clear cX9)); (try (rename Top _ _ _ _ _ _ => cT9; clear cT9)); (try (rename Below _ _ _ _ => cB9; clear cB9)); (try (rename Fr _ _ _ _ => cF9; clear cF9)); (try (rename News _ _ _ _ => cN9; clear cN9)); intro kF kN)); (try k_sweep); (try dsimp only)))
  (k_with "mine for" =>
    (k_here; (rename Fr _ _ _ _ => lF'); (with_unfolding_all refine' For_turns lF' ?_; k_whole)))
  (k_with "exec For Name Attribute cons nil" =>
    k_extra "mine for")
  (k_with "exec For Name Subscript cons nil" =>
    k_extra "mine for")
  (k_with "exec For Name Call cons nil" =>
    k_extra "mine for")
  (k_with "exec For Name List cons nil" =>
    k_extra "mine for")
  (k_with "exec For Tuple Call cons nil" =>
    k_extra "mine for")
  (k_with "pyIter ref" =>
    (k_here; (with_reducible show wpAny _ _ (pyIter (Value.ref _)) (fun it s₂ => TurnsAt _ _ _ _ _ _ _ _ _ it s₂) _ _); (first
      | ((first | (with_reducible refine' iter_listTurns ?q56hh ?q56hF ?q56hN ?q56hm ?q56hc ?q56hd ?_) | refine' iter_listTurns ?q56hh ?q56hF ?q56hN ?q56hm ?q56hc ?q56hd ?_); (case q56hh => rfl); (case q56hF => k_asm); (case q56hN => k_asm); (case q56hm => k_extra "mine lsm_bools"); (case q56hc => rfl); (case q56hd => rfl); k_whole)
      | ((first | (with_reducible refine' iter_tupTurns ?q56hh ?q56hF ?q56hN ?q56hm ?q56hc ?q56hd ?_) | refine' iter_tupTurns ?q56hh ?q56hF ?q56hN ?q56hm ?q56hc ?q56hd ?_); (case q56hh => rfl); (case q56hF => k_asm); (case q56hN => k_asm); (case q56hm => k_extra "mine lsm_bools"); (case q56hc => rfl); (case q56hd => rfl); k_whole)); intro i' l1; (try k_lt l1)))
  (k_with "call type:zip" =>
    (k_here; (with_reducible show wpAny _ _ (call (Value.type _) [Value.ref _, Value.ref _]) _ _ _); k_dflt ((first | (with_reducible refine' zipT_call ?q57F ?q57N ?q57m1 ?q57m2 ?_) | refine' zipT_call ?q57F ?q57N ?q57m1 ?q57m2 ?_); (case q57F => k_asm); (case q57N => k_asm); (case q57m1 => k_extra "mine lsm_bools"); (case q57m2 => k_extra "mine lsm_bools"); k_whole); intro I' h' F' N' l1 lL' lS' l0'))
  (k_with "call type:dict" =>
    (k_here; k_dflt ((first | (with_reducible refine' dictZip_call ?q58hh ?q58F ?q58N ?q58m1 ?q58m2 ?q58lt ?q58hL ?q58hI ?q58h0 ?q58hb ?_) | refine' dictZip_call ?q58hh ?q58F ?q58N ?q58m1 ?q58m2 ?q58lt ?q58hL ?q58hI ?q58h0 ?q58hb ?_); (case q58hh => rfl); (case q58F => k_asm); (case q58N => k_asm); (case q58m1 => k_extra "mine lsm_bools"); (case q58m2 => k_extra "mine lsm_bools"); (case q58lt => assumption); (case q58hL => assumption); (case q58hI => assumption); (case q58h0 => assumption); (case q58hb => exact Top.nolimit (by k_asm)); k_whole); intro d' o' h' tk' F' N' l1 lo' hd'))
  (k_with "call type:zip" =>
    (k_here; (with_reducible show wpAny _ _ (call (Value.type _) [Value.ref _, Value.ref _]) (fun xv s₁ => wpAny _ _ (pyIter xv) (fun it s₂ => TurnsAt _ _ _ _ _ _ _ _ _ it s₂) _ s₁) _ _); k_dflt ((first | (with_reducible refine' forZip ?q59hh ?q59hF ?q59hN ?q59m1 ?q59m2 ?q59hn ?_) | refine' forZip ?q59hh ?q59hF ?q59hN ?q59m1 ?q59m2 ?q59hn ?_); (case q59hh => rfl); (case q59hF => k_asm); (case q59hN => k_asm); (case q59m1 => k_extra "mine lsm_bools"); (case q59m2 => k_extra "mine lsm_bools"); (case q59hn => rfl); k_whole); intro i' l1))
  (k_with "mine kaf_pre" =>
    first
      | (with_reducible exact Pulls.nil)
      | ((with_reducible refine' Pulls.cons ?q60p ?q60q); (case q60p => k_extra "mine kpc_turns"); (case q60q => k_extra "mine kaf_pre")))
  (k_with "mine kaf_suf" =>
    first
      | (with_reducible exact offs_nil)
      | ((with_reducible refine' offs_cons ?q61p ?q61q); (case q61p => k_extra "mine kat_tups"); (case q61q => k_extra "mine kaf_suf")))
  (k_with "mine subL" =>
    first
      | (with_reducible exact subL_nil)
      | ((with_reducible refine' subL_cons ?q62p ?q62q); (case q62p => k_extra "mine lsm_bools"); (case q62q => k_extra "mine subL")))
  (k_with "UnrEndW" =>
    ((first | (with_reducible refine' unrEnd ?q63hF ?q63hN ?q63P ?q63O ⟨?q63S, ?_⟩) | refine' unrEnd ?q63hF ?q63hN ?q63P ?q63O ⟨?q63S, ?_⟩); (case q63hF => k_asm); (case q63hN => k_asm); (case q63P => k_extra "mine kaf_pre"); (case q63O => k_extra "mine kaf_suf"); (case q63S => k_extra "mine subL"); k_whole))
  (k_with "setItem ref str" =>
    (k_here; k_dflt ((first | (with_reducible refine' set_pull (knd := PySem.strKind _ _) ?q64F ?q64N ?q64P ?q64O ?q64d (strKind_is _ _ _ _) ?q64z ?_) | refine' set_pull (knd := PySem.strKind _ _) ?q64F ?q64N ?q64P ?q64O ?q64d (strKind_is _ _ _ _) ?q64z ?_); (case q64F => k_asm); (case q64N => k_asm); (case q64P => k_extra "mine kpc_turns"); (case q64O => k_extra "mine kat_tups"); (case q64d => with_reducible assumption); (case q64z => kob_size); k_whole); intro h' o' F' N' hd'; (try kob_lit)))
  (k_with "mine dict" =>
    (k_here; (with_reducible show wpAny _ _ (subscriptTail _ _ (Value.ref _) (Value.str _ _)) _ _ _); k_dflt ((first | (with_reducible refine' kda_item (knd := PySem.strKind _ _) ?q65N ?q65m ?q65d (strKind_is _ _ _ _) ?q65l ?_) | refine' kda_item (knd := PySem.strKind _ _) ?q65N ?q65m ?q65d (strKind_is _ _ _ _) ?q65l ?_); (case q65N => k_asm); (case q65m => k_extra "mine lsm_bools"); (case q65d => with_reducible assumption); (case q65l => rfl); k_whole)))
  (k_with "subscriptTail" =>
    k_extra "mine dict")
  (k_with "compareOp In str ref" =>
    (k_here; k_dflt (first
      | ((first | (with_reducible refine' kda_in (knd := PySem.strKind _ _) ?q67N ?q67m ?q67d ?q67s (strKind_is _ _ _ _) true ?q67b ?_) | refine' kda_in (knd := PySem.strKind _ _) ?q67N ?q67m ?q67d ?q67s (strKind_is _ _ _ _) true ?q67b ?_); (case q67N => k_asm); (case q67m => k_extra "mine lsm_bools"); (case q67d => with_reducible assumption); (case q67s => with_reducible assumption); (case q67b => rfl); k_whole)
      | ((first | (with_reducible refine' kda_in (knd := PySem.strKind _ _) ?q67N ?q67m ?q67d ?q67s (strKind_is _ _ _ _) false ?q67b ?_) | refine' kda_in (knd := PySem.strKind _ _) ?q67N ?q67m ?q67d ?q67s (strKind_is _ _ _ _) false ?q67b ?_); (case q67N => k_asm); (case q67m => k_extra "mine lsm_bools"); (case q67d => with_reducible assumption); (case q67s => with_reducible assumption); (case q67b => rfl); k_whole))))
  (k_with "getMethod ref" =>
    (k_here; (with_reducible show wpAny _ _ (getMethod (Value.ref _) (Str.ofString "get") _) _ _ _); k_dflt ((first | (with_reducible refine' kdg_method (knd := PySem.strKind _ _) ?q68N ?q68m ?q68d ?_) | refine' kdg_method (knd := PySem.strKind _ _) ?q68N ?q68m ?q68d ?_); (case q68N => k_asm); (case q68m => k_extra "mine lsm_bools"); (case q68d => with_reducible assumption); k_whole)))
  (k_with "call builtin:dict.get" =>
    (k_here; k_dflt (first
      | ((first | (with_reducible refine' kdg_get2 (knd := PySem.strKind _ _) ?q69N ?q69m ?q69d ?q69s (strKind_is _ _ _ _) (some _) ?q69b ?_) | refine' kdg_get2 (knd := PySem.strKind _ _) ?q69N ?q69m ?q69d ?q69s (strKind_is _ _ _ _) (some _) ?q69b ?_); (case q69N => k_asm); (case q69m => k_extra "mine lsm_bools"); (case q69d => with_reducible assumption); (case q69s => with_reducible assumption); (case q69b => rfl); k_whole)
      | ((first | (with_reducible refine' kdg_get2 (knd := PySem.strKind _ _) ?q69N ?q69m ?q69d ?q69s (strKind_is _ _ _ _) none ?q69b ?_) | refine' kdg_get2 (knd := PySem.strKind _ _) ?q69N ?q69m ?q69d ?q69s (strKind_is _ _ _ _) none ?q69b ?_); (case q69N => k_asm); (case q69m => k_extra "mine lsm_bools"); (case q69d => with_reducible assumption); (case q69s => with_reducible assumption); (case q69b => rfl); k_whole)); (try dsimp only [Option.getD])))
  (k_with "eval ListComp" =>
    (k_here; lcp_look; k_dflt (refine LCp.ListComp_P (F₀ := by k_asm) (by with_unfolding_all rfl) (by decide) (by rfl) (by decide) (by rfl) (by rfl) (by decide) ?_)))
  (k_with "SrcLP" =>
    (k_here; k_dflt ((first | (with_reducible refine' LCp.SrcLP.ledger ?q71hh ?q71hF ?q71hN ?q71hm ?q71hs ?_) | refine' LCp.SrcLP.ledger ?q71hh ?q71hF ?q71hN ?q71hm ?q71hs ?_); (case q71hh => rfl); (case q71hF => k_asm); (case q71hN => k_asm); (case q71hm => k_extra "mine lsm_bools"); (case q71hs => first | size_fits | exact Nat.le_of_ble_eq_true rfl)); intro g'; lcp_lit))
  (k_with "CompRestP" =>
    (with_unfolding_all first
      | ((first | (with_reducible refine' compP_succ ?q72hv ?q72ht ?_) | refine' compP_succ ?q72hv ?q72ht ?_); (case q72hv => exact rfl); (case q72ht => k_extra "mine lsm_bools"); intro Q9 I' oI' C' oC' D' m' h' tk' hQ9 hC' hx' hy' F' N' oI9 oC9 oD9 ne')
      | refine LCp.CompRestP.zero ?_))
  (k_with "mine ktr_room" =>
    ((simp only [ktr_dp, Ty.deep, depth_in1, depth_deeper, depth_caller]); lia))
  (k_with "mine ktr_units" =>
    ((simp only [ktr_un, Ty.deep, units_in1, units_deeper, units_caller, Around.mark_units]); lia))
  (k_with "mine dec" =>
    first
      | (with_reducible assumption)
      | ((refine bF ?_); decide +kernel)
      | ((refine bT ?_); decide +kernel))
  (k_with "mine nm" =>
    first
      | (apply ev_loc; (case F => k_asm); (case hk => exact rfl); (case hx => decide +kernel); (case hv => exact rfl))
      | ((with_reducible apply evc_own); (case N => k_asm); (case hm => k_extra "mine lsm_bools"); (case hC => assumption); (case hk => exact rfl); (case hx => decide +kernel); (case hv => assumption)))
  (k_with "mine fd" =>
    first
      | (apply ev_def; (case F => k_asm); (case X => k_asm); (case T => k_asm); (case hk => exact rfl); (case hx => decide +kernel); (case e => k_is))
      | ((with_reducible apply evc_glob); (case F => k_asm); (case X => k_asm); (case T => k_asm); (case hk => exact rfl); (case hx => decide +kernel); (case e => k_is); (case hg => exact rfl)))
  (k_with "mine fn" =>
    first
      | k_extra "mine fd"
      | (apply ev_free; (case N => k_asm); (case hk => exact rfl); (case hx => decide +kernel); (case hc => exact rfl); (case hm => k_extra "mine lsm_bools"); (case hd => k_asm))
      | (apply ev_cell; (case N => k_asm); (case hk => exact rfl); (case hx => decide +kernel); (case hc => exact rfl); (case hm => k_extra "mine lsm_bools"); (case hd => k_asm))
      | ((with_reducible apply evc_free); (case N => k_asm); (case hk => exact rfl); (case hx => exact rfl); (case hb => decide +kernel); (case hb2 => decide +kernel); (case hc => exact rfl); (case hm => k_extra "mine lsm_bools"); (case hd => k_asm))
      | ((with_reducible apply evc_cell); (case N => k_asm); (case hk => exact rfl); (case hx => exact rfl); (case hb => decide +kernel); (case hc => exact rfl); (case hm => k_extra "mine lsm_bools"); (case hd => k_asm))
      | (apply ev_bi; (case F => k_asm); (case X => k_asm); (case T => k_asm); (case hk => exact rfl); (case hx => decide +kernel); (case e => k_is); (case hv => boot_fast); (case hn => decide +kernel))
      | ((with_reducible apply evc_bi); (case F => k_asm); (case X => k_asm); (case T => k_asm); (case hk => exact rfl); (case hx => decide +kernel); (case e => k_is); (case hv => boot_by_name); (case hn => decide +kernel); (case hg => exact rfl); (case hb => exact rfl)))
  (k_with "mine ev" =>
    first
      | k_extra "mine nm"
      | (apply ev_item; (case F => k_asm); (case N => k_asm); (case hk => exact rfl); (case hx => decide +kernel); (case hv => exact rfl); (case hm => k_extra "mine lsm_bools"); (case hi => exact rfl))
      | (apply ev_tup; (case N => k_asm); (case e => k_extra "mine ev"); (case hm => k_extra "mine lsm_bools"); (case hi => exact rfl))
      | (apply ev_if; (case t => k_extra "mine tst"); (case k => first | exact Sel.t | exact Sel.f); (case e => k_extra "mine ev"))
      | exact ev_bool
      | exact ev_none)
  (k_with "mine tst" =>
    first
      | (apply tst_item; (case F => k_asm); (case N => k_asm); (case hk => exact rfl); (case hx => decide +kernel); (case hv => exact rfl); (case hm => k_extra "mine lsm_bools"); (case hi => exact rfl); (case hb => k_extra "mine dec"))
      | (apply tst_locS; (case F => k_asm); (case hk => exact rfl); (case hx => decide +kernel); (case hv => exact rfl); (case hb => k_extra "mine dec"))
      | (apply tst_int; (case e => k_extra "mine evn"); (case hb => k_extra "mine deci"))
      | (apply tst_eqS; (case e => k_extra "mine ev"); (case hb => k_extra "mine dec"))
      | (apply tst_or; (case t => k_extra "mine tst"); (case r => first | exact OrR.t | (apply OrR.f; k_extra "mine tst")))
      | (apply tst_and; (case t => k_extra "mine tst"); (case r => first | exact AndR.f | (apply AndR.t; k_extra "mine tst")))
      | exact tst_or0
      | exact tst_and0
      | (apply tst_neS; (case e => k_extra "mine ev"); (case hb => k_extra "mine dec")))
  (k_with "mine evl" =>
    first
      | exact evl_nil
      | (apply evl_str; (case l => k_extra "mine evl"))
      | (apply evl_int; (case l => k_extra "mine evl"))
      | (apply evl_sub; (case e => k_extra "mine evn"); (case l => k_extra "mine evl"); (case he => exact rfl))
      | (apply evl_cons; (case e => k_extra "mine evn"); (case l => k_extra "mine evl"); (case he => exact rfl)))
  (k_with "mine evn" =>
    first
      | k_extra "mine ev"
      | k_extra "mine fn")
  (k_with "mine evp1" =>
    first
      | (apply evp_str; (case l => k_extra "mine evp"))
      | (apply evp_int; (case l => k_extra "mine evp"))
      | (apply evp_cons; (case e => k_extra "mine evn"); (case l => k_extra "mine evp"); (case he => exact rfl)))
  (k_with "mine evp" =>
    first
      | k_extra "mine evp1"
      | exact evp_nil)
  (k_with "mine deci" =>
    first
      | (refine eqI_f ?_; first | decide +kernel | lia)
      | (refine eqI_t ?_; first | exact rfl | lia)
      | (refine gtI_t ?_; first | decide +kernel | lia)
      | (refine gtI_f ?_; first | decide +kernel | lia)
      | (refine ltI_t ?_; first | decide +kernel | lia)
      | (refine ltI_f ?_; first | decide +kernel | lia)
      | (refine neI_t ?_; first | decide +kernel | lia)
      | (refine neI_f ?_; first | exact rfl | lia))
  (k_with "execs cons Return" =>
    ((fail_if_success plain_pass); k_here; (with_reducible refine' X_ret ?q86e ?_); (case q86e => k_dflt (k_extra "mine ev")); intro tk9))
  (k_with "execs cons If" =>
    ((fail_if_success plain_pass); k_here; (with_reducible refine' X_if ?q87t ?q87k ?_); (case q87t => k_dflt (k_extra "mine tst")); (case q87k => first | exact Br.f0 | exact Br.t1 | exact Br.f1 | exact Br.t2 | exact Br.f2 | exact Br.t3 | exact Br.f3 | exact Br.t0); intro tk9))
  (k_with "execs cons Assign" =>
    ((fail_if_success plain_pass); k_here; (with_reducible show wpAny _ _ (execs (Stmt.Assign [Expr.Name _ _] _ _ :: _) _) _ _ _); (with_reducible refine Wp.out ?_); k_dflt ((refine' X_set ?q88F ?q88N ?q88hk ?q88hx ?q88e ?q88hs ?_); (case q88e => k_extra "mine ev"); (case q88F => k_asm); (case q88N => k_asm); (case q88hk => exact rfl); (case q88hx => decide +kernel); (case q88hs => exact rfl)); intro h9 tk9 F9 N9; (try k_sweep)))
  (k_with "eval Name" =>
    ((fail_if_success plain_pass); k_here; (with_reducible refine' X_ev ?q89e ?_); (case q89e => k_dflt (first | k_extra "mine ev" | k_extra "mine fn")); intro tk9))
  (k_with "eval Subscript" =>
    ((fail_if_success plain_pass); k_here; (with_reducible refine' X_ev ?q90e ?_); (case q90e => k_dflt (k_extra "mine ev")); intro tk9))
  (k_with "eval IfExp" =>
    ((fail_if_success plain_pass); k_here; (with_reducible refine' X_ifexp ?q91t ?q91k ?_); (case q91t => k_dflt (k_extra "mine tst")); (case q91k => first | exact Sel.t | exact Sel.f); intro tk9))
  (k_with "mine test" =>
    ((fail_if_success plain_pass); k_here; (with_reducible refine' X_tst ?q92t ?_); (case q92t => k_dflt (k_extra "mine tst")); intro tk9))
  (k_with "isTrue Compare" =>
    k_extra "mine test")
  (k_with "isTrue BoolOp" =>
    k_extra "mine test")
  (k_with "eval Tuple" =>
    ((fail_if_success plain_pass); k_here; first
      | ((with_reducible refine' X_tup ?q95F ?q95N ?q95hz ?q95l ?_); (case q95F => k_asm); (case q95N => k_asm); (case q95hz => exact Nat.le_of_ble_eq_true rfl); (case q95l => k_dflt (k_extra "mine evl")); (with_reducible (repeat (intro _))); (try k_sweep))
      | ((with_reducible refine' X_tupP ?q95l2 ?q95hx ?_); (case q95l2 => k_dflt (k_extra "mine evp1")); (case q95hx => k_dflt (exact rfl)); (with_reducible (repeat (intro _))))))
  (k_with "eval List" =>
    ((fail_if_success plain_pass); k_here; (with_reducible refine' X_list ?q96l ?_); (case q96l => k_dflt (k_extra "mine evl")); (with_reducible (repeat (intro _)))))
  (k_with "eval Call Name cons" =>
    ((fail_if_success plain_pass); k_here; first
      | ((with_reducible refine' X_call ?q97ef ?q97F ?q97X ?q97hk ?q97l ?q97he ?q97hs ?q97hp ?_); (case q97ef => k_dflt (k_extra "mine fd")); (case q97F => k_asm); (case q97X => k_asm); (case q97hk => k_is); (case q97l => k_dflt (k_extra "mine evl")); (case q97he => k_dflt (exact rfl)); (case q97hs => k_dflt (exact rfl)); (case q97hp => k_dflt (exact rfl)); (with_reducible (repeat (intro _))))
      | ((with_reducible refine' X_callP ?q97ef2 ?q97F2 ?q97X2 ?q97hk2 ?q97l2 ?q97he2 ?q97hs2 ?q97hp2 ?q97hx2 ?_); (case q97ef2 => k_dflt (k_extra "mine fd")); (case q97F2 => k_asm); (case q97X2 => k_asm); (case q97hk2 => k_is); (case q97l2 => k_dflt (k_extra "mine evp1")); (case q97he2 => k_dflt (exact rfl)); (case q97hs2 => k_dflt (exact rfl)); (case q97hp2 => k_dflt (exact rfl)); (case q97hx2 => k_dflt (exact rfl)); (with_reducible (repeat (intro _))))
      | ((with_reducible refine' X_callF ?q97ef3 ?q97he3 ?_); (case q97ef3 => k_dflt (k_extra "mine fn")); (case q97he3 => k_dflt (exact rfl)); intro tk9)))
  (k_with "eval Call" =>
    ((fail_if_success plain_pass); k_here; (with_reducible show wpAny _ _ (eval (Expr.Call (Expr.Name _ _) [] [] _) _) _ _ _); (with_reducible refine' X_callF ?q98ef3 ?q98he3 ?_); (case q98ef3 => k_dflt (k_extra "mine fn")); (case q98he3 => k_dflt (exact rfl)); intro tk9))
  (k_with "spliced" =>
    ((fail_if_success plain_pass); k_here; first
      | ((with_reducible refine' X_args ?q99l ?_); (case q99l => k_dflt (k_extra "mine evl")); (with_reducible (repeat (intro _))); (try dsimp only [List.cons_append, List.nil_append]))
      | ((with_reducible refine' X_argsP ?q99l2 ?q99he ?_); (case q99l2 => k_dflt (k_extra "mine evp1")); (case q99he => k_dflt (exact rfl)); (with_reducible (repeat (intro _))))))
  (k_with "ite" =>
    (k_closed; first
      | ((with_reducible refine ite_neg ?_ ?_); (focus (decide +kernel)))
      | ((with_reducible refine ite_pos ?_ ?_); (focus (decide +kernel)))))
  (k_with "eval Constant str" =>
    ((fail_if_success plain_pass); k_here; (with_reducible refine X_cstr ?_); intro t9 tk9))
  (k_with "eval Constant int" =>
    ((fail_if_success plain_pass); k_here; (with_reducible refine X_cint ?_); intro t9 tk9))
  (k_with "newTuple" =>
    ((fail_if_success plain_pass); k_here; (with_reducible refine' X_ntup ?q103F ?q103N ?q103hz ?_); (case q103F => k_asm); (case q103N => k_asm); (case q103hz => exact Nat.le_of_ble_eq_true rfl); intro D9 h9 tk9 F9 N9 l9; (try k_sweep)))
  (k_with "newList" =>
    ((fail_if_success plain_pass); k_here; (with_reducible refine' X_nlist ?q104F ?q104N ?q104hz ?_); (case q104F => k_asm); (case q104N => k_asm); (case q104hz => exact Nat.le_of_ble_eq_true rfl); intro D9 h9 tk9 F9 N9 l9; (try k_sweep)))
  (k_with "subscriptTail Attribute Name Subscript ref str" =>
    ((fail_if_success plain_pass); k_here; (with_reducible refine kba_turn (value' := PySem.Expr.Name (PySem.Str.ofString "_") ⟨0, 0, 0, 0⟩) ?_ ?_); (focus (k_dflt (exact fun _ => rfl)))))
  (k_with "exec FunctionDef" =>
    (k_here; k_dflt ((first | (with_reducible refine' nestDef_K ?q106d0 ?q106k0 ?q106a0 ?_) | refine' nestDef_K ?q106d0 ?q106k0 ?q106a0 ?_); (case q106d0 => exact rfl); (case q106k0 => exact rfl); (case q106a0 => exact rfl)); k_dflt ((first | (with_reducible refine' nest_both ?q106F ?q106N ?q106T ?q106C ?q106cd ?q106P ?q106O ?q106H ?q106S ?q106cl ?_) | refine' nest_both ?q106F ?q106N ?q106T ?q106C ?q106cd ?q106P ?q106O ?q106H ?q106S ?q106cl ?_); (case q106F => k_asm); (case q106N => k_asm); (case q106T => k_asm); (case q106cd => exact rfl); (case q106C => kn_code); (case q106P => k_extra "mine kpc_turns"); (case q106O => k_extra "mine kat_tups"); (case q106H => assumption); (case q106S => k_extra "mine kfm_turns"); (case q106cl => exact rfl); k_whole); intro f' c' oc' vs' t' ct' dc' o' nw' h' tk' F' N' m1' d1' d2' hT' ap' op' of' ne'))
  (k_with "storeName" =>
    (k_here; k_dflt ((first | (with_reducible refine' store_pullC ?q107F ?q107N ?q107hc ?q107P ?q107O ?q107hd ?_ ?q107hk ?q107hx) | refine' store_pullC ?q107F ?q107N ?q107hc ?q107P ?q107O ?q107hd ?_ ?q107hk ?q107hx); (case q107hc => exact rfl); (case q107F => k_asm); (case q107N => k_asm); (case q107P => k_extra "mine kpc_turns"); (case q107O => k_extra "mine kat_tups"); (case q107hd => with_reducible assumption); (case q107hk => exact rfl); (case q107hx => exact rfl); k_whole); intro h' o' F' N' d'))
  (k_with "execs cons" =>
    ((fail_if_success plain_pass); k_here; (with_reducible show wpAny _ _ (execs (_ :: _) _) _ _ _); first | k_extra "mine halt" | ((with_reducible refine x_seq ?_); intro Q9 hn9 hr9)))
  (k_with "mine wrow_close" =>
    first
      | ((first | (with_reducible refine' x_next ?q109hn ?_) | refine' x_next ?q109hn ?_); (case q109hn => with_reducible assumption); (try dsimp only))
      | ((first | (with_reducible refine' x_retn ?q109hr ?_) | refine' x_retn ?q109hr ?_); (case q109hr => with_reducible assumption); (try dsimp only))
      | ((first | (with_reducible refine' x_val ?q109hv ?_) | refine' x_val ?q109hv ?_); (case q109hv => with_reducible assumption); (try dsimp only)))
  trivial
/-- `with_regions(_, no_region)` for a type -/
abbrev WrNone (w : World) (p : Program) (loose : List Str) (mean : ExcName → Option Value) (mg mb : Str → Option Value) (t : Ty) : Prop :=
  ∀ v news, TyIn news v t → Reads1 w p loose mean mg mb 45 [v, .ref 52] news (4 * t.deep + 4) (40 * t.deep + 40) (fun nw r => TyIn nw r t.erase)
section
variable {w : World} {p : Program} {loose : List Str} {mean : ExcName → Option Value} {mg mb : Str → Option Value}
theorem own_lines_3 : True := by
  (k_with "eval Call Name cons" =>
    ((fail_if_success plain_pass); k_here; (with_reducible show wpAny _ _ (eval (Expr.Call (Expr.Name (Str.ofString "change") _) _ _ _) _) _ _ _); (with_reducible refine' X_callG ?q110ef ?q110C ?q110l ?q110he ?q110hs ?q110hp ?_); (case q110ef => k_dflt (k_extra "mine fn")); (case q110C => ((first | (with_reducible refine' FnG.at ?q110G1 ?q110G2 ?q110G3 ?q110G4 ?q110G5) | refine' FnG.at ?q110G1 ?q110G2 ?q110G3 ?q110G4 ?q110G5); (case q110G1 => assumption); (case q110G2 => k_asm); (case q110G3 => k_asm); (case q110G4 => k_asm); (case q110G5 => k_extra "mine kfm_turns"))); (case q110l => k_dflt (k_extra "mine evl")); (case q110he => k_dflt (exact rfl)); (case q110hs => k_dflt (exact rfl)); (case q110hp => k_dflt (exact rfl)); (with_reducible (repeat (intro _)))))
  (k_with "call ref" =>
    (k_here; (with_reducible show wpAny _ _ (call (Value.ref _) [_]) _ _ _); k_dflt ((first | (with_reducible refine' ChgOk.use ?q111C ?q111B ?q111F ?q111X ?q111N ?q111P ?q111O ?q111S ?q111T ?q111k ?q111d ?q111u ?q111z ?q111R ?q111q ?_) | refine' ChgOk.use ?q111C ?q111B ?q111F ?q111X ?q111N ?q111P ?q111O ?q111S ?q111T ?q111k ?q111d ?q111u ?q111z ?q111R ?q111q ?_); (case q111C => assumption); (case q111F => k_asm); (case q111N => k_asm); (case q111P => k_extra "mine pullc"); (case q111O => k_extra "mine offc"); (case q111S => k_extra "mine kfm_turns"); (case q111X => k_asm); (case q111T => k_asm); (case q111B => k_asm); (case q111k => first | exact rfl | assumption); (case q111d => k_extra "mine ktr_room"); (case q111u => k_extra "mine ktr_units"); (case q111z => lia); (case q111R => with_reducible assumption); (case q111q => with_reducible assumption); k_whole; intro r9 zs9 n9 h9 tk9 F9 N9 ho9 gr9; (have gl9 := gr9.2); (try simp only [List.length_append, List.length_cons, List.length_nil] at gl9); (try k_fold))))
  (k_with "call ref" =>
    (k_here; (with_reducible show wpAny _ _ (call (Value.ref 45) _) _ _ _); k_dflt ((first | (with_reducible refine' WrG.use ?q112C ?q112R ?q112q ?q112B ?q112F ?q112X ?q112N ?q112P ?q112O ?q112S ?q112S2 ?q112T ?q112k ?q112d ?q112u ?q112z ?_) | refine' WrG.use ?q112C ?q112R ?q112q ?q112B ?q112F ?q112X ?q112N ?q112P ?q112O ?q112S ?q112S2 ?q112T ?q112k ?q112d ?q112u ?q112z ?_); (case q112R => assumption); (case q112C => assumption); (case q112q => with_reducible assumption); (case q112F => k_asm); (case q112N => k_asm); (case q112P => k_extra "mine pullc"); (case q112O => k_extra "mine offc"); (case q112S => k_extra "mine kfm_turns"); (case q112S2 => k_extra "mine kfm_turns"); (case q112X => k_asm); (case q112T => k_asm); (case q112B => k_asm); (case q112k => first | exact rfl | assumption); (case q112d => k_extra "mine ktr_room"); (case q112u => k_extra "mine ktr_units"); (case q112z => ((try simp only [List.length_append, List.length_cons, List.length_nil]); lia)); k_whole; intro r9 tl9 zs9 n9 h9 tk9 F9 N9 ap9 oc9 gr9 ho9; (have gl9 := gr9.2); (try simp only [List.length_append, List.length_cons, List.length_nil] at gl9); (try k_fold))))
  trivial
theorem wr_gen {fa : Addr} {o : Option Addr} {bd : Nat} {P : Reg → Prop} {out : Reg → Reg} {kn : Led} (C : ChgOk w p loose mean mg mb fa o bd P out kn) (hG : FnG w fa kn) (t : Ty) : WrG w p loose mean mg mb fa o bd P out kn t := (by exact unwrap _ : Wrap _ (by
  induction t with
  | byte =>
    intro v news hR hP
    cases hR using TyIn.inv_byte with
    | mk h1 =>
    intro dp un gd cn cs a ccd cl outer A₀ base h₀ L m s led xs n Q E B F X N hoff hsub hkn T hk rd ru hz hret
    have h1' := hsub _ h1
    simp only [Ty.deep] at rd ru
    simp only [Ty.regs, List.length_append, List.length_cons, List.length_nil] at hz
    k_dflt (k_extra "mine in")
    k_steps
    first
      | (refine' finG hret ?zzF ?zzN ?zzP ?zze ?zzO ?zzG ?zzR; (case zzF => k_asm); (case zzN => k_asm); (case zzP => k_extra "mine pullc"); (case zze => k_extra "mine keq_hits"); (case zzO => k_extra "mine offc"); (case zzG => exact GrownO.nil); (case zzR => ((try simp only [List.cons_append, List.append_assoc, List.nil_append]); k_extra "mine byte")))
      | (fail "fin")
  | par =>
    intro v news hR hP
    cases hR using TyIn.inv_par with
    | mk h1 =>
    intro dp un gd cn cs a ccd cl outer A₀ base h₀ L m s led xs n Q E B F X N hoff hsub hkn T hk rd ru hz hret
    have h1' := hsub _ h1
    simp only [Ty.deep] at rd ru
    simp only [Ty.regs, List.length_append, List.length_cons, List.length_nil] at hz
    k_dflt (k_extra "mine in")
    k_steps
    first
      | (refine' finG hret ?zzF ?zzN ?zzP ?zze ?zzO ?zzG ?zzR; (case zzF => k_asm); (case zzN => k_asm); (case zzP => k_extra "mine pullc"); (case zze => k_extra "mine keq_hits"); (case zzO => k_extra "mine offc"); (case zzG => exact GrownO.nil); (case zzR => ((try simp only [List.cons_append, List.append_assoc, List.nil_append]); k_extra "mine par")))
      | (fail "fin")
  | ref r t ih =>
    intro v news hR hP
    cases hR using TyIn.inv_ref with
    | mk h1 h2 h3 =>
    intro dp un gd cn cs a ccd cl outer A₀ base h₀ L m s led xs n Q E B F X N hoff hsub hkn T hk rd ru hz hret
    have hP1 := hP r (.head _)
    have hP2 : ∀ q ∈ t.regs, P q := fun q hq => hP q (.tail _ hq)
    have h1' := hsub _ h1
    simp only [Ty.deep] at rd ru
    simp only [Ty.regs, List.length_append, List.length_cons, List.length_nil] at hz
    k_dflt (k_extra "mine in")
    k_steps
    first
      | (refine' finG hret ?zzF ?zzN ?zzP ?zze ?zzO ?zzG ?zzR; (case zzF => k_asm); (case zzN => k_asm); (case zzP => k_extra "mine pullc"); (case zze => k_extra "mine keq_hits"); (case zzO => k_extra "mine offc"); (case zzG => exact GrownO.cons (by assumption) (by assumption)); (case zzR => ((try simp only [List.cons_append, List.append_assoc, List.nil_append]); k_extra "mine ref")))
      | (fail "fin")
  | box t ih =>
    intro v news hR hP
    cases hR using TyIn.inv_box with
    | mk h1 h2 =>
    intro dp un gd cn cs a ccd cl outer A₀ base h₀ L m s led xs n Q E B F X N hoff hsub hkn T hk rd ru hz hret
    have hP2 : ∀ q ∈ t.regs, P q := hP
    have h1' := hsub _ h1
    simp only [Ty.deep] at rd ru
    simp only [Ty.regs, List.length_append, List.length_cons, List.length_nil] at hz
    k_dflt (k_extra "mine in")
    k_steps
    first
      | (refine' finG hret ?zzF ?zzN ?zzP ?zze ?zzO ?zzG ?zzR; (case zzF => k_asm); (case zzN => k_asm); (case zzP => k_extra "mine pullc"); (case zze => k_extra "mine keq_hits"); (case zzO => k_extra "mine offc"); (case zzG => assumption); (case zzR => ((try simp only [List.cons_append, List.append_assoc, List.nil_append]); k_extra "mine box")))
      | (fail "fin")
  | arr t ih =>
    intro v news hR hP
    cases hR using TyIn.inv_arr with
    | mk h1 h2 =>
    intro dp un gd cn cs a ccd cl outer A₀ base h₀ L m s led xs n Q E B F X N hoff hsub hkn T hk rd ru hz hret
    have hP2 : ∀ q ∈ t.regs, P q := hP
    have h1' := hsub _ h1
    simp only [Ty.deep] at rd ru
    simp only [Ty.regs, List.length_append, List.length_cons, List.length_nil] at hz
    k_dflt (k_extra "mine in")
    k_steps
    first
      | (refine' finG hret ?zzF ?zzN ?zzP ?zze ?zzO ?zzG ?zzR; (case zzF => k_asm); (case zzN => k_asm); (case zzP => k_extra "mine pullc"); (case zze => k_extra "mine keq_hits"); (case zzO => k_extra "mine offc"); (case zzG => assumption); (case zzR => ((try simp only [List.cons_append, List.append_assoc, List.nil_append]); k_extra "mine arr")))
      | (fail "fin")
  | pair t u ih ih' =>
    intro v news hR hP
    cases hR using TyIn.inv_pair with
    | mk h1 h2 h3 h4 =>
    intro dp un gd cn cs a ccd cl outer A₀ base h₀ L m s led xs n Q E B F X N hoff hsub hkn T hk rd ru hz hret
    have hP2 : ∀ q ∈ t.regs, P q := fun q hq => hP q (List.mem_append_left _ hq)
    have hP3 : ∀ q ∈ u.regs, P q := fun q hq => hP q (List.mem_append_right _ hq)
    have h1' := hsub _ h1
    have h2' := hsub _ h2
    simp only [Ty.deep] at rd ru
    have hx1 := Nat.le_max_left t.deep u.deep
    have hx2 := Nat.le_max_right t.deep u.deep
    generalize max t.deep u.deep = M9 at rd ru hx1 hx2
    simp only [Ty.regs, List.length_append, List.length_cons, List.length_nil] at hz
    k_dflt (k_extra "mine in")
    k_steps
    first
      | (refine' finG hret ?zzF ?zzN ?zzP ?zze ?zzO ?zzG ?zzR; (case zzF => k_asm); (case zzN => k_asm); (case zzP => k_extra "mine pullc"); (case zze => k_extra "mine keq_hits"); (case zzO => k_extra "mine offc"); (case zzG => exact GrownO.trans (by assumption) (by assumption)); (case zzR => ((try simp only [List.cons_append, List.append_assoc, List.nil_append]); k_extra "mine pair")))
      | (fail "fin")
  | g r =>
    intro v news hR hP
    cases hR using TyIn.inv_g with
    | mk h1 h2 h3 h4 =>
    intro dp un gd cn cs a ccd cl outer A₀ base h₀ L m s led xs n Q E B F X N hoff hsub hkn T hk rd ru hz hret
    have hP1 := hP r (.head _)
    have h1' := hsub _ h1
    have h2' := hsub _ h2
    have h3' := hsub _ h3
    simp only [Ty.deep] at rd ru
    simp only [Ty.regs, List.length_append, List.length_cons, List.length_nil] at hz
    k_dflt (k_extra "mine in")
    k_steps
    first
      | (refine' finG hret ?zzF ?zzN ?zzP ?zze ?zzO ?zzG ?zzR; (case zzF => k_asm); (case zzN => k_asm); (case zzP => k_extra "mine pullc"); (case zze => k_extra "mine keq_hits"); (case zzO => k_extra "mine offc"); (case zzG => assumption); (case zzR => ((try simp only [List.cons_append, List.append_assoc, List.nil_append]); k_extra "mine g")))
      | (fail "fin")
  | ad n r t ih =>
    intro v news hR hP
    cases hR using TyIn.inv_ad with
    | mk h1 h2 h3 h4 h5 =>
    intro dp un gd cn cs a ccd cl outer A₀ base h₀ L m s led xs n Q E B F X N hoff hsub hkn T hk rd ru hz hret
    have hP1 := hP r (.head _)
    have hP2 : ∀ q ∈ t.regs, P q := fun q hq => hP q (.tail _ hq)
    have h1' := hsub _ h1
    have h2' := hsub _ h2
    have h3' := hsub _ h3
    simp only [Ty.deep] at rd ru
    simp only [Ty.regs, List.length_append, List.length_cons, List.length_nil] at hz
    k_dflt (k_extra "mine in")
    k_steps
    first
      | (refine' finG hret ?zzF ?zzN ?zzP ?zze ?zzO ?zzG ?zzR; (case zzF => k_asm); (case zzN => k_asm); (case zzP => k_extra "mine pullc"); (case zze => k_extra "mine keq_hits"); (case zzO => k_extra "mine offc"); (case zzG => exact GrownO.cons (by assumption) (by assumption)); (case zzR => ((try simp only [List.cons_append, List.append_assoc, List.nil_append]); k_extra "mine ad")))
      | (fail "fin")))
theorem chg_none {bd : Nat} : ChgOk w p loose mean mg mb 52 none bd (fun _ => True) (fun _ => .none) [] := (by exact unwrap _ : Wrap _ (by
  intro dp un gd cn cs a ccd cl outer A₀ base h₀ L m s led xs n rv r Q E B F X N hoff hsub T hk rd ru hz hR hP hret
  replace N : News h₀ L s.heap led := N
  k_dflt (k_extra "mine in")
  k_steps
  exact hret _ xs n _ _ (by k_asm) (show News _ _ _ led by k_asm) RegIs.none ⟨fun _ e => (nomatch e), Nat.le_add_right _ _⟩))
theorem wr_none (t : Ty) : WrNone w p loose mean mg mb t := by
  intro v news hR dp un gd cn cs a ccd cl outer A₀ base h₀ L m s led Q E B F X N hsub T hk rd ru hret
  have G : FnG w 52 [] := fun h₀ h L m led F X N S => fnAt_of_K (X.keeps F.keep) (by kernel_rfl)
  exact wr_gen (bd := t.regs.length) chg_none G t v news hR (fun _ _ => trivial) dp un gd cn cs a ccd cl outer A₀ base h₀ L m s led [] 0 Q E B F X N (fun _ e => nomatch e) hsub (fun _ h => nomatch h) T hk rd ru (Nat.le_of_eq (Nat.zero_add _)) fun r tl zs n' h' tk' F' N' A' O' G' R' => hret r tl h' tk' F' N' A' (mapR_none t ▸ R')
theorem chg_noted {nf fl : Addr} {kn : Led} (K : NoteOk w p loose mean mg mb nf fl kn) : ChgOk w p loose mean mg mb nf (some fl) 100000 (fun _ => True) (fun r => r) kn :=
  fun dp un gd cn cs a ccd cl outer A₀ base h₀ L m s led xs n rv r Q E B F X N hoff hsub T hk rd ru hz hR hP hret => K dp un gd cn cs a ccd cl outer A₀ base h₀ L m s led xs n rv Q E B F X N (hoff fl rfl) hsub T hk rd ru hz fun h' tk' F' N' =>
    hret rv (xs ++ [rv]) (n + 1) h' tk' F' N' hR ⟨fun _ _ => Grown.one hR, Nat.le_of_eq List.length_append⟩
theorem wr_noted (t : Ty) : WrNoted w p loose mean mg mb t := by
  intro v news nf fl oc od fd sl hR hM hK dp un gd cn cs a ccd cl outer A₀ base h₀ L m s led xs n Q E B F X N hoff hsub T hk rd ru hz hret
  refine wr_gen (chg_noted hK) (fun h₀ h L m led F X N S => FnAt.of N (S _ hM)) t v news hR (fun _ _ => trivial) dp un gd cn cs a ccd cl outer A₀ base h₀ L m s led xs n Q E B F X N (fun D e => ?_) hsub hsub T hk rd ru hz fun r tl zs n' h' tk' F' N' A' O' G' R' => hret r tl zs n' h' tk' F' N' (fun q hq y hy => ?_) (G'.1 fl rfl)
  · cases e
    exact hoff
  · rcases List.mem_cons.mp hq with rfl | hq
    · exact (O' fl rfl y hy).symm
    · exact A' q hq y hy
end
/-- the table of regions_in's code: before its first call, and behind it -/
abbrev TabN (l : Led) (o : Obj) : Prop := Tab 43 4 (Str.ofString "regions_in.<locals>.noted") l o
theorem TabN.mono {l l' : Led} {o : Obj} (h : TabN l o) (s : ∀ p ∈ l, p ∈ l') : TabN l' o := Tab.mono h s
def RegionsIn (w : World) (p : Program) (loose : List Str) (mean : ExcName → Option Value) (mg mb : Str → Option Value) (t : Ty) : Prop :=
  ∀ (v : Value) (news : Led), TyIn news v t →
  ∀ (dp un : Nat) (gd : Option (List Code)) (cn : Str) (cs : Scope) (a : Addr) (ccd : Value) (cl : List (Str × Addr)) (outer : List Env) (A₀ : Around) (base h₀ : Heap) (L : Addr) (m : Str → Option Value) (s : Shared) (led td : Led) (o : Obj)
    (Q E : Value → Shared → Prop),
    Below A₀ base outer h₀ → Fr h₀ L s.heap m → (hd.heap_39 w.params).In h₀ → News h₀ L s.heap ((61, o) :: led) → Off 61 led → (∀ p ∈ news, p ∈ led) → (∀ p ∈ td, p ∈ led) → TabN td o → Top p loose mean mg mb h₀ → cs.kind = .function → dp + (4 * t.deep + 8) < recursionLimit → un + (40 * t.deep + 80) < cLine → t.regs.length ≤ 100000 →
    (∀ fl tl zs n o' h' tk', Fr h₀ L h' m → News h₀ L h' ((61, o') :: (tl ++ led)) → Apart ((61, o) :: led) tl → TabN (tl ++ td) o' → (fl, listOf zs.toArray n) ∈ tl → RegsAre zs t.regs → Q (.ref fl) { s with heap := h', toks := tk' }) →
    wpAny (model P0 w) (ktrTop dp un gd cn cs L a ccd cl outer) (call (.ref 66) [v]) Q E s
section
variable {w : World} {p : Program} {loose : List Str} {mean : ExcName → Option Value} {mg mb : Str → Option Value}
section
variable {t : Ty} {dp un : Nat} {gd : Option (List Code)} {cn : Str} {cs : Scope} {a : Addr} {ccd : Value} {cl : List (Str × Addr)} {outer : List Env} {A₀ : Around} {base h₀ : Heap} {L : Addr} {m : Str → Option Value} {s : Shared} {led td : Led} {o : Obj}
    {Q E : Value → Shared → Prop}
theorem fin3 {h' : Heap} {lf lr tl : Led} {zs : List Value} {n : Nat} {o' : Obj} {rs : List Reg} {fl : Addr} {tk' : Nat}
    (hret : ∀ fl tl zs n o' h' tk', Fr h₀ L h' m → News h₀ L h' ((61, o') :: (tl ++ led)) → Apart ((61, o) :: led) tl → TabN (tl ++ td) o' → (fl, listOf zs.toArray n) ∈ tl → RegsAre zs rs → Q (.ref fl) { s with heap := h', toks := tk' })
    (F : Fr h₀ L h' m) (N : News h₀ L h' lf) (P : Pull (61, o') lf lr) (e : Ext led lr tl) (O : Off 61 lr) (D : TabN (tl ++ td) o') (M : (fl, listOf zs.toArray n) ∈ tl) (G : RegsAre zs rs) : Q (.ref fl) { s with heap := h', toks := tk' } := by
  have N' := P.news N
  have h := e.apart
  have q := e.eq
  subst q
  refine hret fl tl zs n o' h' tk' F N' (fun x hx y hy => ?_) D M G
  rcases List.mem_cons.mp hx with rfl | hx
  · exact (O y (List.mem_append_left _ hy)).symm
  · exact h x hx y hy
theorem Grown.regs {zs : List Value} {rs : List Reg} (h : Grown [] zs rs) : RegsAre zs rs := by
  obtain ⟨ys, rfl, h⟩ := h
  exact h
end
theorem own_lines_4 : True := by
  (k_with "call ref" =>
    (k_here; (with_reducible show wpAny _ _ (call (Value.ref 45) _) _ _ _); k_dflt ((first | (with_reducible refine' WrNoted.use (wr_noted _) ?q113R ?q113M ?q113K ?q113B ?q113F ?q113X ?q113N ?q113P ?q113O sub_refl ?q113T ?q113k ?q113d ?q113u ?q113z ?_) | refine' WrNoted.use (wr_noted _) ?q113R ?q113M ?q113K ?q113B ?q113F ?q113X ?q113N ?q113P ?q113O sub_refl ?q113T ?q113k ?q113d ?q113u ?q113z ?_); (case q113F => k_asm); (case q113N => k_asm); (case q113P => k_extra "mine kpc_turns"); (case q113O => k_extra "mine kat_tups"); (case q113R => exact TyIn.mono (by assumption) (by k_extra "mine kfm_turns")); (case q113M => k_extra "mine lsm_bools"); (case q113X => k_asm); (case q113T => k_asm); (case q113B => k_asm); (case q113k => first | exact rfl | assumption); (case q113d => k_extra "mine ktr_room"); (case q113u => k_extra "mine ktr_units"); (case q113z => ((try simp only [List.length_append, List.length_cons, List.length_nil]); lia)); (case q113K => k_extra "mine note"); k_whole; intro r9 tl9 zs9 n9 h9 tk9 F9 N9 ap9 g9; (try k_fold))))
  trivial
theorem regions_in (t : Ty) : RegionsIn w p loose mean mg mb t := (by exact unwrap _ : Wrap _ (by
  intro v news hR dp un gd cn cs a ccd cl outer A₀ base h₀ L m s led td o Q E B F X N hoff hsub htd hT T hk rd ru hz hret
  have hR' := hR.mono hsub
  have cH := codeHd_of_K (c := 65) (P := 61) X (by kernel_rfl)
  k_dflt (k_extra "mine in")
  k_steps
  first
    | (refine' fin3 hret ?zzF ?zzN ?zzP ?zze ?zzO ?zzD ?zzM ?zzG; (case zzF => k_asm); (case zzN => k_asm); (case zzP => k_extra "mine kpc_turns"); (case zze => k_extra "mine keq_hits"); (case zzO => k_extra "mine kat_tups"); (case zzD => exact Tab.mono (by assumption) (by k_extra "mine kfm_turns")); (case zzM => k_extra "mine lsm_bools"); (case zzG => exact Grown.regs (by assumption)))
    | (fail "fin")))
end
abbrev ent (w : World) (x : String) (t : Tok) (v : Value) : DictEntry := ⟨PyData.keyHash w.params (Str.ofString x), .str (Str.ofString x) t, v⟩
/-- the fields of an Adt -/
abbrev adtD (w : World) (t1 t2 t3 t4 t5 t6 t7 : Tok) (v1 v2 v3 v4 v5 : Value) : Obj :=
  dictOf [ent w "path" t1 v1, ent w "module" t2 (.str (Str.ofString "") 338), ent w "regions" t3 v2, ent w "params" t4 v3, ent w "variants" t5 v4, ent w "publics" t6 (.ref 121), ent w "is_enum" t7 v5] 7
/-- the fields of an ImplRow -/
abbrev rowD (w : World) (t1 t2 t3 t4 t5 t6 t7 t8 : Tok) (v1 v2 v3 v4 v5 v6 v7 v8 : Value) : Obj :=
  dictOf [ent w "number" t1 v1, ent w "regions" t2 v2, ent w "params" t3 v3, ent w "trait" t4 v4, ent w "trait_args" t5 v5, ent w "self_type" t6 v6, ent w "methods" t7 v7, ent w "spot" t8 v8] 8
/-- the fields of a World -/
abbrev wldD (w : World) (t1 t2 t3 t4 t5 t6 t7 t8 : Tok) (v1 v2 v3 v4 v5 v6 v7 v8 : Value) : Obj :=
  dictOf [ent w "modules" t1 v1, ent w "adts" t2 v2, ent w "variants" t3 v3, ent w "sigs" t4 v4, ent w "traits" t5 v5, ent w "impls" t6 v6, ent w "consts" t7 v7, ent w "bodies" t8 v8] 8
def AdtNew (w : World) (p : Program) (loose : List Str) (mean : ExcName → Option Value) (mg mb : Str → Option Value) : Prop :=
  ∀ (dp un : Nat) (gd : Option (List Code)) (cn : Str) (cs : Scope) (a : Addr) (ccd : Value) (cl : List (Str × Addr)) (outer : List Env) (A₀ : Around) (base h₀ : Heap) (L : Addr) (m : Str → Option Value) (s : Shared) (led : Led) (v1 v2 v3 v4 v5 : Value)
    (Q E : Value → Shared → Prop),
    Below A₀ base outer h₀ → Fr h₀ L s.heap m → (hd.heap_39 w.params).In h₀ → News h₀ L s.heap led → Top p loose mean mg mb h₀ → cs.kind = .function → dp + 10 < recursionLimit → un + 100 < cLine →
    (∀ x dx t1 t2 t3 t4 t5 t6 t7 h' tk', Fr h₀ L h' m → News h₀ L h' ((x, instObj 132 dx) :: (dx, adtD w t1 t2 t3 t4 t5 t6 t7 v1 v2 v3 v4 v5) :: led) → AllLt dx led → dx < x → Q (.ref x) { s with heap := h', toks := tk' }) →
    wpAny (model P0 w) (ktrTop dp un gd cn cs L a ccd cl outer) (call (.ref 132) [v1, v2, v3, v4, v5]) Q E s
def RowNew (w : World) (p : Program) (loose : List Str) (mean : ExcName → Option Value) (mg mb : Str → Option Value) : Prop :=
  ∀ (dp un : Nat) (gd : Option (List Code)) (cn : Str) (cs : Scope) (a : Addr) (ccd : Value) (cl : List (Str × Addr)) (outer : List Env) (A₀ : Around) (base h₀ : Heap) (L : Addr) (m : Str → Option Value) (s : Shared) (led : Led) (v1 v2 v3 v4 v5 v6 v7 : Value)
    (Q E : Value → Shared → Prop),
    Below A₀ base outer h₀ → Fr h₀ L s.heap m → (hd.heap_39 w.params).In h₀ → News h₀ L s.heap led → Top p loose mean mg mb h₀ → cs.kind = .function → dp + 10 < recursionLimit → un + 100 < cLine →
    (∀ x dx t1 t2 t3 t4 t5 t6 t7 t8 v8 h' tk', Fr h₀ L h' m → News h₀ L h' ((x, instObj 154 dx) :: (dx, rowD w t1 t2 t3 t4 t5 t6 t7 t8 v1 v2 v3 v4 v5 v6 v7 v8) :: led) → AllLt dx led → dx < x → Q (.ref x) { s with heap := h', toks := tk' }) →
    wpAny (model P0 w) (ktrTop dp un gd cn cs L a ccd cl outer) (call (.ref 154) [v1, v2, v3, v4, v5, v6, v7]) Q E s
def WldNew (w : World) (p : Program) (loose : List Str) (mean : ExcName → Option Value) (mg mb : Str → Option Value) : Prop :=
  ∀ (dp un : Nat) (gd : Option (List Code)) (cn : Str) (cs : Scope) (a : Addr) (ccd : Value) (cl : List (Str × Addr)) (outer : List Env) (A₀ : Around) (base h₀ : Heap) (L : Addr) (m : Str → Option Value) (s : Shared) (led : Led)
    (Q E : Value → Shared → Prop),
    Below A₀ base outer h₀ → Fr h₀ L s.heap m → (hd.heap_39 w.params).In h₀ → News h₀ L s.heap led → Top p loose mean mg mb h₀ → cs.kind = .function → dp + 10 < recursionLimit → un + 100 < cLine →
    (∀ x dx da ia o t1 t2 t3 t4 t5 t6 t7 t8 v3 v4 v5 v7 v8 h' tk', Fr h₀ L h' m → News h₀ L h' ((x, instObj 183 dx) :: (dx, wldD w t1 t2 t3 t4 t5 t6 t7 t8 .none (.ref da) v3 v4 v5 (.ref ia) v7 v8) :: (da, o) :: (ia, listOf #[] 0) :: led) → o.IsDictOf (strKind P0 w) [] →
      da ≠ x → da ≠ dx → ia ≠ x → ia ≠ dx → ia ≠ da → Off da led → Off ia led → AllLt dx led → dx < x → Q (.ref x) { s with heap := h', toks := tk' }) →
    wpAny (model P0 w) (ktrTop dp un gd cn cs L a ccd cl outer) (call (.ref 183) [.none]) Q E s
section
variable {w : World} {p : Program} {loose : List Str} {mean : ExcName → Option Value} {mg mb : Str → Option Value}
theorem News.sub {h₀ h : Heap} {L : Addr} {l l' : Led} (N : News h₀ L h l) (s : ∀ p ∈ l', p ∈ l) : News h₀ L h l' := fun q hq => N q (s q hq)
theorem sub_conses {x : Addr × Obj} {l l' : Led} (h : x ∈ l) (k : ∀ p ∈ l', p ∈ l) : ∀ p ∈ x :: l', p ∈ l := fun q hq => by
  rcases List.mem_cons.mp hq with rfl | hq
  · exact h
  · exact k q hq
theorem adt_new : AdtNew w p loose mean mg mb := (by exact unwrap _ : Wrap _ (by
  intro dp un gd cn cs a ccd cl outer A₀ base h₀ L m s led v1 v2 v3 v4 v5 Q E B F X N T hk rd ru hret
  k_steps
  exact hret _ _ _ _ _ _ _ _ _ _ _ (by k_asm) (by k_asm) (by assumption) (by assumption)))
theorem row_new : RowNew w p loose mean mg mb := (by exact unwrap _ : Wrap _ (by
  intro dp un gd cn cs a ccd cl outer A₀ base h₀ L m s led v1 v2 v3 v4 v5 v6 v7 Q E B F X N T hk rd ru hret
  k_steps
  exact hret _ _ _ _ _ _ _ _ _ _ _ _ _ (by k_asm) (by k_asm) (by assumption) (by assumption)))
theorem wld_new : WldNew w p loose mean mg mb := (by exact unwrap _ : Wrap _ (by
  intro dp un gd cn cs a ccd cl outer A₀ base h₀ L m s led Q E B F X N T hk rd ru hret
  k_steps
  refine' hret _ _ _ _ _ _ _ _ _ _ _ _ _ _ _ _ _ _ _ _ ?zzF ?zzN ?zzo ?zza1 ?zza2 ?zza3 ?zza4 ?zza5 ?zza6 ?zza7 ?zza8 ?zza9
  case zzF => k_asm
  case zzN =>
    refine' News.sub ?zzN ?zzs
    case zzN => k_asm
    case zzs =>
      refine sub_conses (by k_extra "mine lsm_bools") ?_
      refine sub_conses (by k_extra "mine lsm_bools") ?_
      refine sub_conses (by k_extra "mine lsm_bools") ?_
      refine sub_conses (by k_extra "mine lsm_bools") ?_
      k_extra "mine kfm_turns"
  case zzo => assumption
  case zza8 => assumption
  case zza9 => assumption
  case zza6 => k_extra "mine keq_rows"
  case zza7 => k_extra "mine keq_rows"
  all_goals k_extra "mine tlg_ne"))
end
/-- a row of the impls: a drop of its own for what is like t -/
inductive RowIn (w : World) (l : Led) : Addr → Ty → Prop
  | mk {r d : Addr} {t1 t2 t3 t4 t5 t6 t7 t8 k : Tok} {v1 v2 v3 v5 sv v7 v8 : Value} {t : Ty} : (r, instObj 154 d) ∈ l → (d, rowD w t1 t2 t3 t4 t5 t6 t7 t8 v1 v2 v3 (st "Drop" k) v5 sv v7 v8) ∈ l → TyIn l sv t → RowIn w l r t
abbrev ownT : Ty := .g (.str (Str.ofString "'a"))
/-- what N's, E's adt holds, but for its variants -/
inductive AdtIn (w : World) (l : Led) : Addr → Addr → Prop
  | mk {x d ra pa va : Addr} {t1 t2 t3 t4 t5 t6 t7 k1 k2 : Tok} {v1 v5 : Value} : (x, instObj 132 d) ∈ l → (d, adtD w t1 t2 t3 t4 t5 t6 t7 v1 (.ref ra) (.ref pa) (.ref va) v5) ∈ l → (ra, tupO [st "'a" k1]) ∈ l → (pa, tupO [st "T" k2]) ∈ l → AdtIn w l x va
/-- N's variants -/
inductive VarN (l : Led) : Addr → Prop
  | mk {va a fa b1 b2 : Addr} {v1 v2 tv1 tv2 : Value} {n m : Nat} {s1 s2 : Str} {q1 q2 : Tok} : (va, listOf #[.ref a] n) ∈ l → (a, tupO [v1, v2, .ref fa]) ∈ l → (fa, listOf #[.ref b1, .ref b2] m) ∈ l →
    (b1, tupO [.str s1 q1, tv1]) ∈ l → TyIn l tv1 .par → (b2, tupO [.str s2 q2, tv2]) ∈ l → TyIn l tv2 ownT → VarN l va
/-- E's variants -/
inductive VarE (l : Led) : Addr → Prop
  | mk {va a e fa ea b1 b2 b3 : Addr} {v1 v2 v3 v4 tv1 tv2 tv3 : Value} {n m m' : Nat} {s1 s2 s3 : Str} {q1 q2 q3 : Tok} : (va, listOf #[.ref a, .ref e] n) ∈ l → (a, tupO [v1, v2, .ref fa]) ∈ l → (fa, listOf #[.ref b1] m) ∈ l →
    (b1, tupO [.str s1 q1, tv1]) ∈ l → TyIn l tv1 .par → (e, tupO [v3, v4, .ref ea]) ∈ l → (ea, listOf #[.ref b2, .ref b3] m') ∈ l → (b2, tupO [.str s2 q2, tv2]) ∈ l → TyIn l tv2 ownT → (b3, tupO [.str s3 q3, tv3]) ∈ l → TyIn l tv3 .byte → VarE l va
inductive WorldIn (w : World) (l : Led) : Value → Prop
  | mk {x d da ia r1 r2 g ww n e vn ve : Addr} {o : Obj} {t1 t2 t3 t4 t5 t6 t7 t8 : Tok} {v1 v3 v4 v5 v7 v8 : Value} {k : Nat} : (x, instObj 183 d) ∈ l → (d, wldD w t1 t2 t3 t4 t5 t6 t7 t8 v1 (.ref da) v3 v4 v5 (.ref ia) v7 v8) ∈ l →
  (da, o) ∈ l → o.IsDictOf (strKind P0 w) [(Str.ofString "G", .ref g), (Str.ofString "W", .ref ww), (Str.ofString "N", .ref n), (Str.ofString "E", .ref e)] →
  (ia, listOf #[.ref r1, .ref r2] k) ∈ l → RowIn w l r1 ownT → RowIn w l r2 (.ad .W (.str (Str.ofString "'a")) .par) →
  AdtIn w l n vn → VarN l vn → AdtIn w l e ve → VarE l ve → WorldIn w l (.ref x)
theorem RowIn.mono {w : World} {l l' : Led} {r : Addr} {t : Ty} (h : RowIn w l r t) (s : ∀ p ∈ l, p ∈ l') : RowIn w l' r t := by
  cases h with
  | mk a b i => exact .mk (s _ a) (s _ b) (i.mono s)
theorem AdtIn.mono {w : World} {l l' : Led} {x va : Addr} (h : AdtIn w l x va) (s : ∀ p ∈ l, p ∈ l') : AdtIn w l' x va := by
  cases h with
  | mk a b c e => exact .mk (s _ a) (s _ b) (s _ c) (s _ e)
theorem VarN.mono {l l' : Led} {va : Addr} (h : VarN l va) (s : ∀ p ∈ l, p ∈ l') : VarN l' va := by
  cases h with
  | mk a b c e f g h => exact .mk (s _ a) (s _ b) (s _ c) (s _ e) (f.mono s) (s _ g) (h.mono s)
theorem VarE.mono {l l' : Led} {va : Addr} (h : VarE l va) (s : ∀ p ∈ l, p ∈ l') : VarE l' va := by
  cases h with
  | mk a b c e f g h i j k m => exact .mk (s _ a) (s _ b) (s _ c) (s _ e) (f.mono s) (s _ g) (s _ h) (s _ i) (j.mono s) (s _ k) (m.mono s)
theorem WorldIn.mono {w : World} {l l' : Led} {v : Value} (h : WorldIn w l v) (s : ∀ p ∈ l, p ∈ l') : WorldIn w l' v := by
  cases h with
  | mk a b c d e f g h i j k => exact .mk (s _ a) (s _ b) (s _ c) d (s _ e) (f.mono s) (g.mono s) (h.mono s) (i.mono s) (j.mono s) (k.mono s)
section
variable {w : World} {p : Program} {loose : List Str} {mean : ExcName → Option Value} {mg mb : Str → Option Value}
section
variable {dp un : Nat} {gd : Option (List Code)} {cn : Str} {cs : Scope} {a : Addr} {ccd : Value} {cl : List (Str × Addr)} {outer : List Env} {A₀ : Around} {base h₀ : Heap} {L : Addr} {m : Str → Option Value} {s : Shared} {led : Led} {v1 v2 v3 v4 v5 v6 v7 : Value} {Q E : Value → Shared → Prop}
theorem adt_use (B : Below A₀ base outer h₀) (F : Fr h₀ L s.heap m) (X : (hd.heap_39 w.params).In h₀) (N : News h₀ L s.heap led) (T : Top p loose mean mg mb h₀) (hk : cs.kind = .function) (rd : dp + 10 < recursionLimit) (ru : un + 100 < cLine)
    (ret : ∀ x dx t1 t2 t3 t4 t5 t6 t7 h' tk', Fr h₀ L h' m → News h₀ L h' ((x, instObj 132 dx) :: (dx, adtD w t1 t2 t3 t4 t5 t6 t7 v1 v2 v3 v4 v5) :: led) → AllLt dx led → dx < x → Q (.ref x) { s with heap := h', toks := tk' }) :
    wpAny (model P0 w) (ktrTop dp un gd cn cs L a ccd cl outer) (call (.ref 132) [v1, v2, v3, v4, v5]) Q E s := adt_new _ _ _ _ _ _ _ _ _ _ _ _ _ _ _ _ _ _ _ _ _ _ _ B F X N T hk rd ru ret
theorem row_use (B : Below A₀ base outer h₀) (F : Fr h₀ L s.heap m) (X : (hd.heap_39 w.params).In h₀) (N : News h₀ L s.heap led) (T : Top p loose mean mg mb h₀) (hk : cs.kind = .function) (rd : dp + 10 < recursionLimit) (ru : un + 100 < cLine)
    (ret : ∀ x dx t1 t2 t3 t4 t5 t6 t7 t8 v8 h' tk', Fr h₀ L h' m → News h₀ L h' ((x, instObj 154 dx) :: (dx, rowD w t1 t2 t3 t4 t5 t6 t7 t8 v1 v2 v3 v4 v5 v6 v7 v8) :: led) → AllLt dx led → dx < x → Q (.ref x) { s with heap := h', toks := tk' }) :
    wpAny (model P0 w) (ktrTop dp un gd cn cs L a ccd cl outer) (call (.ref 154) [v1, v2, v3, v4, v5, v6, v7]) Q E s := row_new _ _ _ _ _ _ _ _ _ _ _ _ _ _ _ _ _ _ _ _ _ _ _ _ _ B F X N T hk rd ru ret
theorem wld_use (B : Below A₀ base outer h₀) (F : Fr h₀ L s.heap m) (X : (hd.heap_39 w.params).In h₀) (N : News h₀ L s.heap led) (T : Top p loose mean mg mb h₀) (hk : cs.kind = .function) (rd : dp + 10 < recursionLimit) (ru : un + 100 < cLine)
    (ret : ∀ x dx da ia o t1 t2 t3 t4 t5 t6 t7 t8 v3 v4 v5 v7 v8 h' tk', Fr h₀ L h' m → News h₀ L h' ((x, instObj 183 dx) :: (dx, wldD w t1 t2 t3 t4 t5 t6 t7 t8 .none (.ref da) v3 v4 v5 (.ref ia) v7 v8) :: (da, o) :: (ia, listOf #[] 0) :: led) → o.IsDictOf (strKind P0 w) [] →
      da ≠ x → da ≠ dx → ia ≠ x → ia ≠ dx → ia ≠ da → Off da led → Off ia led → AllLt dx led → dx < x → Q (.ref x) { s with heap := h', toks := tk' }) :
    wpAny (model P0 w) (ktrTop dp un gd cn cs L a ccd cl outer) (call (.ref 183) [.none]) Q E s := wld_new _ _ _ _ _ _ _ _ _ _ _ _ _ _ _ _ _ _ B F X N T hk rd ru ret
end
theorem own_lines_5 : True := by
  (k_with "mine reg" =>
    exact RegIs.str _ _)
  (k_with "call ref" =>
    (k_here; (with_reducible show wpAny _ _ (call (Value.ref 132) _) _ _ _); k_dflt ((first | (with_reducible refine' adt_use ?q115B ?q115F ?q115X ?q115N ?q115T ?q115k ?q115d ?q115u ?_) | refine' adt_use ?q115B ?q115F ?q115X ?q115N ?q115T ?q115k ?q115d ?q115u ?_); (case q115F => k_asm); (case q115N => k_asm); (case q115X => k_asm); (case q115T => k_asm); (case q115B => k_asm); (case q115k => first | exact rfl | assumption); (case q115d => k_extra "mine ktr_room"); (case q115u => k_extra "mine ktr_units"); k_whole; intro x9 d9 t1 t2 t3 t4 t5 t6 t7 h9 tk9 F9 N9 l1 l2; (try k_fold))))
  (k_with "call ref" =>
    (k_here; (with_reducible show wpAny _ _ (call (Value.ref 154) _) _ _ _); k_dflt ((first | (with_reducible refine' row_use ?q116B ?q116F ?q116X ?q116N ?q116T ?q116k ?q116d ?q116u ?_) | refine' row_use ?q116B ?q116F ?q116X ?q116N ?q116T ?q116k ?q116d ?q116u ?_); (case q116F => k_asm); (case q116N => k_asm); (case q116X => k_asm); (case q116T => k_asm); (case q116B => k_asm); (case q116k => first | exact rfl | assumption); (case q116d => k_extra "mine ktr_room"); (case q116u => k_extra "mine ktr_units"); k_whole; intro x9 d9 t1 t2 t3 t4 t5 t6 t7 t8 v8 h9 tk9 F9 N9 l1 l2; (try k_fold))))
  (k_with "call ref" =>
    (k_here; (with_reducible show wpAny _ _ (call (Value.ref 183) _) _ _ _); k_dflt ((first | (with_reducible refine' wld_use ?q117B ?q117F ?q117X ?q117N ?q117T ?q117k ?q117d ?q117u ?_) | refine' wld_use ?q117B ?q117F ?q117X ?q117N ?q117T ?q117k ?q117d ?q117u ?_); (case q117F => k_asm); (case q117N => k_asm); (case q117X => k_asm); (case q117T => k_asm); (case q117B => k_asm); (case q117k => first | exact rfl | assumption); (case q117d => k_extra "mine ktr_room"); (case q117u => k_extra "mine ktr_units"); k_whole; intro x9 d9 da9 ia9 o9 t1 t2 t3 t4 t5 t6 t7 t8 v3 v4 v5 v7 v8 h9 tk9 F9 N9 hd9 e1 e2 e3 e4 e5 f1 f2 l1 l2; (try k_fold))))
  (k_with "mine halt" =>
    first
      | ((with_reducible show wpAny _ _ (execs (Stmt.Assign [Expr.Subscript _ _ _] _ _ :: _) (envOf (Str.ofString "_law_world") _ _ _ _)) _ _ _); (refine stop_i ?_))
      | ((with_reducible show wpAny _ _ (execs (Stmt.Expr _ _ :: _) (envOf (Str.ofString "_law_world") _ _ _ _)) _ _ _); (refine stop_i ?_)))
  trivial
theorem law_world : ∀ (dp un : Nat) (gd : Option (List Code)) (cn : Str) (cs : Scope) (a : Addr) (ccd : Value) (cl : List (Str × Addr)) (outer : List Env) (A₀ : Around) (base h₀ : Heap) (L : Addr) (m : Str → Option Value) (s : Shared) (led : Led)
    (Q E : Value → Shared → Prop),
    Below A₀ base outer h₀ → Fr h₀ L s.heap m → (hd.heap_39 w.params).In h₀ → News h₀ L s.heap led → Top p loose mean mg mb h₀ → cs.kind = .function → dp + 20 < recursionLimit → un + 200 < cLine →
    (∀ r tl h' tk', Fr h₀ L h' m → News h₀ L h' (tl ++ led) → Apart led tl → WorldIn w (tl ++ []) r → Q r { s with heap := h', toks := tk' }) →
    wpAny (model P0 w) (ktrTop dp un gd cn cs L a ccd cl outer) (call (.ref 236) []) Q E s := (by exact unwrap _ : Wrap _ (by
  intro dp un gd cn cs a ccd cl outer A₀ base h₀ L m s led Q E B F X N T hk rd ru hret
  k_dflt (k_extra "mine in")
  k_steps
  unfold Stop
  refine' seal2 (led := led) (a := da9) (b := ia9) ?zzsN ?zzsP ?zzse ?zzsO ?_
  case zzsN => k_asm
  case zzsP => k_extra "mine kaf_pre"
  case zzse => k_extra "mine keq_hits"
  case zzsO => k_extra "mine kaf_suf"
  rename News _ _ _ _ => cN9
  clear cN9
  intro T1 N1 ap1 o1 p1 o1' p1' s1
  have w1 : (x9, instObj 183 d9) ∈ T1 := s1 _ (by k_extra "mine lsm_bools")
  have w2 := s1 (d9, _) (by k_extra "mine lsm_bools")
  refine x_seq ?_
  intro Q1 hn1 hr1
  k_steps
  unfold Stop
  refine' seal2 (led := led) (a := da9) (b := ia9) ?zzsN ?zzsP ?zzse ?zzsO ?_
  case zzsN => k_asm
  case zzsP => k_extra "mine kaf_pre"
  case zzse => k_extra "mine keq_hits"
  case zzsO => k_extra "mine kaf_suf"
  rename News _ _ _ _ => cN9
  clear cN9
  intro T2 N2 ap2 o2 p2 o2' p2' s2
  have u2 : ∀ p ∈ T1, p ∈ T2 := fun p hp => s2 p (sub_use (by k_extra "mine kfm_turns") hp)
  replace w1 := u2 _ w1
  replace w2 := u2 _ w2
  clear s2
  refine x_seq ?_
  intro Q2 hn2 hr2
  k_steps
  unfold Stop
  refine' seal2 (led := led) (a := da9) (b := ia9) ?zzsN ?zzsP ?zzse ?zzsO ?_
  case zzsN => k_asm
  case zzsP => k_extra "mine kaf_pre"
  case zzse => k_extra "mine keq_hits"
  case zzsO => k_extra "mine kaf_suf"
  rename News _ _ _ _ => cN9
  clear cN9
  intro T3 N3 ap3 o3 p3 o3' p3' s3
  have u3 : ∀ p ∈ T2, p ∈ T3 := fun p hp => s3 p (sub_use (by k_extra "mine kfm_turns") hp)
  replace w1 := u3 _ w1
  replace w2 := u3 _ w2
  clear s3
  refine x_seq ?_
  intro Q3 hn3 hr3
  k_steps
  unfold Stop
  refine' seal2 (led := led) (a := da9) (b := ia9) ?zzsN ?zzsP ?zzse ?zzsO ?_
  case zzsN => k_asm
  case zzsP => k_extra "mine kaf_pre"
  case zzse => k_extra "mine keq_hits"
  case zzsO => k_extra "mine kaf_suf"
  rename News _ _ _ _ => cN9
  clear cN9
  intro T4 N4 ap4 o4 p4 o4' p4' s4
  have u4 : ∀ p ∈ T3, p ∈ T4 := fun p hp => s4 p (sub_use (by k_extra "mine kfm_turns") hp)
  replace w1 := u4 _ w1
  replace w2 := u4 _ w2
  have t4 := s4
  obtain ⟨vN, aN, bN⟩ : ∃ va, AdtIn w T4 x9 va ∧ VarN T4 va := by
    refine' ⟨_, AdtIn.mk ?zzd1 ?zzd2 ?zzd3 ?zzd4, VarN.mk ?zze1 ?zze2 ?zze3 ?zze4 ?zze5 ?zze6 ?zze7⟩
    case zzd1 => exact s4 (x9, _) (by k_extra "mine lsm_bools")
    case zzd2 => exact s4 _ (by k_extra "mine lsm_bools")
    case zzd3 => exact s4 _ (by k_extra "mine lsm_bools")
    case zzd4 => exact s4 _ (by k_extra "mine lsm_bools")
    case zze1 => exact s4 _ (by k_extra "mine lsm_bools")
    case zze2 => exact s4 _ (by k_extra "mine lsm_bools")
    case zze3 => exact s4 _ (by k_extra "mine lsm_bools")
    case zze4 => exact s4 _ (by k_extra "mine lsm_bools")
    case zze5 => k_extra "mine par"
    case zze6 => exact s4 _ (by k_extra "mine lsm_bools")
    case zze7 => k_extra "mine g"
  clear s4
  refine x_seq ?_
  intro Q4 hn4 hr4
  k_steps
  unfold Stop
  refine' seal2 (led := led) (a := da9) (b := ia9) ?zzsN ?zzsP ?zzse ?zzsO ?_
  case zzsN => k_asm
  case zzsP => k_extra "mine kaf_pre"
  case zzse => k_extra "mine keq_hits"
  case zzsO => k_extra "mine kaf_suf"
  rename News _ _ _ _ => cN9
  clear cN9
  intro T5 N5 ap5 o5 p5 o5' p5' s5
  have u5 : ∀ p ∈ T4, p ∈ T5 := fun p hp => s5 p (sub_use (by k_extra "mine kfm_turns") hp)
  replace w1 := u5 _ w1
  replace w2 := u5 _ w2
  have t5 := s5
  obtain ⟨vE, aE, bE⟩ : ∃ va, AdtIn w T5 x9 va ∧ VarE T5 va := by
    refine' ⟨_, AdtIn.mk ?zzd1 ?zzd2 ?zzd3 ?zzd4, VarE.mk ?zze1 ?zze2 ?zze3 ?zze4 ?zze5 ?zze6 ?zze7 ?zze8 ?zze9 ?zze10 ?zze11⟩
    case zzd1 => exact s5 (x9, _) (by k_extra "mine lsm_bools")
    case zzd2 => exact s5 _ (by k_extra "mine lsm_bools")
    case zzd3 => exact s5 _ (by k_extra "mine lsm_bools")
    case zzd4 => exact s5 _ (by k_extra "mine lsm_bools")
    case zze1 => exact s5 _ (by k_extra "mine lsm_bools")
    case zze2 => exact s5 _ (by k_extra "mine lsm_bools")
    case zze3 => exact s5 _ (by k_extra "mine lsm_bools")
    case zze4 => exact s5 _ (by k_extra "mine lsm_bools")
    case zze5 => k_extra "mine par"
    case zze6 => exact s5 _ (by k_extra "mine lsm_bools")
    case zze7 => exact s5 _ (by k_extra "mine lsm_bools")
    case zze8 => exact s5 _ (by k_extra "mine lsm_bools")
    case zze9 => k_extra "mine g"
    case zze10 => exact s5 _ (by k_extra "mine lsm_bools")
    case zze11 => k_extra "mine byte"
  replace aN := aN.mono u5
  replace bN := bN.mono u5
  clear t5
  clear s5
  refine x_seq ?_
  intro Q5 hn5 hr5
  k_steps
  unfold Stop
  refine' seal2 (led := led) (a := da9) (b := ia9) ?zzsN ?zzsP ?zzse ?zzsO ?_
  case zzsN => k_asm
  case zzsP => k_extra "mine kaf_pre"
  case zzse => k_extra "mine keq_hits"
  case zzsO => k_extra "mine kaf_suf"
  rename News _ _ _ _ => cN9
  clear cN9
  intro T6 N6 ap6 o6 p6 o6' p6' s6
  have u6 : ∀ p ∈ T5, p ∈ T6 := fun p hp => s6 p (sub_use (by k_extra "mine kfm_turns") hp)
  replace w1 := u6 _ w1
  replace w2 := u6 _ w2
  have c1 : RowIn w T6 x9 ownT := by
    refine' RowIn.mk ?zzf1 ?zzf2 ?zzf3
    case zzf1 => exact s6 (x9, _) (by k_extra "mine lsm_bools")
    case zzf2 => exact s6 _ (by k_extra "mine lsm_bools")
    case zzf3 => k_extra "mine g"
  replace aN := aN.mono u6
  replace bN := bN.mono u6
  replace aE := aE.mono u6
  replace bE := bE.mono u6
  clear s6
  refine x_seq ?_
  intro Q6 hn6 hr6
  k_steps
  refine' fin1 (led := led) (news := []) (Out := fun nw r => WorldIn w nw r) hret (by k_asm) (by k_asm) ?zze ?zzo
  case zze => k_extra "mine keq_hits"
  case zzo =>
    simp only [List.append_nil, List.nil_append, List.cons_append]
    refine' WorldIn.mk ?zza1 ?zza2 ?zza3 ?zza4 ?zza5 ?zzb1 (RowIn.mk ?zzc1 ?zzc2 ?zzc3) ?zzb2 ?zzb3 ?zzb4 ?zzb5
    case zza4 => assumption
    case zza1 => k_extra "mine lsm_bools"
    case zza2 => k_extra "mine lsm_bools"
    case zza3 => k_extra "mine lsm_bools"
    case zza5 => k_extra "mine lsm_bools"
    case zzc1 => k_extra "mine lsm_bools"
    case zzc2 => k_extra "mine lsm_bools"
    case zzc3 => (refine' TyIn.ad ?zzm1 ?zzm2 ?zzm3 ?zzt1 ?zzt2; (case zzm1 => k_extra "mine lsm_bools"); (case zzm2 => k_extra "mine lsm_bools"); (case zzm3 => k_extra "mine lsm_bools"); (case zzt1 => k_extra "mine reg"); (case zzt2 => k_extra "mine par"))
    case zzb1 => exact c1.mono (by k_extra "mine kfm_turns")
    case zzb2 => exact aN.mono (by k_extra "mine kfm_turns")
    case zzb3 => exact bN.mono (by k_extra "mine kfm_turns")
    case zzb4 => exact aE.mono (by k_extra "mine kfm_turns")
    case zzb5 => exact bE.mono (by k_extra "mine kfm_turns")))
end
def Ty.own : Ty → Bool
  | .g _ => true
  | .ad .W _ _ => true
  | _ => false
def Ty.isAdt : Ty → Bool
  | .g _ => true
  | .ad _ _ _ => true
  | _ => false
section
variable {w : World} {p : Program} {loose : List Str} {mean : ExcName → Option Value} {mg mb : Str → Option Value}
section
variable {t : Ty} {v : Value} {news : Led} {dp un : Nat} {gd : Option (List Code)} {cn : Str} {cs : Scope} {a : Addr} {ccd : Value} {cl : List (Str × Addr)} {outer : List Env} {A₀ : Around} {base h₀ : Heap} {L : Addr} {m : Str → Option Value} {s : Shared} {led : Led}
    {Q E : Value → Shared → Prop}
theorem wrNone_all (B : Below A₀ base outer h₀) (F : Fr h₀ L s.heap m) (X : (hd.heap_39 w.params).In h₀) (N : News h₀ L s.heap led) (R : TyIn news v t) (sub : ∀ p ∈ news, p ∈ led) (T : Top p loose mean mg mb h₀) (hk : cs.kind = .function) (rd : dp + (4 * t.deep + 4) < recursionLimit) (ru : un + (40 * t.deep + 40) < cLine)
    (ret : ∀ r tl h' tk', Fr h₀ L h' m → News h₀ L h' (tl ++ led) → Apart led tl → TyIn (tl ++ led) r t.erase → Q r { s with heap := h', toks := tk' }) :
    wpAny (model P0 w) (ktrTop dp un gd cn cs L a ccd cl outer) (call (.ref 45) [v, .ref 52]) Q E s :=
  (wr_none t v news R).use B F X N sub T hk rd ru fun r tl h' tk' F' N' A' O' => ret r tl h' tk' F' N' A' (O'.mono (sub_appL sub_here (sub_app sub)))
theorem wrNone_g {r : Reg} (B : Below A₀ base outer h₀) (F : Fr h₀ L s.heap m) (X : (hd.heap_39 w.params).In h₀) (N : News h₀ L s.heap led) (R : TyIn news v (.g r)) (sub : ∀ p ∈ news, p ∈ led) (T : Top p loose mean mg mb h₀) (hk : cs.kind = .function) (rd : dp + 8 < recursionLimit) (ru : un + 80 < cLine)
    (ret : ∀ a b c k1 k2 tl h' tk', Fr h₀ L h' m → News h₀ L h' (tl ++ led) → Apart led tl → (a, tupO [st "adt" k1, st "G" k2, .ref b, .ref c]) ∈ tl ++ led → (c, tupO []) ∈ tl ++ led → Q (.ref a) { s with heap := h', toks := tk' }) :
    wpAny (model P0 w) (ktrTop dp un gd cn cs L a ccd cl outer) (call (.ref 45) [v, .ref 52]) Q E s :=
  wrNone_all B F X N R sub T hk rd ru fun r tl h' tk' F' N' A' O' => by
    cases O' with
    | g m1 _ m3 _ => exact ret _ _ _ _ _ tl h' tk' F' N' A' m1 m3
theorem wrNone_ad {n : Nm} {r : Reg} {t : Ty} (B : Below A₀ base outer h₀) (F : Fr h₀ L s.heap m) (X : (hd.heap_39 w.params).In h₀) (N : News h₀ L s.heap led) (R : TyIn news v (.ad n r t)) (sub : ∀ p ∈ news, p ∈ led) (T : Top p loose mean mg mb h₀) (hk : cs.kind = .function) (rd : dp + (4 * t.deep + 8) < recursionLimit) (ru : un + (40 * t.deep + 80) < cLine)
    (ret : ∀ a b c u k1 k2 tl h' tk', Fr h₀ L h' m → News h₀ L h' (tl ++ led) → Apart led tl → (a, tupO [st "adt" k1, .str n.s k2, .ref b, .ref c]) ∈ tl ++ led → (c, tupO [u]) ∈ tl ++ led → Q (.ref a) { s with heap := h', toks := tk' }) :
    wpAny (model P0 w) (ktrTop dp un gd cn cs L a ccd cl outer) (call (.ref 45) [v, .ref 52]) Q E s :=
  wrNone_all B F X N R sub T hk rd ru fun r tl h' tk' F' N' A' O' => by
    cases O' with
    | ad m1 _ m3 _ _ => exact ret _ _ _ _ _ _ tl h' tk' F' N' A' m1 m3
theorem wrNone_W {r : Reg} (B : Below A₀ base outer h₀) (F : Fr h₀ L s.heap m) (X : (hd.heap_39 w.params).In h₀) (N : News h₀ L s.heap led) (R : TyIn news v (.ad .W r .par)) (sub : ∀ p ∈ news, p ∈ led) (T : Top p loose mean mg mb h₀) (hk : cs.kind = .function) (rd : dp + 12 < recursionLimit) (ru : un + 120 < cLine)
    (ret : ∀ a b c u k1 k2 k3 k4 tl h' tk', Fr h₀ L h' m → News h₀ L h' (tl ++ led) → Apart led tl → (a, tupO [st "adt" k1, st "W" k2, .ref b, .ref c]) ∈ tl ++ led → (c, tupO [.ref u]) ∈ tl ++ led → (u, tupO [st "param" k3, st "T" k4]) ∈ tl ++ led → Q (.ref a) { s with heap := h', toks := tk' }) :
    wpAny (model P0 w) (ktrTop dp un gd cn cs L a ccd cl outer) (call (.ref 45) [v, .ref 52]) Q E s :=
  wrNone_all B F X N R sub T hk rd ru fun r tl h' tk' F' N' A' O' => by
    cases O' with
    | ad m1 _ m3 _ m5 => cases m5 with
      | par m6 => exact ret _ _ _ _ _ _ _ _ tl h' tk' F' N' A' m1 m3 m6
end
theorem own_lines_6 : True := by
  (k_with "call ref" =>
    (k_here; (with_reducible show wpAny _ _ (call (Value.ref 45) _) _ _ _); k_dflt (first
      | ((first | (with_reducible refine' wrNone_g ?q119B ?q119F ?q119X ?q119N ?q119R ?q119S ?q119T ?q119k ?q119d ?q119u ?_) | refine' wrNone_g ?q119B ?q119F ?q119X ?q119N ?q119R ?q119S ?q119T ?q119k ?q119d ?q119u ?_); (case q119F => k_asm); (case q119N => k_asm); (case q119X => k_asm); (case q119R => with_reducible assumption); (case q119S => k_extra "mine kfm_turns"); (case q119T => k_asm); (case q119B => k_asm); (case q119k => first | exact rfl | assumption); (case q119d => k_extra "mine ktr_room"); (case q119u => k_extra "mine ktr_units"); k_whole; intro a9 b9 c9 k1 k2 tl9 h9 tk9 F9 N9 ap9 m1 m3)
      | ((first | (with_reducible refine' wrNone_W ?q119B ?q119F ?q119X ?q119N ?q119R ?q119S ?q119T ?q119k ?q119d ?q119u ?_) | refine' wrNone_W ?q119B ?q119F ?q119X ?q119N ?q119R ?q119S ?q119T ?q119k ?q119d ?q119u ?_); (case q119F => k_asm); (case q119N => k_asm); (case q119X => k_asm); (case q119R => with_reducible assumption); (case q119S => k_extra "mine kfm_turns"); (case q119T => k_asm); (case q119B => k_asm); (case q119k => first | exact rfl | assumption); (case q119d => k_extra "mine ktr_room"); (case q119u => k_extra "mine ktr_units"); k_whole; intro a9 b9 c9 u9 k1 k2 k3 k4 tl9 h9 tk9 F9 N9 ap9 m1 m3 m6)
      | ((first | (with_reducible refine' wrNone_ad ?q119B ?q119F ?q119X ?q119N ?q119R ?q119S ?q119T ?q119k ?q119d ?q119u ?_) | refine' wrNone_ad ?q119B ?q119F ?q119X ?q119N ?q119R ?q119S ?q119T ?q119k ?q119d ?q119u ?_); (case q119F => k_asm); (case q119N => k_asm); (case q119X => k_asm); (case q119R => with_reducible assumption); (case q119S => k_extra "mine kfm_turns"); (case q119T => k_asm); (case q119B => k_asm); (case q119k => first | exact rfl | assumption); (case q119d => k_extra "mine ktr_room"); (case q119u => k_extra "mine ktr_units"); k_whole; intro a9 b9 c9 u9 k1 k2 tl9 h9 tk9 F9 N9 ap9 m1 m3))))
  trivial
theorem has_own_g (r : Reg) (v wv : Value) (news : Led) (hR : TyIn news v (Ty.g r)) (hW : WorldIn w news wv) : Reads1 w p loose mean mg mb 99 [v, wv] news (4 * ((Ty.g r)).deep + 40) (40 * ((Ty.g r)).deep + 400) (fun _ r => r = .bool true) := (by exact unwrap _ : Wrap _ (by
  intro dp un gd cn cs a ccd cl outer A₀ base h₀ L m s led Q E B F X N hsub T hk rd ru hret
  replace hR := hR.mono hsub
  replace hW := hW.mono hsub
  cases hW with
  | mk m1 m2 m3 m4 m5 W1 W2 m6 m7 m8 m9 =>
  clear m6 m7 m8 m9 m3 m4
  cases W1 with
  | mk n1 n2 n3 =>
  cases W2 with
  | mk n4 n5 n6 =>
  simp only [Ty.deep] at rd ru
  have hR' := hR
  cases hR using TyIn.inv_g with
  | mk h1 h2 h3 h4 =>
  k_dflt (k_extra "mine in")
  k_steps
  first
    | (refine' fin1 (led := led) (news := news) (Out := fun _ r => r = .bool true) hret (by k_asm) (by k_asm) ?zze rfl; (case zze => k_extra "mine keq_hits"))
    | (fail "fin")))
theorem has_own_W (r : Reg) (t : Ty) (v wv : Value) (news : Led) (hR : TyIn news v (Ty.ad .W r t)) (hW : WorldIn w news wv) : Reads1 w p loose mean mg mb 99 [v, wv] news (4 * ((Ty.ad .W r t)).deep + 40) (40 * ((Ty.ad .W r t)).deep + 400) (fun _ r => r = .bool true) := (by exact unwrap _ : Wrap _ (by
  intro dp un gd cn cs a ccd cl outer A₀ base h₀ L m s led Q E B F X N hsub T hk rd ru hret
  replace hR := hR.mono hsub
  replace hW := hW.mono hsub
  cases hW with
  | mk m1 m2 m3 m4 m5 W1 W2 m6 m7 m8 m9 =>
  clear m6 m7 m8 m9 m3 m4
  cases W1 with
  | mk n1 n2 n3 =>
  cases W2 with
  | mk n4 n5 n6 =>
  simp only [Ty.deep] at rd ru
  have hR' := hR
  cases hR using TyIn.inv_ad with
  | mk h1 h2 h3 h4 h5 =>
  k_dflt (k_extra "mine in")
  k_steps
  first
    | (refine' fin1 (led := led) (news := news) (Out := fun _ r => r = .bool true) hret (by k_asm) (by k_asm) ?zze rfl; (case zze => k_extra "mine keq_hits"))
    | (fail "fin")))
theorem has_own_N (r : Reg) (t : Ty) (v wv : Value) (news : Led) (hR : TyIn news v (Ty.ad .N r t)) (hW : WorldIn w news wv) : Reads1 w p loose mean mg mb 99 [v, wv] news (4 * ((Ty.ad .N r t)).deep + 40) (40 * ((Ty.ad .N r t)).deep + 400) (fun _ r => r = .bool false) := (by exact unwrap _ : Wrap _ (by
  intro dp un gd cn cs a ccd cl outer A₀ base h₀ L m s led Q E B F X N hsub T hk rd ru hret
  replace hR := hR.mono hsub
  replace hW := hW.mono hsub
  cases hW with
  | mk m1 m2 m3 m4 m5 W1 W2 m6 m7 m8 m9 =>
  clear m6 m7 m8 m9 m3 m4
  cases W1 with
  | mk n1 n2 n3 =>
  cases W2 with
  | mk n4 n5 n6 =>
  simp only [Ty.deep] at rd ru
  have hR' := hR
  cases hR using TyIn.inv_ad with
  | mk h1 h2 h3 h4 h5 =>
  k_dflt (k_extra "mine in")
  k_steps
  first
    | (refine' fin1 (led := led) (news := news) (Out := fun _ r => r = .bool false) hret (by k_asm) (by k_asm) ?zze rfl; (case zze => k_extra "mine keq_hits"))
    | (fail "fin")))
theorem has_own_E (r : Reg) (t : Ty) (v wv : Value) (news : Led) (hR : TyIn news v (Ty.ad .E r t)) (hW : WorldIn w news wv) : Reads1 w p loose mean mg mb 99 [v, wv] news (4 * ((Ty.ad .E r t)).deep + 40) (40 * ((Ty.ad .E r t)).deep + 400) (fun _ r => r = .bool false) := (by exact unwrap _ : Wrap _ (by
  intro dp un gd cn cs a ccd cl outer A₀ base h₀ L m s led Q E B F X N hsub T hk rd ru hret
  replace hR := hR.mono hsub
  replace hW := hW.mono hsub
  cases hW with
  | mk m1 m2 m3 m4 m5 W1 W2 m6 m7 m8 m9 =>
  clear m6 m7 m8 m9 m3 m4
  cases W1 with
  | mk n1 n2 n3 =>
  cases W2 with
  | mk n4 n5 n6 =>
  simp only [Ty.deep] at rd ru
  have hR' := hR
  cases hR using TyIn.inv_ad with
  | mk h1 h2 h3 h4 h5 =>
  k_dflt (k_extra "mine in")
  k_steps
  first
    | (refine' fin1 (led := led) (news := news) (Out := fun _ r => r = .bool false) hret (by k_asm) (by k_asm) ?zze rfl; (case zze => k_extra "mine keq_hits"))
    | (fail "fin")))
theorem has_own (t : Ty) (ht : t.isAdt = true) (v wv : Value) (news : Led) (hR : TyIn news v t) (hW : WorldIn w news wv) : Reads1 w p loose mean mg mb 99 [v, wv] news (4 * t.deep + 40) (40 * t.deep + 400) (fun _ r => r = .bool t.own) := by
  cases t with
  | g r => exact has_own_g r v wv news hR hW
  | ad n r t =>
    cases n with
    | W => exact has_own_W r t v wv news hR hW
    | N => exact has_own_N r t v wv news hR hW
    | E => exact has_own_E r t v wv news hR hW
  | byte => exact absurd ht Bool.false_ne_true
  | par => exact absurd ht Bool.false_ne_true
  | ref _ _ => exact absurd ht Bool.false_ne_true
  | box _ => exact absurd ht Bool.false_ne_true
  | arr _ => exact absurd ht Bool.false_ne_true
  | pair _ _ => exact absurd ht Bool.false_ne_true
end
/-- the table of fields_of's code: before its first call, and behind it -/
abbrev TabF (l : Led) (o : Obj) : Prop := Tab 78 4 (Str.ofString "fields_of.<locals>.put_in") l o
theorem TabF.mono {l l' : Led} {o : Obj} (h : TabF l o) (s : ∀ p ∈ l, p ∈ l') : TabF l' o := Tab.mono h s
/-- a list of fields -/
inductive FldsIn (tl l : Led) (fa : Addr) : List Ty → Prop
  | one {x : Addr} {s1 : Str} {q1 : Tok} {v1 : Value} {t : Ty} : (fa, LCg.lst [.ref x]) ∈ tl → (x, tupO [.str s1 q1, v1]) ∈ tl → TyIn l v1 t → FldsIn tl l fa [t]
  | two {x y : Addr} {s1 s2 : Str} {q1 q2 : Tok} {v1 v2 : Value} {t u : Ty} : (fa, LCg.lst [.ref x, .ref y]) ∈ tl → (x, tupO [.str s1 q1, v1]) ∈ tl → (y, tupO [.str s2 q2, v2]) ∈ tl → TyIn l v1 t → TyIn l v2 u → FldsIn tl l fa [t, u]
def FieldsOf (w : World) (p : Program) (loose : List Str) (mean : ExcName → Option Value) (mg mb : Str → Option Value) (t : Ty) (k : Int) (ts : List Ty) : Prop :=
  ∀ (v wv : Value) (kt : Tok) (news : Led), TyIn news v t → WorldIn w news wv →
  ∀ (dp un : Nat) (gd : Option (List Code)) (cn : Str) (cs : Scope) (a : Addr) (ccd : Value) (cl : List (Str × Addr)) (outer : List Env) (A₀ : Around) (base h₀ : Heap) (L : Addr) (m : Str → Option Value) (s : Shared) (led td : Led) (o : Obj)
    (Q E : Value → Shared → Prop),
    Below A₀ base outer h₀ → Fr h₀ L s.heap m → (hd.heap_39 w.params).In h₀ → News h₀ L s.heap ((82, o) :: led) → Off 82 led → (∀ p ∈ news, p ∈ led) → (∀ p ∈ td, p ∈ led) → TabF td o → Top p loose mean mg mb h₀ → cs.kind = .function → dp + 40 < recursionLimit → un + 400 < cLine →
    (∀ fl tl o' h' tk', Fr h₀ L h' m → News h₀ L h' ((82, o') :: (tl ++ led)) → Apart ((82, o) :: led) tl → TabF (tl ++ td) o' → FldsIn tl (tl ++ news) fl ts → Q (.ref fl) { s with heap := h', toks := tk' }) →
    wpAny (model P0 w) (ktrTop dp un gd cn cs L a ccd cl outer) (call (.ref 85) [v, .int k kt, wv]) Q E s
/-- a call of the closure that puts a region in -/
def PutOk (w : World) (p : Program) (loose : List Str) (mean : ExcName → Option Value) (mg mb : Str → Option Value) (pf : Addr) (rx : Value) (news : Led) : Prop :=
  ∀ (dp un : Nat) (gd : Option (List Code)) (cn : Str) (cs : Scope) (a : Addr) (ccd : Value) (cl : List (Str × Addr)) (outer : List Env) (A₀ : Around) (base h₀ : Heap) (L : Addr) (m : Str → Option Value) (s : Shared) (led : Led) (k : Tok)
    (Q E : Value → Shared → Prop),
    Below A₀ base outer h₀ → Fr h₀ L s.heap m → (hd.heap_39 w.params).In h₀ → News h₀ L s.heap led → (∀ p ∈ news, p ∈ led) → Top p loose mean mg mb h₀ → cs.kind = .function → dp + 4 < recursionLimit → un + 40 < cLine →
    (∀ h' tk', Fr h₀ L h' m → News h₀ L h' led → Q rx { s with heap := h', toks := tk' }) →
    wpAny (model P0 w) (ktrTop dp un gd cn cs L a ccd cl outer) (call (.ref pf) [.str (Str.ofString "'a") k]) Q E s
/-- `with_regions(v, put_in)` -/
def WrPut (w : World) (p : Program) (loose : List Str) (mean : ExcName → Option Value) (mg mb : Str → Option Value) (v : Value) (pf : Addr) (news fnews : Led) (Out : Led → Value → Prop) : Prop :=
  ∀ (dp un : Nat) (gd : Option (List Code)) (cn : Str) (cs : Scope) (a : Addr) (ccd : Value) (cl : List (Str × Addr)) (outer : List Env) (A₀ : Around) (base h₀ : Heap) (L : Addr) (m : Str → Option Value) (s : Shared) (led : Led)
    (Q E : Value → Shared → Prop),
    Below A₀ base outer h₀ → Fr h₀ L s.heap m → (hd.heap_39 w.params).In h₀ → News h₀ L s.heap led → (∀ p ∈ news, p ∈ led) → (∀ p ∈ fnews, p ∈ led) → Top p loose mean mg mb h₀ → cs.kind = .function → dp + 10 < recursionLimit → un + 100 < cLine →
    (∀ r tl h' tk', Fr h₀ L h' m → News h₀ L h' (tl ++ led) → Apart led tl → Out tl r → Q r { s with heap := h', toks := tk' }) →
    wpAny (model P0 w) (ktrTop dp un gd cn cs L a ccd cl outer) (call (.ref 45) [v, .ref pf]) Q E s
section
variable {w : World} {p : Program} {loose : List Str} {mean : ExcName → Option Value} {mg mb : Str → Option Value}
section
variable {dp un : Nat} {gd : Option (List Code)} {cn : Str} {cs : Scope} {a : Addr} {ccd : Value} {cl : List (Str × Addr)} {outer : List Env} {A₀ : Around} {base h₀ : Heap} {L : Addr} {m : Str → Option Value} {s : Shared} {led news fnews : Led}
    {Q E : Value → Shared → Prop}
theorem PutOk.use {pf : Addr} {rx : Value} {k : Tok} (C : PutOk w p loose mean mg mb pf rx news) (B : Below A₀ base outer h₀) (F : Fr h₀ L s.heap m) (X : (hd.heap_39 w.params).In h₀) (N : News h₀ L s.heap led) (sub : ∀ p ∈ news, p ∈ led) (T : Top p loose mean mg mb h₀) (hk : cs.kind = .function) (rd : dp + 4 < recursionLimit) (ru : un + 40 < cLine)
    (ret : ∀ h' tk', Fr h₀ L h' m → News h₀ L h' led → Q rx { s with heap := h', toks := tk' }) :
    wpAny (model P0 w) (ktrTop dp un gd cn cs L a ccd cl outer) (call (.ref pf) [.str (Str.ofString "'a") k]) Q E s := C _ _ _ _ _ _ _ _ _ _ _ _ _ _ _ _ _ _ _ B F X N sub T hk rd ru ret
theorem WrPut.use {v : Value} {pf : Addr} {Out : Led → Value → Prop} (C : WrPut w p loose mean mg mb v pf news fnews Out) (B : Below A₀ base outer h₀) (F : Fr h₀ L s.heap m) (X : (hd.heap_39 w.params).In h₀) (N : News h₀ L s.heap led) (sub : ∀ p ∈ news, p ∈ led) (sub2 : ∀ p ∈ fnews, p ∈ led) (T : Top p loose mean mg mb h₀) (hk : cs.kind = .function) (rd : dp + 10 < recursionLimit) (ru : un + 100 < cLine)
    (ret : ∀ r tl h' tk', Fr h₀ L h' m → News h₀ L h' (tl ++ led) → Apart led tl → Out tl r → Q r { s with heap := h', toks := tk' }) :
    wpAny (model P0 w) (ktrTop dp un gd cn cs L a ccd cl outer) (call (.ref 45) [v, .ref pf]) Q E s := C _ _ _ _ _ _ _ _ _ _ _ _ _ _ _ _ _ _ B F X N sub sub2 T hk rd ru ret
theorem fin6p {h' : Heap} {led' tl : Led} {Out : Led → Value → Prop} {r : Value} {tk' : Nat}
    (hret : ∀ r tl h' tk', Fr h₀ L h' m → News h₀ L h' (tl ++ led) → Apart led tl → Out tl r → Q r { s with heap := h', toks := tk' })
    (F : Fr h₀ L h' m) (N : News h₀ L h' led') (e : Ext led led' tl) (o : Out tl r) : Q r { s with heap := h', toks := tk' } :=
  hret r tl h' tk' F (e.eq ▸ N) e.apart o
end
theorem chg_put {pf : Addr} {rx : Value} {r : Reg} {kn : Led} (K : PutOk w p loose mean mg mb pf rx kn) (hx : RegIs rx r) : ChgOk w p loose mean mg mb pf none 1 (fun q => q = .str (Str.ofString "'a")) (fun _ => r) kn := by
  intro dp un gd cn cs a ccd cl outer A₀ base h₀ L m s led xs n rv r' Q E B F X N hoff hsub T hk rd ru hz hR hP hret
  subst hP
  cases hR
  exact K dp un gd cn cs a ccd cl outer A₀ base h₀ L m s led _ Q E B F X N hsub T hk rd ru fun h' tk' F' N' => hret rx xs n h' tk' F' N' hx ⟨fun _ e => (nomatch e), Nat.le_add_right _ _⟩
theorem wr_put {t : Ty} {v : Value} {pf : Addr} {bd : Nat} {P : Reg → Prop} {out : Reg → Reg} {news fnews : Led} {oc : Value} {od : Option Addr} {fd : FuncData} {sl : Array (Option Value)} (hR : TyIn news v t) (hM : (pf, (⟨oc, od, .func fd, sl⟩ : Obj)) ∈ fnews) (C : ChgOk w p loose mean mg mb pf none bd P out fnews) (hP : ∀ r ∈ t.regs, P r) (hd : t.deep = 1) (hz : t.regs.length ≤ bd) :
    WrPut w p loose mean mg mb v pf news fnews (fun tl r' => TyIn (tl ++ news) r' (t.mapR out)) := by
  intro dp un gd cn cs a ccd cl outer A₀ base h₀ L m s led Q E B F X N hsub hsub2 T hk rd ru hret
  exact wr_gen C (fun h₀ h L m led F X N S => FnAt.of N (S _ hM)) t v news hR hP dp un gd cn cs a ccd cl outer A₀ base h₀ L m s led [] 0 Q E B F X N (fun _ e => nomatch e) hsub hsub2 T hk (by rw [hd]; exact Nat.lt_of_le_of_lt (Nat.add_le_add_left (by decide) _) rd) (by rw [hd]; exact Nat.lt_of_le_of_lt (Nat.add_le_add_left (by decide) _) ru) (by rw [List.length_nil, Nat.zero_add]; exact hz) fun r tl zs n' h' tk' F' N' A' O' G' R' => hret r tl h' tk' F' N' A' R'
theorem chg_off {pf : Addr} {kn : Led} : ChgOk w p loose mean mg mb pf none 1 (fun _ => False) (fun r => r) kn := by
  intro dp un gd cn cs a ccd cl outer A₀ base h₀ L m s led xs n rv r' Q E B F X N hoff hsub T hk rd ru hz hR hP hret
  exact hP.elim
theorem wp_byte {v : Value} {pf : Addr} {news fnews : Led} {oc : Value} {od : Option Addr} {fd : FuncData} {sl : Array (Option Value)} (hR : TyIn news v .byte) (hM : (pf, (⟨oc, od, .func fd, sl⟩ : Obj)) ∈ fnews) : WrPut w p loose mean mg mb v pf news fnews (fun tl r => TyIn (tl ++ news) r .byte) :=
  wr_put hR hM chg_off (fun _ h => nomatch h) rfl (Nat.zero_le _)
theorem wp_par {v : Value} {pf : Addr} {news fnews : Led} {oc : Value} {od : Option Addr} {fd : FuncData} {sl : Array (Option Value)} (hR : TyIn news v .par) (hM : (pf, (⟨oc, od, .func fd, sl⟩ : Obj)) ∈ fnews) : WrPut w p loose mean mg mb v pf news fnews (fun tl r => TyIn (tl ++ news) r .par) :=
  wr_put hR hM chg_off (fun _ h => nomatch h) rfl (Nat.zero_le _)
theorem wp_g {v rx : Value} {pf : Addr} {r : Reg} {news fnews : Led} {oc : Value} {od : Option Addr} {fd : FuncData} {sl : Array (Option Value)} (hR : TyIn news v ownT) (hM : (pf, (⟨oc, od, .func fd, sl⟩ : Obj)) ∈ fnews) (hK : PutOk w p loose mean mg mb pf rx fnews) (hx : RegIs rx r) : WrPut w p loose mean mg mb v pf news fnews (fun tl r' => TyIn (tl ++ news) r' (.g r)) :=
  wr_put hR hM (chg_put hK hx) (fun q hq => List.mem_singleton.mp hq) rfl (Nat.le_refl _)
theorem sub_byte {v : Value} {d : Addr} {news : Led} (hR : TyIn news v .byte) : Reads1 w p loose mean mg mb 40 [v, .ref d] news 10 100 (fun _ r => r = v) := (by exact unwrap _ : Wrap _ (by
  cases hR using TyIn.inv_byte with
  | mk h1 =>
  intro dp un gd cn cs a ccd cl outer A₀ base h₀ L m s led Q E B F X N hsub T hk rd ru hret
  replace h1 := hsub _ h1
  k_dflt (k_extra "mine in")
  k_steps
  refine' fin1 (led := led) (news := news) (Out := fun _ r => r = .ref _) hret (by k_asm) (by k_asm) ?zze rfl; (case zze => k_extra "mine keq_hits")))
theorem sub_par {v tv : Value} {d : Addr} {od : Obj} {news : Led} (hR : TyIn news v .par) (hM : (d, od) ∈ news) (hd : od.IsDictOf (strKind P0 w) [(Str.ofString "T", tv)]) (lo : (d == sysModules) = false) : Reads1 w p loose mean mg mb 40 [v, .ref d] news 10 100 (fun _ r => r = tv) := (by exact unwrap _ : Wrap _ (by
  cases hR using TyIn.inv_par with
  | mk h1 =>
  intro dp un gd cn cs a ccd cl outer A₀ base h₀ L m s led Q E B F X N hsub T hk rd ru hret
  replace h1 := hsub _ h1
  replace hM := hsub _ hM
  k_dflt (k_extra "mine in")
  k_steps
  refine' fin1 (led := led) (news := news) (Out := fun _ r => r = tv) hret (by k_asm) (by k_asm) ?zze rfl; (case zze => k_extra "mine keq_hits")))
theorem sub_g {v : Value} {d : Addr} {r : Reg} {news : Led} (hR : TyIn news v (.g r)) : Reads1 w p loose mean mg mb 40 [v, .ref d] news 10 100 (fun nw r' => TyIn nw r' (.g r)) := (by exact unwrap _ : Wrap _ (by
  cases hR using TyIn.inv_g with
  | mk h1 h2 h3 h4 =>
  intro dp un gd cn cs a ccd cl outer A₀ base h₀ L m s led Q E B F X N hsub T hk rd ru hret
  have h1' := hsub _ h1
  have h2' := hsub _ h2
  have h3' := hsub _ h3
  k_dflt (k_extra "mine in")
  k_steps
  refine' fin1 (led := led) (news := news) (Out := fun nw r' => TyIn nw r' (.g r)) hret (by k_asm) (by k_asm) ?zze ?zzo; (case zze => k_extra "mine keq_hits"); (case zzo => ((try simp only [List.cons_append, List.append_assoc, List.nil_append]); k_extra "mine g"))))
end
section
variable {w : World} {p : Program} {loose : List Str} {mean : ExcName → Option Value} {mg mb : Str → Option Value}
section
variable {ts : List Ty} {dp un : Nat} {gd : Option (List Code)} {cn : Str} {cs : Scope} {a : Addr} {ccd : Value} {cl : List (Str × Addr)} {outer : List Env} {A₀ : Around} {base h₀ : Heap} {L : Addr} {m : Str → Option Value} {s : Shared} {led td news : Led} {o : Obj}
    {Q E : Value → Shared → Prop}
theorem fin4 {h' : Heap} {lf lr tl : Led} {o' : Obj} {fl : Addr} {tk' : Nat}
    (hret : ∀ fl tl o' h' tk', Fr h₀ L h' m → News h₀ L h' ((82, o') :: (tl ++ led)) → Apart ((82, o) :: led) tl → TabF (tl ++ td) o' → FldsIn tl (tl ++ news) fl ts → Q (.ref fl) { s with heap := h', toks := tk' })
    (F : Fr h₀ L h' m) (N : News h₀ L h' lf) (P : Pull (82, o') lf lr) (e : Ext led lr tl) (O : Off 82 lr) (D : TabF (tl ++ td) o') (M : FldsIn tl (tl ++ news) fl ts) : Q (.ref fl) { s with heap := h', toks := tk' } := by
  have N' := P.news N
  have h := e.apart
  have q := e.eq
  subst q
  refine hret fl tl o' h' tk' F N' (fun x hx y hy => ?_) D M
  rcases List.mem_cons.mp hx with rfl | hx
  · exact (O y (List.mem_append_left _ hy)).symm
  · exact h x hx y hy
end
theorem WrPut.use' {v : Value} {pf : Addr} {Out : Led → Value → Prop} {dp un : Nat} {gd : Option (List Code)} {cn : Str} {cs : Scope} {a : Addr} {ccd : Value} {cl : List (Str × Addr)} {outer : List Env} {A₀ : Around} {base h₀ : Heap} {L : Addr} {m : Str → Option Value} {s : Shared} {led news : Led}
    {Q E : Value → Shared → Prop} (C : WrPut w p loose mean mg mb v pf news led Out) (B : Below A₀ base outer h₀) (F : Fr h₀ L s.heap m) (X : (hd.heap_39 w.params).In h₀) (N : News h₀ L s.heap led) (sub : ∀ p ∈ news, p ∈ led) (T : Top p loose mean mg mb h₀) (hk : cs.kind = .function) (rd : dp + 10 < recursionLimit) (ru : un + 100 < cLine)
    (ret : ∀ r tl h' tk', Fr h₀ L h' m → News h₀ L h' (tl ++ led) → Apart led tl → Out tl r → Q r { s with heap := h', toks := tk' }) :
    wpAny (model P0 w) (ktrTop dp un gd cn cs L a ccd cl outer) (call (.ref 45) [v, .ref pf]) Q E s := C.use B F X N sub sub_refl T hk rd ru ret
theorem own_lines_7 : True := by
  (k_with "mine put" =>
    (unfold PutOk; intro dp9 un9 gd9 cn9 cs9 a9 ccd9 cl9 outer9 A9 base9 hh9 L9 m9 s9 led9 k9 Q9 E9 B9 F9 X9 N9 hsub9 T9 hk9 rd9 ru9 hret9; refine wpAny_call ?_; k_dflt (k_extra "mine nest"); k_steps; exact hret9 _ _ (by k_asm) (by k_asm)))
  (k_with "call ref" =>
    (k_here; (with_reducible show wpAny _ _ (call (Value.ref 45) _) _ _ _); k_dflt (first
      | ((first | (with_reducible refine' WrPut.use' (wp_par ?q121R ?q121M) ?q121B ?q121F ?q121X ?q121N ?q121S ?q121T ?q121k ?q121d ?q121u ?_) | refine' WrPut.use' (wp_par ?q121R ?q121M) ?q121B ?q121F ?q121X ?q121N ?q121S ?q121T ?q121k ?q121d ?q121u ?_); (case q121R => with_reducible assumption); (case q121F => k_asm); (case q121N => k_asm); (case q121X => k_asm); (case q121T => k_asm); (case q121B => k_asm); (case q121k => first | exact rfl | assumption); (case q121d => k_extra "mine ktr_room"); (case q121u => k_extra "mine ktr_units"); (case q121M => k_extra "mine lsm_bools"); (case q121S => k_extra "mine kfm_turns"); k_whole; intro r9 tl9 h9 tk9 F9 N9 ap9 e9; (try k_fold))
      | ((first | (with_reducible refine' WrPut.use' (wp_byte ?q121R ?q121M) ?q121B ?q121F ?q121X ?q121N ?q121S ?q121T ?q121k ?q121d ?q121u ?_) | refine' WrPut.use' (wp_byte ?q121R ?q121M) ?q121B ?q121F ?q121X ?q121N ?q121S ?q121T ?q121k ?q121d ?q121u ?_); (case q121R => with_reducible assumption); (case q121F => k_asm); (case q121N => k_asm); (case q121X => k_asm); (case q121T => k_asm); (case q121B => k_asm); (case q121k => first | exact rfl | assumption); (case q121d => k_extra "mine ktr_room"); (case q121u => k_extra "mine ktr_units"); (case q121M => k_extra "mine lsm_bools"); (case q121S => k_extra "mine kfm_turns"); k_whole; intro r9 tl9 h9 tk9 F9 N9 ap9 e9; (try k_fold))
      | ((first | (with_reducible refine' WrPut.use' (wp_g ?q121R ?q121M ?q121K ?q121x) ?q121B ?q121F ?q121X ?q121N ?q121S ?q121T ?q121k ?q121d ?q121u ?_) | refine' WrPut.use' (wp_g ?q121R ?q121M ?q121K ?q121x) ?q121B ?q121F ?q121X ?q121N ?q121S ?q121T ?q121k ?q121d ?q121u ?_); (case q121R => with_reducible assumption); (case q121F => k_asm); (case q121N => k_asm); (case q121X => k_asm); (case q121T => k_asm); (case q121B => k_asm); (case q121k => first | exact rfl | assumption); (case q121d => k_extra "mine ktr_room"); (case q121u => k_extra "mine ktr_units"); (case q121M => k_extra "mine lsm_bools"); (case q121S => k_extra "mine kfm_turns"); (case q121x => with_reducible assumption); (case q121K => k_extra "mine put"); k_whole; intro r9 tl9 h9 tk9 F9 N9 ap9 e9; (try k_fold)))))
  (k_with "call ref" =>
    (k_here; (with_reducible show wpAny _ _ (call (Value.ref 40) _) _ _ _); k_dflt (first
      | ((first | (with_reducible refine' (sub_byte ?q122R).use ?q122B ?q122F ?q122X ?q122N ?q122S ?q122T ?q122k ?q122d ?q122u ?_) | refine' (sub_byte ?q122R).use ?q122B ?q122F ?q122X ?q122N ?q122S ?q122T ?q122k ?q122d ?q122u ?_); (case q122R => with_reducible assumption); (case q122F => k_asm); (case q122N => k_asm); (case q122X => k_asm); (case q122T => k_asm); (case q122B => k_asm); (case q122k => first | exact rfl | assumption); (case q122d => k_extra "mine ktr_room"); (case q122u => k_extra "mine ktr_units"); (case q122S => k_extra "mine kfm_turns"); k_whole; intro r9 tl9 h9 tk9 F9 N9 ap9 e9; subst e9; (try k_fold))
      | ((first | (with_reducible refine' (sub_g ?q122R).use ?q122B ?q122F ?q122X ?q122N ?q122S ?q122T ?q122k ?q122d ?q122u ?_) | refine' (sub_g ?q122R).use ?q122B ?q122F ?q122X ?q122N ?q122S ?q122T ?q122k ?q122d ?q122u ?_); (case q122R => with_reducible assumption); (case q122F => k_asm); (case q122N => k_asm); (case q122X => k_asm); (case q122T => k_asm); (case q122B => k_asm); (case q122k => first | exact rfl | assumption); (case q122d => k_extra "mine ktr_room"); (case q122u => k_extra "mine ktr_units"); (case q122S => k_extra "mine kfm_turns"); k_whole; intro r9 tl9 h9 tk9 F9 N9 ap9 e9; (try k_fold))
      | ((first | (with_reducible refine' (sub_par ?q122R ?q122M ?q122D ?q122l).use ?q122B ?q122F ?q122X ?q122N sub_refl ?q122T ?q122k ?q122d ?q122u ?_) | refine' (sub_par ?q122R ?q122M ?q122D ?q122l).use ?q122B ?q122F ?q122X ?q122N sub_refl ?q122T ?q122k ?q122d ?q122u ?_); (case q122F => k_asm); (case q122N => k_asm); (case q122X => k_asm); (case q122T => k_asm); (case q122B => k_asm); (case q122k => first | exact rfl | assumption); (case q122d => k_extra "mine ktr_room"); (case q122u => k_extra "mine ktr_units"); (case q122R => exact TyIn.mono (by with_reducible assumption) (by k_extra "mine kfm_turns")); (case q122M => k_extra "mine lsm_bools"); (case q122D => with_reducible assumption); (case q122l => with_reducible assumption); k_whole; intro r9 tl9 h9 tk9 F9 N9 ap9 e9; subst e9; (try k_fold)))))
  (k_with "subscriptTail Attribute Name Subscript ref str" =>
    k_extra "mine dict")
  (k_with "subscriptTail Name Subscript ref str" =>
    k_extra "mine dict")
  (k_with "subscriptTail Attribute Subscript Name ref int" =>
    k_extra "mine item")
  (k_with "subscriptTail Subscript Attribute Name Constant ref int" =>
    k_extra "mine item")
  trivial
theorem fields_N0 (r : Reg) (t : Ty) : FieldsOf w p loose mean mg mb (.ad .N r t) 0 [t, .g r] := (by exact unwrap _ : Wrap _ (by
  intro v wv kt news hR hW dp un gd cn cs a ccd cl outer A₀ base h₀ L m s led td o Q E B F X N hoff hsub htd hT T hk rd ru hret
  cases hW with
  | mk m1 m2 m3 m4 m5 W1 W2 m6 m7 m8 m9 =>
  clear m5 W1 W2 m8 m9
  cases m6 with
  | mk n1 n2 n3 n4 =>
  cases m7 with
  | mk n6 n7 n9 y1 y2 y3 y4 =>
  cases hR using TyIn.inv_ad with
  | mk h1 h2 h3 h4 h5 =>
  have cH := codeHd_of_K (c := 84) (P := 82) X (by kernel_rfl)
  have hsub9 := hsub
  clear hsub
  k_dflt (k_extra "mine in")
  k_steps
  first
    | (refine' fin4 hret ?zzF ?zzN ?zzP ?zze ?zzO ?zzD ?zzM; (case zzF => k_asm); (case zzN => k_asm); (case zzP => k_extra "mine kpc_turns"); (case zze => k_extra "mine keq_hits"); (case zzO => k_extra "mine kat_tups"); (case zzD => exact Tab.mono (by assumption) (by k_extra "mine kfm_turns")); (case zzM => (refine' FldsIn.two ?zzu1 ?zzu2 ?zzu3 ?zzu4 ?zzu5; (case zzu1 => k_extra "mine lsm_bools"); (case zzu2 => k_extra "mine lsm_bools"); (case zzu3 => k_extra "mine lsm_bools"); (case zzu4 => k_extra "mine same"); (case zzu5 => k_extra "mine same"))))
    | (fail "fin")))
theorem fields_E0 (r : Reg) (t : Ty) : FieldsOf w p loose mean mg mb (.ad .E r t) 0 [t] := (by exact unwrap _ : Wrap _ (by
  intro v wv kt news hR hW dp un gd cn cs a ccd cl outer A₀ base h₀ L m s led td o Q E B F X N hoff hsub htd hT T hk rd ru hret
  cases hW with
  | mk m1 m2 m3 m4 m5 W1 W2 m6 m7 m8 m9 =>
  clear m5 W1 W2 m6 m7
  cases m8 with
  | mk n1 n2 n3 n4 =>
  cases m9 with
  | mk n6 n7 n9 y1 y2 p7 p8 y3 y4 y5 y6 =>
  clear p8 y3 y4 y5 y6
  cases hR using TyIn.inv_ad with
  | mk h1 h2 h3 h4 h5 =>
  have cH := codeHd_of_K (c := 84) (P := 82) X (by kernel_rfl)
  have hsub9 := hsub
  clear hsub
  k_dflt (k_extra "mine in")
  k_steps
  first
    | (refine' fin4 hret ?zzF ?zzN ?zzP ?zze ?zzO ?zzD ?zzM; (case zzF => k_asm); (case zzN => k_asm); (case zzP => k_extra "mine kpc_turns"); (case zze => k_extra "mine keq_hits"); (case zzO => k_extra "mine kat_tups"); (case zzD => exact Tab.mono (by assumption) (by k_extra "mine kfm_turns")); (case zzM => (refine' FldsIn.one ?zzu1 ?zzu2 ?zzu3; (case zzu1 => k_extra "mine lsm_bools"); (case zzu2 => k_extra "mine lsm_bools"); (case zzu3 => k_extra "mine same"))))
    | (fail "fin")))
theorem fields_E1 (r : Reg) (t : Ty) : FieldsOf w p loose mean mg mb (.ad .E r t) 1 [.g r, .byte] := (by exact unwrap _ : Wrap _ (by
  intro v wv kt news hR hW dp un gd cn cs a ccd cl outer A₀ base h₀ L m s led td o Q E B F X N hoff hsub htd hT T hk rd ru hret
  cases hW with
  | mk m1 m2 m3 m4 m5 W1 W2 m6 m7 m8 m9 =>
  clear m5 W1 W2 m6 m7
  cases m8 with
  | mk n1 n2 n3 n4 =>
  cases m9 with
  | mk n6 n7 n9 y1 y2 p7 p8 y3 y4 y5 y6 =>
  clear n9 y1 y2
  cases hR using TyIn.inv_ad with
  | mk h1 h2 h3 h4 h5 =>
  have cH := codeHd_of_K (c := 84) (P := 82) X (by kernel_rfl)
  have hsub9 := hsub
  clear hsub
  k_dflt (k_extra "mine in")
  k_steps
  first
    | (refine' fin4 hret ?zzF ?zzN ?zzP ?zze ?zzO ?zzD ?zzM; (case zzF => k_asm); (case zzN => k_asm); (case zzP => k_extra "mine kpc_turns"); (case zze => k_extra "mine keq_hits"); (case zzO => k_extra "mine kat_tups"); (case zzD => exact Tab.mono (by assumption) (by k_extra "mine kfm_turns")); (case zzM => (refine' FldsIn.two ?zzu1 ?zzu2 ?zzu3 ?zzu4 ?zzu5; (case zzu1 => k_extra "mine lsm_bools"); (case zzu2 => k_extra "mine lsm_bools"); (case zzu3 => k_extra "mine lsm_bools"); (case zzu4 => k_extra "mine same"); (case zzu5 => k_extra "mine same"))))
    | (fail "fin")))
end
abbrev cells (o1 o2 : Obj) (fl ml : Addr) (xs ms : List Value) (n n2 : Nat) : Led := [(61, o1), (82, o2), (fl, listOf xs.toArray n), (ml, listOf ms.toArray n2)]
/-- a call of dropped_within -/
def DropW (w : World) (p : Program) (loose : List Str) (mean : ExcName → Option Value) (mg mb : Str → Option Value) (k : Nat) (t : Ty) : Prop :=
  ∀ (dp un : Nat) (gd : Option (List Code)) (cn : Str) (cs : Scope) (a : Addr) (ccd : Value) (cl : List (Str × Addr)) (outer : List Env) (A₀ : Around) (base h₀ : Heap) (L : Addr) (m : Str → Option Value) (s : Shared)
    (v wv : Value) (i : Int) (kt : Tok) (ms : List Value) (mts : List Ty) (fl ml : Addr) (xs : List Value) (n n2 : Nat) (all led sl : Led) (o1 o2 : Obj)
    (Q E : Value → Shared → Prop),
    Below A₀ base outer h₀ → Fr h₀ L s.heap m → (hd.heap_39 w.params).In h₀ → News h₀ L s.heap all → Pulls (cells o1 o2 fl ml xs ms n n2) all led → Offs (cells o1 o2 fl ml xs ms n n2) led → fl ≠ ml → fl ≠ 61 → fl ≠ 82 → ml ≠ 61 → ml ≠ 82 → (∀ p ∈ sl, p ∈ led) → TabN sl o1 → TabF sl o2 →
    i = (k : Int) → t.ints → (∀ u ∈ mts, u.ints) → TyIn sl v t → WorldIn w sl wv → TysIn sl ms mts →
    Top p loose mean mg mb h₀ → cs.kind = .function → dp + (10 * t.deep + 60) < recursionLimit → un + (100 * t.deep + 800) < cLine → ms.length + 6 * t.size ≤ 200 → xs.length + 6 * t.size ≤ 90000 →
    (∀ zs ms' tl o1' o2' n n2 h' tk', Fr h₀ L h' m → News h₀ L h' ((61, o1') :: (82, o2') :: (fl, listOf zs.toArray n) :: (ml, listOf ms'.toArray n2) :: (tl ++ led)) →
      Apart ((61, o1') :: (82, o2') :: (fl, listOf zs.toArray n) :: (ml, listOf ms'.toArray n2) :: led) tl → TabN (tl ++ sl) o1' → TabF (tl ++ sl) o2' → Grown xs zs (dw k t mts).1 → TysIn (tl ++ sl) ms' (dw k t mts).2 →
      zs.length ≤ xs.length + 2 * t.size → ms'.length ≤ ms.length + 2 * t.size → (∀ u ∈ (dw k t mts).2, u.ints) → Q .none { s with heap := h', toks := tk' }) →
    wpAny (model P0 w) (ktrTop dp un gd cn cs L a ccd cl outer) (call (.ref 113) [v, wv, .ref fl, .int i kt, .ref ml]) Q E s
section
variable {w : World} {p : Program} {loose : List Str} {mean : ExcName → Option Value} {mg mb : Str → Option Value}
section
variable {dp un : Nat} {gd : Option (List Code)} {cn : Str} {cs : Scope} {a : Addr} {ccd : Value} {cl : List (Str × Addr)} {outer : List Env} {A₀ : Around} {base h₀ : Heap} {L : Addr} {m : Str → Option Value} {s : Shared}
    {Q E : Value → Shared → Prop}
theorem regions_use {t : Ty} {v : Value} {all led nT td : Led} {o : Obj} (B : Below A₀ base outer h₀) (F : Fr h₀ L s.heap m) (X : (hd.heap_39 w.params).In h₀) (N : News h₀ L s.heap all) (P : Pull (61, o) all led) (O : Off 61 led) (R : TyIn nT v t) (S : ∀ p ∈ nT, p ∈ led) (D : TabN td o) (S2 : ∀ p ∈ td, p ∈ led) (T : Top p loose mean mg mb h₀) (hk : cs.kind = .function) (rd : dp + (4 * t.deep + 8) < recursionLimit) (ru : un + (40 * t.deep + 80) < cLine) (z : t.size ≤ 90000)
    (ret : ∀ fl tl zs n o' h' tk', Fr h₀ L h' m → News h₀ L h' ((61, o') :: (tl ++ led)) → Apart ((61, o) :: led) tl → TabN (tl ++ td) o' → (fl, listOf zs.toArray n) ∈ tl → RegsAre zs t.regs → zs.length ≤ t.size → Q (.ref fl) { s with heap := h', toks := tk' }) :
    wpAny (model P0 w) (ktrTop dp un gd cn cs L a ccd cl outer) (call (.ref 66) [v]) Q E s :=
  regions_in t v nT R _ _ _ _ _ _ _ _ _ _ _ _ _ _ _ led td _ _ _ B F X (P.news N) O S S2 D T hk rd ru (Nat.le_trans (regs_size t) (by lia)) fun fl tl zs n o' h' tk' F' N' A' D' M' G' => ret fl tl zs n o' h' tk' F' N' A' D' M' G' (G'.length ▸ regs_size t)
theorem own_use {t : Ty} {v wv : Value} {led : Led} (ht : t.isAdt = true) (B : Below A₀ base outer h₀) (F : Fr h₀ L s.heap m) (X : (hd.heap_39 w.params).In h₀) (N : News h₀ L s.heap led) (R : TyIn led v t) (W : WorldIn w led wv) (T : Top p loose mean mg mb h₀) (hk : cs.kind = .function) (rd : dp + (4 * t.deep + 40) < recursionLimit) (ru : un + (40 * t.deep + 400) < cLine)
    (ret : ∀ tl h' tk', Fr h₀ L h' m → News h₀ L h' (tl ++ led) → Apart led tl → Q (.bool t.own) { s with heap := h', toks := tk' }) :
    wpAny (model P0 w) (ktrTop dp un gd cn cs L a ccd cl outer) (call (.ref 99) [v, wv]) Q E s :=
  (has_own t ht v wv led R W).use B F X N sub_refl T hk rd ru fun r tl h' tk' F' N' A' e => by rw [e]; exact ret tl h' tk' F' N' A'
theorem fieldsN_use {r : Reg} {t : Ty} {v wv : Value} {kt : Tok} {all led news td : Led} {o : Obj} (B : Below A₀ base outer h₀) (F : Fr h₀ L s.heap m) (X : (hd.heap_39 w.params).In h₀) (N : News h₀ L s.heap all) (P : Pull (82, o) all led) (O : Off 82 led) (R : TyIn news v (.ad .N r t)) (W : WorldIn w news wv) (S : ∀ p ∈ news, p ∈ led) (D : TabF td o) (S2 : ∀ p ∈ td, p ∈ led) (T : Top p loose mean mg mb h₀) (hk : cs.kind = .function) (rd : dp + 40 < recursionLimit) (ru : un + 400 < cLine)
    (ret : ∀ fl tl o' h' tk' f g n s1 k1 v1 s2 k2 v2, Fr h₀ L h' m → News h₀ L h' ((82, o') :: (tl ++ led)) → Apart ((82, o) :: led) tl → TabF (tl ++ td) o' → (fl, listOf #[.ref f, .ref g] n) ∈ tl → (f, tupO [.str s1 k1, v1]) ∈ tl → (g, tupO [.str s2 k2, v2]) ∈ tl → TyIn (tl ++ news) v1 t → TyIn (tl ++ news) v2 (.g r) → Q (.ref fl) { s with heap := h', toks := tk' }) :
    wpAny (model P0 w) (ktrTop dp un gd cn cs L a ccd cl outer) (call (.ref 85) [v, .int 0 kt, wv]) Q E s :=
  fields_N0 r t v wv kt news R W _ _ _ _ _ _ _ _ _ _ _ _ _ _ _ led td _ _ _ B F X (P.news N) O S S2 D T hk rd ru fun fl tl o' h' tk' F' N' A' D' M' => by
    cases M' with
    | two m0 m1 m2 h1 h2 => exact ret fl tl o' h' tk' _ _ _ _ _ _ _ _ _ F' N' A' D' m0 m1 m2 h1 h2
theorem fieldsE0_use {r : Reg} {t : Ty} {v wv : Value} {kt : Tok} {all led news td : Led} {o : Obj} (B : Below A₀ base outer h₀) (F : Fr h₀ L s.heap m) (X : (hd.heap_39 w.params).In h₀) (N : News h₀ L s.heap all) (P : Pull (82, o) all led) (O : Off 82 led) (R : TyIn news v (.ad .E r t)) (W : WorldIn w news wv) (S : ∀ p ∈ news, p ∈ led) (D : TabF td o) (S2 : ∀ p ∈ td, p ∈ led) (T : Top p loose mean mg mb h₀) (hk : cs.kind = .function) (rd : dp + 40 < recursionLimit) (ru : un + 400 < cLine)
    (ret : ∀ fl tl o' h' tk' f n s1 k1 v1, Fr h₀ L h' m → News h₀ L h' ((82, o') :: (tl ++ led)) → Apart ((82, o) :: led) tl → TabF (tl ++ td) o' → (fl, listOf #[.ref f] n) ∈ tl → (f, tupO [.str s1 k1, v1]) ∈ tl → TyIn (tl ++ news) v1 t → Q (.ref fl) { s with heap := h', toks := tk' }) :
    wpAny (model P0 w) (ktrTop dp un gd cn cs L a ccd cl outer) (call (.ref 85) [v, .int 0 kt, wv]) Q E s :=
  fields_E0 r t v wv kt news R W _ _ _ _ _ _ _ _ _ _ _ _ _ _ _ led td _ _ _ B F X (P.news N) O S S2 D T hk rd ru fun fl tl o' h' tk' F' N' A' D' M' => by
    cases M' with
    | one m0 m1 h1 => exact ret fl tl o' h' tk' _ _ _ _ _ F' N' A' D' m0 m1 h1
theorem fieldsE1_use {r : Reg} {t : Ty} {v wv : Value} {kt : Tok} {all led news td : Led} {o : Obj} (B : Below A₀ base outer h₀) (F : Fr h₀ L s.heap m) (X : (hd.heap_39 w.params).In h₀) (N : News h₀ L s.heap all) (P : Pull (82, o) all led) (O : Off 82 led) (R : TyIn news v (.ad .E r t)) (W : WorldIn w news wv) (S : ∀ p ∈ news, p ∈ led) (D : TabF td o) (S2 : ∀ p ∈ td, p ∈ led) (T : Top p loose mean mg mb h₀) (hk : cs.kind = .function) (rd : dp + 40 < recursionLimit) (ru : un + 400 < cLine)
    (ret : ∀ fl tl o' h' tk' f g n s1 k1 v1 s2 k2 v2, Fr h₀ L h' m → News h₀ L h' ((82, o') :: (tl ++ led)) → Apart ((82, o) :: led) tl → TabF (tl ++ td) o' → (fl, listOf #[.ref f, .ref g] n) ∈ tl → (f, tupO [.str s1 k1, v1]) ∈ tl → (g, tupO [.str s2 k2, v2]) ∈ tl → TyIn (tl ++ news) v1 (.g r) → TyIn (tl ++ news) v2 .byte → Q (.ref fl) { s with heap := h', toks := tk' }) :
    wpAny (model P0 w) (ktrTop dp un gd cn cs L a ccd cl outer) (call (.ref 85) [v, .int 1 kt, wv]) Q E s :=
  fields_E1 r t v wv kt news R W _ _ _ _ _ _ _ _ _ _ _ _ _ _ _ led td _ _ _ B F X (P.news N) O S S2 D T hk rd ru fun fl tl o' h' tk' F' N' A' D' M' => by
    cases M' with
    | two m0 m1 m2 h1 h2 => exact ret fl tl o' h' tk' _ _ _ _ _ _ _ _ _ F' N' A' D' m0 m1 m2 h1 h2
theorem DropW.use {k : Nat} {t : Ty} {v wv : Value} {i : Int} {kt : Tok} {ms : List Value} {mts : List Ty} {fl ml : Addr} {xs : List Value} {n n2 : Nat} {all led sl : Led} {o1 o2 : Obj} (C : DropW w p loose mean mg mb k t)
    (B : Below A₀ base outer h₀) (F : Fr h₀ L s.heap m) (X : (hd.heap_39 w.params).In h₀) (N : News h₀ L s.heap all) (P : Pulls (cells o1 o2 fl ml xs ms n n2) all led) (O : Offs (cells o1 o2 fl ml xs ms n n2) led) (e1 : fl ≠ ml) (e2 : fl ≠ 61) (e3 : fl ≠ 82) (e4 : ml ≠ 61) (e5 : ml ≠ 82) (S : ∀ p ∈ sl, p ∈ led) (D1 : TabN sl o1) (D2 : TabF sl o2)
    (hi : i = (k : Int)) (ht : t.ints) (hm : ∀ u ∈ mts, u.ints) (R : TyIn sl v t) (W : WorldIn w sl wv) (M : TysIn sl ms mts) (T : Top p loose mean mg mb h₀) (hk : cs.kind = .function) (rd : dp + (10 * t.deep + 60) < recursionLimit) (ru : un + (100 * t.deep + 800) < cLine) (z1 : ms.length + 6 * t.size ≤ 200) (z2 : xs.length + 6 * t.size ≤ 90000)
    (ret : ∀ zs ms' tl o1' o2' n n2 h' tk', Fr h₀ L h' m → News h₀ L h' ((61, o1') :: (82, o2') :: (fl, listOf zs.toArray n) :: (ml, listOf ms'.toArray n2) :: (tl ++ led)) →
      Apart ((61, o1') :: (82, o2') :: (fl, listOf zs.toArray n) :: (ml, listOf ms'.toArray n2) :: led) tl → TabN (tl ++ sl) o1' → TabF (tl ++ sl) o2' → Grown xs zs (dw k t mts).1 → TysIn (tl ++ sl) ms' (dw k t mts).2 →
      zs.length ≤ xs.length + 2 * t.size → ms'.length ≤ ms.length + 2 * t.size → (∀ u ∈ (dw k t mts).2, u.ints) → Q .none { s with heap := h', toks := tk' }) :
    wpAny (model P0 w) (ktrTop dp un gd cn cs L a ccd cl outer) (call (.ref 113) [v, wv, .ref fl, .int i kt, .ref ml]) Q E s :=
  C _ _ _ _ _ _ _ _ _ _ _ _ _ _ _ _ _ _ _ _ _ _ _ _ _ _ _ _ _ _ _ _ _ B F X N P O e1 e2 e3 e4 e5 S D1 D2 hi ht hm R W M T hk rd ru z1 z2 ret
theorem len_met {Q E : Value → Shared → Prop} {A : Around} {D : Addr} {ms : List Value} {n : Nat} {h₀ : Heap} {L : Addr} {s : Shared} {news : Led} (N : News h₀ L s.heap news) (m : (D, listOf ms.toArray n) ∈ news) (z : ms.length ≤ 100000) (h : Q (.int (ms.length : Nat) (s.toks + 1)) { s with toks := s.toks + 1 + 1 }) :
    wpAny (model P0 w) A (call (.builtin "len") [.ref D]) Q E s := by
  refine KM.len_K N m rfl ?_ ?_
  · rw [List.size_toArray]; lia
  · rw [List.size_toArray]; exact h
theorem ite_eqT {i j : Int} {A B : Prop} (h : i = j) (a : A) : if (i == j) = true then A else B := by rw [if_pos (by rw [h]; exact beq_self_eq_true j)]; exact a
theorem ite_eqF {i j : Int} {A B : Prop} (h : i ≠ j) (b : B) : if (i == j) = true then A else B := by rw [if_neg (by rw [beq_iff_eq]; exact h)]; exact b
theorem ite_notT {c : Bool} {A B : Prop} (h : c = false) (a : A) : if (!c) = true then A else B := by subst h; exact a
theorem ite_notF {c : Bool} {A B : Prop} (h : c = true) (b : B) : if (!c) = true then A else B := by subst h; exact b
theorem ty_zero {led : Led} {v : Value} {t : Ty} (h : TyIn led v t) : ∃ x nm k vs, v = .ref x ∧ (x, tupO (.str nm k :: vs)) ∈ led := by
  cases h with
  | byte m => exact ⟨_, _, _, _, rfl, m⟩
  | par m => exact ⟨_, _, _, _, rfl, m⟩
  | ref m _ _ => exact ⟨_, _, _, _, rfl, m⟩
  | box m _ => exact ⟨_, _, _, _, rfl, m⟩
  | arr m _ => exact ⟨_, _, _, _, rfl, m⟩
  | pair m _ _ _ => exact ⟨_, _, _, _, rfl, m⟩
  | g m _ _ _ => exact ⟨_, _, _, _, rfl, m⟩
  | ad m _ _ _ _ => exact ⟨_, _, _, _, rfl, m⟩
theorem seq_zero {v : Value} {vs : List Value} : seqIndex? 0 (v :: vs).length = some 0 := by
  have : (0 : Int) < (vs.length : Int) + 1 := by lia
  simp [seqIndex?, this]
theorem fin5 {k : Nat} {t : Ty} {ms : List Value} {mts : List Ty} {fl ml : Addr} {xs : List Value} {led sl : Led} {h' : Heap} {lf lr tl : Led} {zs ms' : List Value} {n n2 : Nat} {o1' o2' : Obj} {tk' : Nat}
    (hret : ∀ zs ms' tl o1' o2' n n2 h' tk', Fr h₀ L h' m → News h₀ L h' ((61, o1') :: (82, o2') :: (fl, listOf zs.toArray n) :: (ml, listOf ms'.toArray n2) :: (tl ++ led)) →
      Apart ((61, o1') :: (82, o2') :: (fl, listOf zs.toArray n) :: (ml, listOf ms'.toArray n2) :: led) tl → TabN (tl ++ sl) o1' → TabF (tl ++ sl) o2' → Grown xs zs (dw k t mts).1 → TysIn (tl ++ sl) ms' (dw k t mts).2 →
      zs.length ≤ xs.length + 2 * t.size → ms'.length ≤ ms.length + 2 * t.size → (∀ u ∈ (dw k t mts).2, u.ints) → Q .none { s with heap := h', toks := tk' })
    (hi : t.ints) (hm : ∀ u ∈ mts, u.ints) (ha : ms.length = mts.length) (F : Fr h₀ L h' m) (N : News h₀ L h' lf) (P : Pulls (cells o1' o2' fl ml zs ms' n n2) lf lr) (e : Ext led lr tl) (O : Offs (cells o1' o2' fl ml zs ms' n n2) lr) (D1 : TabN (tl ++ sl) o1') (D2 : TabF (tl ++ sl) o2')
    (G : Grown xs zs (dw k t mts).1) (M : TysIn (tl ++ sl) ms' (dw k t mts).2) : Q .none { s with heap := h', toks := tk' } := by
  have h := e.apart
  have q := e.eq
  subst q
  have z := dw_size k t mts
  have z1 := G.length
  have z2 := M.length
  refine hret zs ms' tl o1' o2' n n2 h' tk' F (fun p hp => N p (P.mem p ?_)) (fun x hx y hy => ?_) D1 D2 G M (by lia) (by lia) (dw_ints k t mts hi hm)
  · exact hp
  · rcases List.mem_cons.mp hx with rfl | hx
    · exact (O.1 y (List.mem_append_left _ hy)).symm
    rcases List.mem_cons.mp hx with rfl | hx
    · exact (O.2.1 y (List.mem_append_left _ hy)).symm
    rcases List.mem_cons.mp hx with rfl | hx
    · exact (O.2.2.1 y (List.mem_append_left _ hy)).symm
    rcases List.mem_cons.mp hx with rfl | hx
    · exact (O.2.2.2.1 y (List.mem_append_left _ hy)).symm
    exact h x hx y hy
end
theorem own_lines_8 : True := by
  (k_with "mine tabN" =>
    first | (with_reducible assumption) | exact TabN.mono (by with_reducible assumption) (by k_extra "mine kfm_turns"))
  (k_with "mine tabF" =>
    first | (with_reducible assumption) | exact TabF.mono (by with_reducible assumption) (by k_extra "mine kfm_turns"))
  (k_with "mine wld" =>
    first | (with_reducible assumption) | exact WorldIn.mono (by with_reducible assumption) (by k_extra "mine kfm_turns"))
  (k_with "mine tys" =>
    first | (with_reducible assumption) | exact TysIn.mono (by with_reducible assumption) (by k_extra "mine kfm_turns") | exact TysIn.add (TysIn.mono (by with_reducible assumption) (by k_extra "mine kfm_turns")) (by k_extra "mine same"))
  (k_with "mine ints" =>
    first | (with_reducible assumption) | exact trivial | exact ints_add (by with_reducible assumption) (by with_reducible assumption))
  (k_with "mine len" =>
    ((try simp only [List.length_append, List.length_cons, List.length_nil, Ty.size]); lia))
  (k_with "call ref" =>
    (k_here; (with_reducible show wpAny _ _ (call (Value.ref 66) _) _ _ _); k_dflt ((first | (with_reducible refine' regions_use ?q133B ?q133F ?q133X ?q133N ?q133P ?q133O ?q133R ?q133S ?q133D ?q133S2 ?q133T ?q133k ?q133d ?q133u ?q133z ?_) | refine' regions_use ?q133B ?q133F ?q133X ?q133N ?q133P ?q133O ?q133R ?q133S ?q133D ?q133S2 ?q133T ?q133k ?q133d ?q133u ?q133z ?_); (case q133F => k_asm); (case q133N => k_asm); (case q133P => k_extra "mine kpc_turns"); (case q133O => k_extra "mine kat_tups"); (case q133R => with_reducible assumption); (case q133S => k_extra "mine kfm_turns"); (case q133D => with_reducible assumption); (case q133S2 => k_extra "mine kfm_turns"); (case q133X => k_asm); (case q133T => k_asm); (case q133B => k_asm); (case q133k => first | exact rfl | assumption); (case q133d => k_extra "mine ktr_room"); (case q133u => k_extra "mine ktr_units"); (case q133z => k_extra "mine len"); k_whole; intro fl9 tl9 zs9 n9 o9 h9 tk9 F9 N9 ap9 D9 m9 g9 y9; (try simp only [Ty.size] at y9); (try k_fold))))
  (k_with "call ref" =>
    (k_here; (with_reducible show wpAny _ _ (call (Value.ref 99) _) _ _ _); k_dflt ((first | (with_reducible refine' own_use ?q134A ?q134B ?q134F ?q134X ?q134N ?q134R ?q134W ?q134T ?q134k ?q134d ?q134u ?_) | refine' own_use ?q134A ?q134B ?q134F ?q134X ?q134N ?q134R ?q134W ?q134T ?q134k ?q134d ?q134u ?_); (case q134F => k_asm); (case q134N => k_asm); (case q134R => k_extra "mine same"); (case q134A => exact rfl); (case q134W => k_extra "mine wld"); (case q134X => k_asm); (case q134T => k_asm); (case q134B => k_asm); (case q134k => first | exact rfl | assumption); (case q134d => k_extra "mine ktr_room"); (case q134u => k_extra "mine ktr_units"); k_whole; intro tl9 h9 tk9 F9 N9 ap9; (try simp only [Ty.own]); (try k_fold))))
  (k_with "call ref" =>
    (k_here; (with_reducible show wpAny _ _ (call (Value.ref 85) _) _ _ _); k_dflt (first
      | ((first | (with_reducible refine' fieldsN_use ?q135B ?q135F ?q135X ?q135N ?q135P ?q135O ?q135R ?q135W ?q135S ?q135D ?q135S2 ?q135T ?q135k ?q135d ?q135u ?_) | refine' fieldsN_use ?q135B ?q135F ?q135X ?q135N ?q135P ?q135O ?q135R ?q135W ?q135S ?q135D ?q135S2 ?q135T ?q135k ?q135d ?q135u ?_); (case q135F => k_asm); (case q135N => k_asm); (case q135P => k_extra "mine kpc_turns"); (case q135O => k_extra "mine kat_tups"); (case q135R => with_reducible assumption); (case q135W => k_extra "mine wld"); (case q135S => k_extra "mine kfm_turns"); (case q135D => with_reducible assumption); (case q135S2 => k_extra "mine kfm_turns"); (case q135X => k_asm); (case q135T => k_asm); (case q135B => k_asm); (case q135k => first | exact rfl | assumption); (case q135d => k_extra "mine ktr_room"); (case q135u => k_extra "mine ktr_units"); k_whole; intro fl9 tl9 o9 h9 tk9 f9 g9 n9 s1 k1 v1 s2 k2 v2 F9 N9 ap9 D9 m0 m1 m2 h1 h2; (try k_fold))
      | ((first | (with_reducible refine' fieldsE0_use ?q135B ?q135F ?q135X ?q135N ?q135P ?q135O ?q135R ?q135W ?q135S ?q135D ?q135S2 ?q135T ?q135k ?q135d ?q135u ?_) | refine' fieldsE0_use ?q135B ?q135F ?q135X ?q135N ?q135P ?q135O ?q135R ?q135W ?q135S ?q135D ?q135S2 ?q135T ?q135k ?q135d ?q135u ?_); (case q135F => k_asm); (case q135N => k_asm); (case q135P => k_extra "mine kpc_turns"); (case q135O => k_extra "mine kat_tups"); (case q135R => with_reducible assumption); (case q135W => k_extra "mine wld"); (case q135S => k_extra "mine kfm_turns"); (case q135D => with_reducible assumption); (case q135S2 => k_extra "mine kfm_turns"); (case q135X => k_asm); (case q135T => k_asm); (case q135B => k_asm); (case q135k => first | exact rfl | assumption); (case q135d => k_extra "mine ktr_room"); (case q135u => k_extra "mine ktr_units"); k_whole; intro fl9 tl9 o9 h9 tk9 f9 n9 s1 k1 v1 F9 N9 ap9 D9 m0 m1 h1; (try k_fold))
      | ((first | (with_reducible refine' fieldsE1_use ?q135B ?q135F ?q135X ?q135N ?q135P ?q135O ?q135R ?q135W ?q135S ?q135D ?q135S2 ?q135T ?q135k ?q135d ?q135u ?_) | refine' fieldsE1_use ?q135B ?q135F ?q135X ?q135N ?q135P ?q135O ?q135R ?q135W ?q135S ?q135D ?q135S2 ?q135T ?q135k ?q135d ?q135u ?_); (case q135F => k_asm); (case q135N => k_asm); (case q135P => k_extra "mine kpc_turns"); (case q135O => k_extra "mine kat_tups"); (case q135R => with_reducible assumption); (case q135W => k_extra "mine wld"); (case q135S => k_extra "mine kfm_turns"); (case q135D => with_reducible assumption); (case q135S2 => k_extra "mine kfm_turns"); (case q135X => k_asm); (case q135T => k_asm); (case q135B => k_asm); (case q135k => first | exact rfl | assumption); (case q135d => k_extra "mine ktr_room"); (case q135u => k_extra "mine ktr_units"); k_whole; intro fl9 tl9 o9 h9 tk9 f9 g9 n9 s1 k1 v1 s2 k2 v2 F9 N9 ap9 D9 m0 m1 m2 h1 h2; (try k_fold)))))
  (k_with "call ref" =>
    (k_here; (with_reducible show wpAny _ _ (call (Value.ref 113) _) _ _ _); k_dflt ((first | (with_reducible refine' DropW.use ?q136C ?q136B ?q136F ?q136X ?q136N ?q136P ?q136O ?q136e1 ?q136e2 ?q136e3 ?q136e4 ?q136e5 ?q136S ?q136D1 ?q136D2 ?q136hi ?q136ht ?q136hm ?q136R ?q136W ?q136M ?q136T ?q136k ?q136d ?q136u ?q136z1 ?q136z2 ?_) | refine' DropW.use ?q136C ?q136B ?q136F ?q136X ?q136N ?q136P ?q136O ?q136e1 ?q136e2 ?q136e3 ?q136e4 ?q136e5 ?q136S ?q136D1 ?q136D2 ?q136hi ?q136ht ?q136hm ?q136R ?q136W ?q136M ?q136T ?q136k ?q136d ?q136u ?q136z1 ?q136z2 ?_); (case q136F => k_asm); (case q136N => k_asm); (case q136P => k_extra "mine kaf_pre"); (case q136O => k_extra "mine kaf_suf"); (case q136e1 => k_extra "mine tlg_ne"); (case q136e2 => k_extra "mine tlg_ne"); (case q136e3 => k_extra "mine tlg_ne"); (case q136e4 => k_extra "mine tlg_ne"); (case q136e5 => k_extra "mine tlg_ne"); (case q136D2 => with_reducible assumption); (case q136D1 => k_extra "mine tabN"); (case q136S => k_extra "mine kfm_turns"); (case q136R => k_extra "mine same"); (case q136W => k_extra "mine wld"); (case q136M => k_extra "mine tys"); (case q136C => exact (by with_reducible assumption : ∀ t, DropW _ _ _ _ _ _ _ t) _); (case q136hi => lia); (case q136ht => k_extra "mine ints"); (case q136hm => k_extra "mine ints"); (case q136X => k_asm); (case q136T => k_asm); (case q136B => k_asm); (case q136k => first | exact rfl | assumption); (case q136d => ((try simp only [Ty.deep]); k_extra "mine ktr_room")); (case q136u => ((try simp only [Ty.deep]); k_extra "mine ktr_units")); (case q136z1 => k_extra "mine len"); (case q136z2 => k_extra "mine len"); k_whole; intro zs9 ms9 tl9 o8 o9 n8 n9 h9 tk9 F9 N9 ap9 D8 D9 g9 M9 y8 y9 i9; (try simp only [List.length_append, List.length_cons, List.length_nil, Ty.size] at y8 y9); (try k_fold))))
  (k_with "call builtin:list.extend" =>
    (k_here; k_dflt ((first | (with_reducible refine' extend_pull ?q137F ?q137N ?q137P ?q137O ?q137m ?q137z ?_) | refine' extend_pull ?q137F ?q137N ?q137P ?q137O ?q137m ?q137z ?_); (case q137F => k_asm); (case q137N => k_asm); (case q137P => k_extra "mine kpc_turns"); (case q137O => k_extra "mine kat_tups"); (case q137m => k_extra "mine lsm_bools"); (case q137z => k_extra "mine len"); k_whole); intro h' n' F' N'))
  (k_with "compareOp NotIn ref ref" =>
    (k_here; k_dflt ((first | (with_reducible refine' notIn_met ?q138N ?q138md ?q138R ?q138M ?q138i ?q138m ?q138u ?_) | refine' notIn_met ?q138N ?q138md ?q138R ?q138M ?q138i ?q138m ?q138u ?_); (case q138N => k_asm); (case q138md => k_extra "mine lsm_bools"); (case q138R => k_extra "mine same"); (case q138M => k_extra "mine tys"); (case q138i => k_extra "mine ints"); (case q138m => k_extra "mine ints"); (case q138u => first | k_extra "mine ktr_units" | (fail)); k_whole)))
  (k_with "call builtin:len" =>
    (k_here; k_dflt ((first | (with_reducible refine' len_met ?q139N ?q139m ?q139z ?_) | refine' len_met ?q139N ?q139m ?q139z ?_); (case q139N => k_asm); (case q139m => k_extra "mine lsm_bools"); (case q139z => lia); k_whole)))
  (k_with "ite" =>
    first
      | ((with_reducible refine' ite_eqT ?q140c ?_); (case q140c => lia))
      | ((with_reducible refine' ite_eqF ?q140c ?_); (case q140c => lia))
      | (with_reducible refine ite_notT (by with_reducible assumption) ?_)
      | (with_reducible refine ite_notF (by with_reducible assumption) ?_))
  (k_with "call type:range" =>
    (k_here; (with_reducible show wpAny _ _ (call (Value.type _) [Value.int _ _]) (fun xv s₁ => wpAny _ _ (pyIter xv) (fun it s₂ => TurnsAt _ _ _ _ _ _ _ _ _ it s₂) _ s₁) _ _); k_dflt (first
      | ((first | (with_reducible refine' forRange (n := 1) ?q141hh ?q141hF ?q141hN ?q141hs ?q141hx ?_) | refine' forRange (n := 1) ?q141hh ?q141hF ?q141hN ?q141hs ?q141hx ?_); (case q141hh => rfl); (case q141hF => k_asm); (case q141hN => k_asm); (case q141hs => decide); (case q141hx => rfl); k_whole)
      | ((first | (with_reducible refine' forRange (n := 2) ?q141hh ?q141hF ?q141hN ?q141hs ?q141hx ?_) | refine' forRange (n := 2) ?q141hh ?q141hF ?q141hN ?q141hs ?q141hx ?_); (case q141hh => rfl); (case q141hF => k_asm); (case q141hN => k_asm); (case q141hs => decide); (case q141hx => rfl); k_whole)); intro I' l1; (try k_lt l1)))
  (k_with "subscriptTail Name Constant ref int" =>
    first | k_extra "mine item" | (k_here; (with_reducible show wpAny _ _ (subscriptTail _ _ (Value.ref _) (Value.int 0 _)) _ _ _); k_dflt ((first | (with_reducible refine' item_tupleT ?q142t ?q142a ?q142b ?q142c ?q142d ?_) | refine' item_tupleT ?q142t ?q142a ?q142b ?q142c ?q142d ?_); (case q142t => exact News.isTup (by k_asm) (by k_extra "mine lsm_bools")); (case q142a => decide); (case q142b => decide); (case q142c => exact seq_zero); (case q142d => rfl); k_whole)))
  trivial
theorem drop_0 (t : Ty) : DropW w p loose mean mg mb 0 t := (by exact unwrap _ : Wrap _ (by
  intro dp un gd cn cs a ccd cl outer A₀ base h₀ L m s v wv i kt ms mts fl ml xs n n2 all led sl o1 o2 Q E B F X N hP hO e1 e2 e3 e4 e5 hS D1 D2 hi ht hm R W M T hk rd ru z1 z2 hret
  have ha := M.length
  replace N : News h₀ L s.heap ((61, o1) :: (82, o2) :: (fl, listOf xs.toArray n) :: (ml, listOf ms.toArray n2) :: led) := fun p hp => N p (hP.mem p hp)
  clear hP
  obtain ⟨f1, f2, f3, f4, _⟩ := hO
  obtain ⟨x, nm, k, vs, rfl, mx⟩ := ty_zero R
  k_dflt (k_extra "mine in")
  k_steps
  first
    | (refine' fin5 hret ht hm ha ?zzF ?zzN ?zzP ?zze ?zzO ?zzD1 ?zzD2 ?zzG ?zzM; (case zzF => k_asm); (case zzN => k_asm); (case zzP => k_extra "mine kaf_pre"); (case zze => k_extra "mine keq_hits"); (case zzO => k_extra "mine kaf_suf"); (case zzD1 => k_extra "mine tabN"); (case zzD2 => k_extra "mine tabF"); (case zzG => exact Grown.trans Grown.nil ⟨_, rfl, by assumption⟩); (case zzM => show TysIn _ _ mts; k_extra "mine tys"))
    | (fail "fin")))
theorem drop_byte (k : Nat) : DropW w p loose mean mg mb (k + 1) .byte := (by exact unwrap _ : Wrap _ (by
  intro dp un gd cn cs a ccd cl outer A₀ base h₀ L m s v wv i kt ms mts fl ml xs n n2 all led sl o1 o2 Q E B F X N hP hO e1 e2 e3 e4 e5 hS D1 D2 hi ht hm R W M T hk rd ru z1 z2 hret
  have ha := M.length
  replace N : News h₀ L s.heap ((61, o1) :: (82, o2) :: (fl, listOf xs.toArray n) :: (ml, listOf ms.toArray n2) :: led) := fun p hp => N p (hP.mem p hp)
  clear hP
  obtain ⟨f1, f2, f3, f4, _⟩ := hO
  have R' := R
  simp only [Ty.deep] at rd ru
  simp only [Ty.size] at z1 z2
  cases R using TyIn.inv_byte with
  | mk h1 =>
  k_dflt (k_extra "mine in")
  k_steps
  first
    | (refine' fin5 hret ht hm ha ?zzF ?zzN ?zzP ?zze ?zzO ?zzD1 ?zzD2 ?zzG ?zzM; (case zzF => k_asm); (case zzN => k_asm); (case zzP => k_extra "mine kaf_pre"); (case zze => k_extra "mine keq_hits"); (case zzO => k_extra "mine kaf_suf"); (case zzD1 => k_extra "mine tabN"); (case zzD2 => k_extra "mine tabF"); (case zzG => exact Grown.nil); (case zzM => show TysIn _ _ mts; k_extra "mine tys"))
    | (fail "fin")))
theorem drop_par (k : Nat) : DropW w p loose mean mg mb (k + 1) .par := (by exact unwrap _ : Wrap _ (by
  intro dp un gd cn cs a ccd cl outer A₀ base h₀ L m s v wv i kt ms mts fl ml xs n n2 all led sl o1 o2 Q E B F X N hP hO e1 e2 e3 e4 e5 hS D1 D2 hi ht hm R W M T hk rd ru z1 z2 hret
  have ha := M.length
  replace N : News h₀ L s.heap ((61, o1) :: (82, o2) :: (fl, listOf xs.toArray n) :: (ml, listOf ms.toArray n2) :: led) := fun p hp => N p (hP.mem p hp)
  clear hP
  obtain ⟨f1, f2, f3, f4, _⟩ := hO
  have R' := R
  simp only [Ty.deep] at rd ru
  simp only [Ty.size] at z1 z2
  cases R using TyIn.inv_par with
  | mk h1 =>
  k_dflt (k_extra "mine in")
  k_steps
  first
    | (refine' fin5 hret ht hm ha ?zzF ?zzN ?zzP ?zze ?zzO ?zzD1 ?zzD2 ?zzG ?zzM; (case zzF => k_asm); (case zzN => k_asm); (case zzP => k_extra "mine kaf_pre"); (case zze => k_extra "mine keq_hits"); (case zzO => k_extra "mine kaf_suf"); (case zzD1 => k_extra "mine tabN"); (case zzD2 => k_extra "mine tabF"); (case zzG => exact Grown.nil); (case zzM => show TysIn _ _ mts; k_extra "mine tys"))
    | (fail "fin")))
theorem drop_ref (k : Nat) (r : Reg) (t : Ty) : DropW w p loose mean mg mb (k + 1) (.ref r t) := (by exact unwrap _ : Wrap _ (by
  intro dp un gd cn cs a ccd cl outer A₀ base h₀ L m s v wv i kt ms mts fl ml xs n n2 all led sl o1 o2 Q E B F X N hP hO e1 e2 e3 e4 e5 hS D1 D2 hi ht hm R W M T hk rd ru z1 z2 hret
  have ha := M.length
  replace N : News h₀ L s.heap ((61, o1) :: (82, o2) :: (fl, listOf xs.toArray n) :: (ml, listOf ms.toArray n2) :: led) := fun p hp => N p (hP.mem p hp)
  clear hP
  obtain ⟨f1, f2, f3, f4, _⟩ := hO
  have R' := R
  simp only [Ty.deep] at rd ru
  simp only [Ty.size] at z1 z2
  cases R using TyIn.inv_ref with
  | mk h1 h2 h3 =>
  k_dflt (k_extra "mine in")
  k_steps
  first
    | (refine' fin5 hret ht hm ha ?zzF ?zzN ?zzP ?zze ?zzO ?zzD1 ?zzD2 ?zzG ?zzM; (case zzF => k_asm); (case zzN => k_asm); (case zzP => k_extra "mine kaf_pre"); (case zze => k_extra "mine keq_hits"); (case zzO => k_extra "mine kaf_suf"); (case zzD1 => k_extra "mine tabN"); (case zzD2 => k_extra "mine tabF"); (case zzG => exact Grown.nil); (case zzM => show TysIn _ _ mts; k_extra "mine tys"))
    | (fail "fin")))
theorem drop_box (k : Nat) (ih : ∀ t, DropW w p loose mean mg mb k t) (t : Ty) : DropW w p loose mean mg mb (k + 1) (.box t) := (by exact unwrap _ : Wrap _ (by
  intro dp un gd cn cs a ccd cl outer A₀ base h₀ L m s v wv i kt ms mts fl ml xs n n2 all led sl o1 o2 Q E B F X N hP hO e1 e2 e3 e4 e5 hS D1 D2 hi ht hm R W M T hk rd ru z1 z2 hret
  have ha := M.length
  replace N : News h₀ L s.heap ((61, o1) :: (82, o2) :: (fl, listOf xs.toArray n) :: (ml, listOf ms.toArray n2) :: led) := fun p hp => N p (hP.mem p hp)
  clear hP
  obtain ⟨f1, f2, f3, f4, _⟩ := hO
  have R' := R
  simp only [Ty.deep] at rd ru
  simp only [Ty.size] at z1 z2
  have ht2 : t.ints := ht
  cases R using TyIn.inv_box with
  | mk h1 h2 =>
  k_dflt (k_extra "mine in")
  k_steps
  first
    | (refine' fin5 hret ht hm ha ?zzF ?zzN ?zzP ?zze ?zzO ?zzD1 ?zzD2 ?zzG ?zzM; (case zzF => k_asm); (case zzN => k_asm); (case zzP => k_extra "mine kaf_pre"); (case zze => k_extra "mine keq_hits"); (case zzO => k_extra "mine kaf_suf"); (case zzD1 => k_extra "mine tabN"); (case zzD2 => k_extra "mine tabF"); (case zzG => show Grown _ _ (dw k t mts).1; with_reducible assumption); (case zzM => show TysIn _ _ (dw k t mts).2; k_extra "mine tys"))
    | (fail "fin")))
theorem drop_arr (k : Nat) (ih : ∀ t, DropW w p loose mean mg mb k t) (t : Ty) : DropW w p loose mean mg mb (k + 1) (.arr t) := (by exact unwrap _ : Wrap _ (by
  intro dp un gd cn cs a ccd cl outer A₀ base h₀ L m s v wv i kt ms mts fl ml xs n n2 all led sl o1 o2 Q E B F X N hP hO e1 e2 e3 e4 e5 hS D1 D2 hi ht hm R W M T hk rd ru z1 z2 hret
  have ha := M.length
  replace N : News h₀ L s.heap ((61, o1) :: (82, o2) :: (fl, listOf xs.toArray n) :: (ml, listOf ms.toArray n2) :: led) := fun p hp => N p (hP.mem p hp)
  clear hP
  obtain ⟨f1, f2, f3, f4, _⟩ := hO
  have R' := R
  simp only [Ty.deep] at rd ru
  simp only [Ty.size] at z1 z2
  have ht2 : t.ints := ht
  cases R using TyIn.inv_arr with
  | mk h1 h2 =>
  k_dflt (k_extra "mine in")
  k_steps
  first
    | (refine' fin5 hret ht hm ha ?zzF ?zzN ?zzP ?zze ?zzO ?zzD1 ?zzD2 ?zzG ?zzM; (case zzF => k_asm); (case zzN => k_asm); (case zzP => k_extra "mine kaf_pre"); (case zze => k_extra "mine keq_hits"); (case zzO => k_extra "mine kaf_suf"); (case zzD1 => k_extra "mine tabN"); (case zzD2 => k_extra "mine tabF"); (case zzG => show Grown _ _ (dw k t mts).1; with_reducible assumption); (case zzM => show TysIn _ _ (dw k t mts).2; k_extra "mine tys"))
    | (fail "fin")))
theorem drop_pair (k : Nat) (ih : ∀ t, DropW w p loose mean mg mb k t) (t u : Ty) : DropW w p loose mean mg mb (k + 1) (.pair t u) := (by exact unwrap _ : Wrap _ (by
  intro dp un gd cn cs a ccd cl outer A₀ base h₀ L m s v wv i kt ms mts fl ml xs n n2 all led sl o1 o2 Q E B F X N hP hO e1 e2 e3 e4 e5 hS D1 D2 hi ht hm R W M T hk rd ru z1 z2 hret
  have ha := M.length
  replace N : News h₀ L s.heap ((61, o1) :: (82, o2) :: (fl, listOf xs.toArray n) :: (ml, listOf ms.toArray n2) :: led) := fun p hp => N p (hP.mem p hp)
  clear hP
  obtain ⟨f1, f2, f3, f4, _⟩ := hO
  have R' := R
  simp only [Ty.deep] at rd ru
  have hx1 := Nat.le_max_left t.deep u.deep
  have hx2 := Nat.le_max_right t.deep u.deep
  generalize max t.deep u.deep = M9 at rd ru hx1 hx2
  simp only [Ty.size] at z1 z2
  have ht2 : t.ints := ht.1
  have ht3 : u.ints := ht.2
  cases R using TyIn.inv_pair with
  | mk h1 h2 h3 h4 =>
  k_dflt (k_extra "mine in")
  k_steps
  first
    | (refine' fin5 hret ht hm ha ?zzF ?zzN ?zzP ?zze ?zzO ?zzD1 ?zzD2 ?zzG ?zzM; (case zzF => k_asm); (case zzN => k_asm); (case zzP => k_extra "mine kaf_pre"); (case zze => k_extra "mine keq_hits"); (case zzO => k_extra "mine kaf_suf"); (case zzD1 => k_extra "mine tabN"); (case zzD2 => k_extra "mine tabF"); (case zzG => exact Grown.trans (by with_reducible assumption) (by with_reducible assumption)); (case zzM => show TysIn _ _ (dw k u (dw k t mts).2).2; k_extra "mine tys"))
    | (fail "fin")))
theorem dwl_g_met (k : Nat) (r : Reg) (mts : List Ty) (hh : has mts (.g r) = true) : dw (k + 1) (.g r) mts = ([], mts) := by simp only [dw, hh, if_true]
theorem dwl_g_new (k : Nat) (r : Reg) (mts : List Ty) (hh : has mts (.g r) = false) : dw (k + 1) (.g r) mts = ([r], mts ++ [.g r]) := by simp only [dw, hh, Bool.false_eq_true, if_false]
theorem drop_g (k : Nat) (r : Reg) : DropW w p loose mean mg mb (k + 1) (.g r) := (by exact unwrap _ : Wrap _ (by
  intro dp un gd cn cs a ccd cl outer A₀ base h₀ L m s v wv i kt ms mts fl ml xs n n2 all led sl o1 o2 Q E B F X N hP hO e1 e2 e3 e4 e5 hS D1 D2 hi ht hm R W M T hk rd ru z1 z2 hret
  have ha := M.length
  replace N : News h₀ L s.heap ((61, o1) :: (82, o2) :: (fl, listOf xs.toArray n) :: (ml, listOf ms.toArray n2) :: led) := fun p hp => N p (hP.mem p hp)
  clear hP
  obtain ⟨f1, f2, f3, f4, _⟩ := hO
  have R' := R
  simp only [Ty.deep] at rd ru
  simp only [Ty.size] at z1 z2
  cases R using TyIn.inv_g with
  | mk h1 h2 h3 h4 =>
  cases hh : has mts (.g r)
  case false =>
    k_dflt (k_extra "mine in")
    k_steps
    first
      | (refine' fin5 hret ht hm ha ?zzF ?zzN ?zzP ?zze ?zzO ?zzD1 ?zzD2 ?zzG ?zzM; (case zzF => k_asm); (case zzN => k_asm); (case zzP => k_extra "mine kaf_pre"); (case zze => k_extra "mine keq_hits"); (case zzO => k_extra "mine kaf_suf"); (case zzD1 => k_extra "mine tabN"); (case zzD2 => k_extra "mine tabF"); (case zzG => rw [dwl_g_new _ _ _ hh]; exact Grown.trans Grown.nil ⟨_, rfl, by assumption⟩); (case zzM => rw [dwl_g_new _ _ _ hh]; k_extra "mine tys"))
      | (fail "fin")
  case true =>
    k_dflt (k_extra "mine in")
    k_steps
    first
      | (refine' fin5 hret ht hm ha ?zzF ?zzN ?zzP ?zze ?zzO ?zzD1 ?zzD2 ?zzG ?zzM; (case zzF => k_asm); (case zzN => k_asm); (case zzP => k_extra "mine kaf_pre"); (case zze => k_extra "mine keq_hits"); (case zzO => k_extra "mine kaf_suf"); (case zzD1 => k_extra "mine tabN"); (case zzD2 => k_extra "mine tabF"); (case zzG => rw [dwl_g_met _ _ _ hh]; exact Grown.nil); (case zzM => rw [dwl_g_met _ _ _ hh]; k_extra "mine tys"))
      | (fail "fin")))
theorem dwl_W_met (k : Nat) (r : Reg) (t : Ty) (mts : List Ty) (hh : has mts (.ad .W r t) = true) : dw (k + 1) (.ad .W r t) mts = ([], mts) := by simp only [dw, hh, if_true]
theorem dwl_W_new (k : Nat) (r : Reg) (t : Ty) (mts : List Ty) (hh : has mts (.ad .W r t) = false) : dw (k + 1) (.ad .W r t) mts = (r :: t.regs, mts ++ [.ad .W r t]) := by simp only [dw, hh, Bool.false_eq_true, if_false]
theorem drop_W (k : Nat) (r : Reg) (t : Ty) : DropW w p loose mean mg mb (k + 1) (.ad .W r t) := (by exact unwrap _ : Wrap _ (by
  intro dp un gd cn cs a ccd cl outer A₀ base h₀ L m s v wv i kt ms mts fl ml xs n n2 all led sl o1 o2 Q E B F X N hP hO e1 e2 e3 e4 e5 hS D1 D2 hi ht hm R W M T hk rd ru z1 z2 hret
  have ha := M.length
  replace N : News h₀ L s.heap ((61, o1) :: (82, o2) :: (fl, listOf xs.toArray n) :: (ml, listOf ms.toArray n2) :: led) := fun p hp => N p (hP.mem p hp)
  clear hP
  obtain ⟨f1, f2, f3, f4, _⟩ := hO
  have R' := R
  simp only [Ty.deep] at rd ru
  simp only [Ty.size] at z1 z2
  have ht2 : t.ints := ht.2
  cases R using TyIn.inv_ad with
  | mk h1 h2 h3 h4 h5 =>
  cases hh : has mts (.ad .W r t)
  case false =>
    k_dflt (k_extra "mine in")
    k_steps
    first
      | (refine' fin5 hret ht hm ha ?zzF ?zzN ?zzP ?zze ?zzO ?zzD1 ?zzD2 ?zzG ?zzM; (case zzF => k_asm); (case zzN => k_asm); (case zzP => k_extra "mine kaf_pre"); (case zze => k_extra "mine keq_hits"); (case zzO => k_extra "mine kaf_suf"); (case zzD1 => k_extra "mine tabN"); (case zzD2 => k_extra "mine tabF"); (case zzG => rw [dwl_W_new _ _ _ _ hh]; exact Grown.trans Grown.nil ⟨_, rfl, by assumption⟩); (case zzM => rw [dwl_W_new _ _ _ _ hh]; k_extra "mine tys"))
      | (fail "fin")
  case true =>
    k_dflt (k_extra "mine in")
    k_steps
    first
      | (refine' fin5 hret ht hm ha ?zzF ?zzN ?zzP ?zze ?zzO ?zzD1 ?zzD2 ?zzG ?zzM; (case zzF => k_asm); (case zzN => k_asm); (case zzP => k_extra "mine kaf_pre"); (case zze => k_extra "mine keq_hits"); (case zzO => k_extra "mine kaf_suf"); (case zzD1 => k_extra "mine tabN"); (case zzD2 => k_extra "mine tabF"); (case zzG => rw [dwl_W_met _ _ _ _ hh]; exact Grown.nil); (case zzM => rw [dwl_W_met _ _ _ _ hh]; k_extra "mine tys"))
      | (fail "fin")))
theorem dwl_N_met (k : Nat) (r : Reg) (t : Ty) (mts : List Ty) (hh : has mts (.ad .N r t) = true) : dw (k + 1) (.ad .N r t) mts = ([], mts) := by simp only [dw, hh, if_true]
theorem dwl_N_new (k : Nat) (r : Reg) (t : Ty) (mts : List Ty) (hh : has mts (.ad .N r t) = false) : dw (k + 1) (.ad .N r t) mts = ((dw k t (mts ++ [.ad .N r t])).1 ++ (dw k (.g r) (dw k t (mts ++ [.ad .N r t])).2).1, (dw k (.g r) (dw k t (mts ++ [.ad .N r t])).2).2) := by simp only [dw, hh, Bool.false_eq_true, if_false]
theorem drop_N (k : Nat) (ih : ∀ t, DropW w p loose mean mg mb k t) (r : Reg) (t : Ty) : DropW w p loose mean mg mb (k + 1) (.ad .N r t) := (by exact unwrap _ : Wrap _ (by
  intro dp un gd cn cs a ccd cl outer A₀ base h₀ L m s v wv i kt ms mts fl ml xs n n2 all led sl o1 o2 Q E B F X N hP hO e1 e2 e3 e4 e5 hS D1 D2 hi ht hm R W M T hk rd ru z1 z2 hret
  have ha := M.length
  replace N : News h₀ L s.heap ((61, o1) :: (82, o2) :: (fl, listOf xs.toArray n) :: (ml, listOf ms.toArray n2) :: led) := fun p hp => N p (hP.mem p hp)
  clear hP
  obtain ⟨f1, f2, f3, f4, _⟩ := hO
  have W' := W
  cases W' with
  | mk w1 w2 w3 w4 w5 W1 W2 w6 w7 w8 w9 =>
  clear w5 W1 W2 w8 w9
  cases w6 with
  | mk x1 x2 x3 x4 =>
  cases w7 with
  | mk x6 x7 x8 x9 x10 x11 x12 =>
  clear x3 x4 x7 x8 x9 x10 x11 x12
  have R' := R
  have hp1 := deep_pos t
  have hp2 := size_pos t
  simp only [Ty.deep] at rd ru
  simp only [Ty.size] at z1 z2
  have ht2 : t.ints := ht.2
  have hg2 : (Ty.g r).ints := ht.1
  cases R using TyIn.inv_ad with
  | mk h1 h2 h3 h4 h5 =>
  cases hh : has mts (.ad .N r t)
  case false =>
    k_dflt (k_extra "mine in")
    k_steps
    first
      | (refine' fin5 hret ht hm ha ?zzF ?zzN ?zzP ?zze ?zzO ?zzD1 ?zzD2 ?zzG ?zzM; (case zzF => k_asm); (case zzN => k_asm); (case zzP => k_extra "mine kaf_pre"); (case zze => k_extra "mine keq_hits"); (case zzO => k_extra "mine kaf_suf"); (case zzD1 => k_extra "mine tabN"); (case zzD2 => k_extra "mine tabF"); (case zzG => rw [dwl_N_new _ _ _ _ hh]; exact Grown.trans (by with_reducible assumption) (by with_reducible assumption)); (case zzM => rw [dwl_N_new _ _ _ _ hh]; k_extra "mine tys"))
      | (fail "fin")
  case true =>
    k_dflt (k_extra "mine in")
    k_steps
    first
      | (refine' fin5 hret ht hm ha ?zzF ?zzN ?zzP ?zze ?zzO ?zzD1 ?zzD2 ?zzG ?zzM; (case zzF => k_asm); (case zzN => k_asm); (case zzP => k_extra "mine kaf_pre"); (case zze => k_extra "mine keq_hits"); (case zzO => k_extra "mine kaf_suf"); (case zzD1 => k_extra "mine tabN"); (case zzD2 => k_extra "mine tabF"); (case zzG => rw [dwl_N_met _ _ _ _ hh]; exact Grown.nil); (case zzM => rw [dwl_N_met _ _ _ _ hh]; k_extra "mine tys"))
      | (fail "fin")))
theorem dwl_E_met (k : Nat) (r : Reg) (t : Ty) (mts : List Ty) (hh : has mts (.ad .E r t) = true) : dw (k + 1) (.ad .E r t) mts = ([], mts) := by simp only [dw, hh, if_true]
theorem dwl_E_new (k : Nat) (r : Reg) (t : Ty) (mts : List Ty) (hh : has mts (.ad .E r t) = false) : dw (k + 1) (.ad .E r t) mts = ((dw k t (mts ++ [.ad .E r t])).1 ++ (dw k (.g r) (dw k t (mts ++ [.ad .E r t])).2).1, (dw k (.g r) (dw k t (mts ++ [.ad .E r t])).2).2) := by simp only [dw, hh, Bool.false_eq_true, if_false]
theorem drop_E (k : Nat) (ih : ∀ t, DropW w p loose mean mg mb k t) (r : Reg) (t : Ty) : DropW w p loose mean mg mb (k + 1) (.ad .E r t) := (by exact unwrap _ : Wrap _ (by
  intro dp un gd cn cs a ccd cl outer A₀ base h₀ L m s v wv i kt ms mts fl ml xs n n2 all led sl o1 o2 Q E B F X N hP hO e1 e2 e3 e4 e5 hS D1 D2 hi ht hm R W M T hk rd ru z1 z2 hret
  have ha := M.length
  replace N : News h₀ L s.heap ((61, o1) :: (82, o2) :: (fl, listOf xs.toArray n) :: (ml, listOf ms.toArray n2) :: led) := fun p hp => N p (hP.mem p hp)
  clear hP
  obtain ⟨f1, f2, f3, f4, _⟩ := hO
  have W' := W
  cases W' with
  | mk w1 w2 w3 w4 w5 W1 W2 w6 w7 w8 w9 =>
  clear w5 W1 W2 w6 w7
  cases w8 with
  | mk x1 x2 x3 x4 =>
  cases w9 with
  | mk x6 x7 x8 x9 x10 x11 x12 x13 x14 x15 x16 =>
  clear x3 x4 x7 x8 x9 x10 x11 x12 x13 x14 x15 x16
  have R' := R
  have hp1 := deep_pos t
  have hp2 := size_pos t
  simp only [Ty.deep] at rd ru
  simp only [Ty.size] at z1 z2
  have ht2 : t.ints := ht.2
  have hg2 : (Ty.g r).ints := ht.1
  cases R using TyIn.inv_ad with
  | mk h1 h2 h3 h4 h5 =>
  cases hh : has mts (.ad .E r t)
  case false =>
    k_dflt (k_extra "mine in")
    k_steps
    first
      | (refine' fin5 hret ht hm ha ?zzF ?zzN ?zzP ?zze ?zzO ?zzD1 ?zzD2 ?zzG ?zzM; (case zzF => k_asm); (case zzN => k_asm); (case zzP => k_extra "mine kaf_pre"); (case zze => k_extra "mine keq_hits"); (case zzO => k_extra "mine kaf_suf"); (case zzD1 => k_extra "mine tabN"); (case zzD2 => k_extra "mine tabF"); (case zzG => rw [dwl_E_new _ _ _ _ hh]; exact Grown.trans (by with_reducible assumption) (Grown.byte (by with_reducible assumption) (by with_reducible assumption))); (case zzM => rw [dwl_E_new _ _ _ _ hh]; (refine TysIn.byte (k := k) ?_); k_extra "mine tys"))
      | (fail "fin")
  case true =>
    k_dflt (k_extra "mine in")
    k_steps
    first
      | (refine' fin5 hret ht hm ha ?zzF ?zzN ?zzP ?zze ?zzO ?zzD1 ?zzD2 ?zzG ?zzM; (case zzF => k_asm); (case zzN => k_asm); (case zzP => k_extra "mine kaf_pre"); (case zze => k_extra "mine keq_hits"); (case zzO => k_extra "mine kaf_suf"); (case zzD1 => k_extra "mine tabN"); (case zzD2 => k_extra "mine tabF"); (case zzG => rw [dwl_E_met _ _ _ _ hh]; exact Grown.nil); (case zzM => rw [dwl_E_met _ _ _ _ hh]; k_extra "mine tys"))
      | (fail "fin")))
theorem drop_all (k : Nat) : ∀ t, DropW w p loose mean mg mb k t := by
  induction k with
  | zero => exact drop_0
  | succ k ih =>
    intro t
    cases t with
    | byte => exact drop_byte k
    | par => exact drop_par k
    | ref r t => exact drop_ref k r t
    | box t => exact drop_box k ih t
    | arr t => exact drop_arr k ih t
    | pair t u => exact drop_pair k ih t u
    | g r => exact drop_g k r
    | ad n r t =>
      cases n with
      | W => exact drop_W k r t
      | N => exact drop_N k ih r t
      | E => exact drop_E k ih r t
/-- a call of drop_regions -/
def DropR (w : World) (p : Program) (loose : List Str) (mean : ExcName → Option Value) (mg mb : Str → Option Value) (k : Nat) (t : Ty) : Prop :=
  ∀ (dp un : Nat) (gd : Option (List Code)) (cn : Str) (cs : Scope) (a : Addr) (ccd : Value) (cl : List (Str × Addr)) (outer : List Env) (A₀ : Around) (base h₀ : Heap) (L : Addr) (m : Str → Option Value) (s : Shared)
    (v wv : Value) (i : Int) (kt : Tok) (fl : Addr) (xs : List Value) (n : Nat) (all led sl : Led) (o1 o2 : Obj)
    (Q E : Value → Shared → Prop),
    Below A₀ base outer h₀ → Fr h₀ L s.heap m → (hd.heap_39 w.params).In h₀ → News h₀ L s.heap all → Pulls [(61, o1), (82, o2), (fl, listOf xs.toArray n)] all led → Offs [(61, o1), (82, o2), (fl, listOf xs.toArray n)] led → fl ≠ 61 → fl ≠ 82 → (∀ p ∈ sl, p ∈ led) → TabN sl o1 → TabF sl o2 →
    i = (k : Int) → t.ints → TyIn sl v t → WorldIn w sl wv →
    Top p loose mean mg mb h₀ → cs.kind = .function → dp + (10 * t.deep + 62) < recursionLimit → un + (100 * t.deep + 820) < cLine → 6 * t.size ≤ 200 → xs.length + 6 * t.size ≤ 90000 →
    (∀ zs tl o1' o2' n h' tk', Fr h₀ L h' m → News h₀ L h' ((61, o1') :: (82, o2') :: (fl, listOf zs.toArray n) :: (tl ++ led)) →
      Apart ((61, o1') :: (82, o2') :: (fl, listOf zs.toArray n) :: led) tl → TabN (tl ++ sl) o1' → TabF (tl ++ sl) o2' → Grown xs zs (dw k t []).1 → Q .none { s with heap := h', toks := tk' }) →
    wpAny (model P0 w) (ktrTop dp un gd cn cs L a ccd cl outer) (call (.ref 106) [v, wv, .ref fl, .int i kt]) Q E s
section
variable {dp un : Nat} {gd : Option (List Code)} {cn : Str} {cs : Scope} {a : Addr} {ccd : Value} {cl : List (Str × Addr)} {outer : List Env} {A₀ : Around} {base h₀ : Heap} {L : Addr} {m : Str → Option Value} {s : Shared}
    {Q E : Value → Shared → Prop}
theorem DropR.use {k : Nat} {t : Ty} {v wv : Value} {i : Int} {kt : Tok} {fl : Addr} {xs : List Value} {n : Nat} {all led sl : Led} {o1 o2 : Obj} (C : DropR w p loose mean mg mb k t)
    (B : Below A₀ base outer h₀) (F : Fr h₀ L s.heap m) (X : (hd.heap_39 w.params).In h₀) (N : News h₀ L s.heap all) (P : Pulls [(61, o1), (82, o2), (fl, listOf xs.toArray n)] all led) (O : Offs [(61, o1), (82, o2), (fl, listOf xs.toArray n)] led) (e2 : fl ≠ 61) (e3 : fl ≠ 82) (S : ∀ p ∈ sl, p ∈ led) (D1 : TabN sl o1) (D2 : TabF sl o2)
    (hi : i = (k : Int)) (ht : t.ints) (R : TyIn sl v t) (W : WorldIn w sl wv) (T : Top p loose mean mg mb h₀) (hk : cs.kind = .function) (rd : dp + (10 * t.deep + 62) < recursionLimit) (ru : un + (100 * t.deep + 820) < cLine) (z1 : 6 * t.size ≤ 200) (z2 : xs.length + 6 * t.size ≤ 90000)
    (ret : ∀ zs tl o1' o2' n h' tk', Fr h₀ L h' m → News h₀ L h' ((61, o1') :: (82, o2') :: (fl, listOf zs.toArray n) :: (tl ++ led)) →
      Apart ((61, o1') :: (82, o2') :: (fl, listOf zs.toArray n) :: led) tl → TabN (tl ++ sl) o1' → TabF (tl ++ sl) o2' → Grown xs zs (dw k t []).1 → Q .none { s with heap := h', toks := tk' }) :
    wpAny (model P0 w) (ktrTop dp un gd cn cs L a ccd cl outer) (call (.ref 106) [v, wv, .ref fl, .int i kt]) Q E s :=
  C _ _ _ _ _ _ _ _ _ _ _ _ _ _ _ _ _ _ _ _ _ _ _ _ _ _ _ _ _ B F X N P O e2 e3 S D1 D2 hi ht R W T hk rd ru z1 z2 ret
theorem fin8 {k : Nat} {t : Ty} {fl : Addr} {xs : List Value} {led sl : Led} {h' : Heap} {lf lr tl : Led} {zs : List Value} {n : Nat} {o1' o2' : Obj} {tk' : Nat}
    (hret : ∀ zs tl o1' o2' n h' tk', Fr h₀ L h' m → News h₀ L h' ((61, o1') :: (82, o2') :: (fl, listOf zs.toArray n) :: (tl ++ led)) →
      Apart ((61, o1') :: (82, o2') :: (fl, listOf zs.toArray n) :: led) tl → TabN (tl ++ sl) o1' → TabF (tl ++ sl) o2' → Grown xs zs (dw k t []).1 → Q .none { s with heap := h', toks := tk' })
    (F : Fr h₀ L h' m) (N : News h₀ L h' lf) (P : Pulls [(61, o1'), (82, o2'), (fl, listOf zs.toArray n)] lf lr) (e : Ext led lr tl) (O : Offs [(61, o1'), (82, o2'), (fl, listOf zs.toArray n)] lr) (D1 : TabN (tl ++ sl) o1') (D2 : TabF (tl ++ sl) o2')
    (G : Grown xs zs (dw k t []).1) : Q .none { s with heap := h', toks := tk' } := by
  have h := e.apart
  have q := e.eq
  subst q
  refine hret zs tl o1' o2' n h' tk' F (fun p hp => N p (P.mem p ?_)) (fun x hx y hy => ?_) D1 D2 G
  · exact hp
  · rcases List.mem_cons.mp hx with rfl | hx
    · exact (O.1 y (List.mem_append_left _ hy)).symm
    rcases List.mem_cons.mp hx with rfl | hx
    · exact (O.2.1 y (List.mem_append_left _ hy)).symm
    rcases List.mem_cons.mp hx with rfl | hx
    · exact (O.2.2.1 y (List.mem_append_left _ hy)).symm
    exact h x hx y hy
end
theorem own_lines_9 : True := by
  (k_with "mine tys" =>
    first | (with_reducible assumption) | exact TysIn.nil | exact TysIn.mono (by with_reducible assumption) (by k_extra "mine kfm_turns") | exact TysIn.add (TysIn.mono (by with_reducible assumption) (by k_extra "mine kfm_turns")) (by k_extra "mine same"))
  (k_with "mine ints" =>
    first | (with_reducible assumption) | exact trivial | exact ints_add (by with_reducible assumption) (by with_reducible assumption) | exact (fun _ h9 => nomatch h9))
  trivial
theorem drop_regions (k : Nat) (t : Ty) : DropR w p loose mean mg mb k t := (by exact unwrap _ : Wrap _ (by
  intro dp un gd cn cs a ccd cl outer A₀ base h₀ L m s v wv i kt fl xs n all led sl o1 o2 Q E B F X N hP hO e2 e3 hS D1 D2 hi ht R W T hk rd ru z1 z2 hret
  replace N : News h₀ L s.heap ((61, o1) :: (82, o2) :: (fl, listOf xs.toArray n) :: led) := fun p hp => N p (hP.mem p hp)
  clear hP
  obtain ⟨f1, f2, f3, _⟩ := hO
  have hD := drop_all (w := w) (p := p) (loose := loose) (mean := mean) (mg := mg) (mb := mb) k
  k_dflt (k_extra "mine in")
  k_steps
  first
    | (refine' fin8 hret ?zzF ?zzN ?zzP ?zze ?zzO ?zzD1 ?zzD2 ?zzG; (case zzF => k_asm); (case zzN => k_asm); (case zzP => k_extra "mine kaf_pre"); (case zze => k_extra "mine keq_hits"); (case zzO => k_extra "mine kaf_suf"); (case zzD1 => k_extra "mine tabN"); (case zzD2 => k_extra "mine tabF"); (case zzG => with_reducible assumption))
    | (fail "fin")))
/-- a call of _law_regions -/
def LRegs (w : World) (p : Program) (loose : List Str) (mean : ExcName → Option Value) (mg mb : Str → Option Value) (t : Ty) : Prop :=
  ∀ (dp un : Nat) (gd : Option (List Code)) (cn : Str) (cs : Scope) (a : Addr) (ccd : Value) (cl : List (Str × Addr)) (outer : List Env) (A₀ : Around) (base h₀ : Heap) (L : Addr) (m : Str → Option Value) (s : Shared)
    (v : Value) (news led : Led) (Q E : Value → Shared → Prop),
    Below A₀ base outer h₀ → Fr h₀ L s.heap m → (hd.heap_39 w.params).In h₀ → News h₀ L s.heap led → TyIn news v t → (∀ p ∈ news, p ∈ led) → Top p loose mean mg mb h₀ → cs.kind = .function → dp + (4 * t.deep + 8) < recursionLimit → un + (40 * t.deep + 80) < cLine → t.size ≤ 90000 →
    (∀ fl tl zs n h' tk', Fr h₀ L h' m → News h₀ L h' (tl ++ led) → Apart led tl → (fl, listOf zs.toArray n) ∈ tl → RegsAre zs t.regs → zs.length ≤ t.size → Q (.ref fl) { s with heap := h', toks := tk' }) →
    wpAny (model P0 w) (ktrTop dp un gd cn cs L a ccd cl outer) (call (.ref 241) [v]) Q E s
section
variable {dp un : Nat} {gd : Option (List Code)} {cn : Str} {cs : Scope} {a : Addr} {ccd : Value} {cl : List (Str × Addr)} {outer : List Env} {A₀ : Around} {base h₀ : Heap} {L : Addr} {m : Str → Option Value} {s : Shared}
    {Q E : Value → Shared → Prop}
theorem LRegs.use {t : Ty} {v : Value} {news led : Led} (C : LRegs w p loose mean mg mb t) (B : Below A₀ base outer h₀) (F : Fr h₀ L s.heap m) (X : (hd.heap_39 w.params).In h₀) (N : News h₀ L s.heap led) (R : TyIn news v t) (S : ∀ p ∈ news, p ∈ led) (T : Top p loose mean mg mb h₀) (hk : cs.kind = .function) (rd : dp + (4 * t.deep + 8) < recursionLimit) (ru : un + (40 * t.deep + 80) < cLine) (z : t.size ≤ 90000)
    (ret : ∀ fl tl zs n h' tk', Fr h₀ L h' m → News h₀ L h' (tl ++ led) → Apart led tl → (fl, listOf zs.toArray n) ∈ tl → RegsAre zs t.regs → zs.length ≤ t.size → Q (.ref fl) { s with heap := h', toks := tk' }) :
    wpAny (model P0 w) (ktrTop dp un gd cn cs L a ccd cl outer) (call (.ref 241) [v]) Q E s := C _ _ _ _ _ _ _ _ _ _ _ _ _ _ _ _ _ _ _ _ B F X N R S T hk rd ru z ret
theorem fin6 {t : Ty} {led lf tl : Led} {h' : Heap} {zs : List Value} {n : Nat} {fl : Addr} {tk' : Nat}
    (hret : ∀ fl tl zs n h' tk', Fr h₀ L h' m → News h₀ L h' (tl ++ led) → Apart led tl → (fl, listOf zs.toArray n) ∈ tl → RegsAre zs t.regs → zs.length ≤ t.size → Q (.ref fl) { s with heap := h', toks := tk' })
    (F : Fr h₀ L h' m) (N : News h₀ L h' lf) (e : Ext led lf tl) (M : (fl, listOf zs.toArray n) ∈ tl) (G : RegsAre zs t.regs) : Q (.ref fl) { s with heap := h', toks := tk' } :=
  hret fl tl zs n h' tk' F (e.eq ▸ N) e.apart M G (G.length ▸ regs_size t)
end
theorem own_lines_10 : True := by
  (k_with "call ref" =>
    (k_here; (with_reducible show wpAny _ _ (call (Value.ref 241) _) _ _ _); k_dflt ((first | (with_reducible refine' LRegs.use ?q145C ?q145B ?q145F ?q145X ?q145N ?q145R ?q145S ?q145T ?q145k ?q145d ?q145u ?q145z ?_) | refine' LRegs.use ?q145C ?q145B ?q145F ?q145X ?q145N ?q145R ?q145S ?q145T ?q145k ?q145d ?q145u ?q145z ?_); (case q145F => k_asm); (case q145N => k_asm); (case q145R => with_reducible assumption); (case q145C => with_reducible assumption); (case q145S => k_extra "mine kfm_turns"); (case q145X => k_asm); (case q145T => k_asm); (case q145B => k_asm); (case q145k => first | exact rfl | assumption); (case q145d => k_extra "mine ktr_room"); (case q145u => k_extra "mine ktr_units"); (case q145z => k_extra "mine len"); k_whole; intro fl9 tl9 zs9 n9 h9 tk9 F9 N9 ap9 m9 g9 y9; (try simp only [Ty.size] at y9); (try k_fold))))
  (k_with "eval ListComp" =>
    (k_here; (with_reducible show wpAny _ _ (eval (Expr.ListComp (Expr.Name _ _) [_, _] _ _) _) _ _ _); k_dflt (refine ListComp_N (F₀ := by k_asm) (by with_unfolding_all rfl) (by decide) (by rfl) (by decide) (by rfl) (by rfl) (by decide) ?_)))
  (k_with "SrcN" =>
    (k_here; k_dflt ((first | (with_reducible refine' SrcN.intro ?q147hh ?q147hF ?q147hN ?q147hm ?_) | refine' SrcN.intro ?q147hh ?q147hF ?q147hN ?q147hm ?_); (case q147hh => rfl); (case q147hF => k_asm); (case q147hN => k_asm); (case q147hm => k_extra "mine lsm_bools")); intro g'))
  (k_with "NestRest" =>
    (with_unfolding_all first
      | (refine NestRest.succ ?_; intro v' I' oI' C' oC' D' m' h' tk' E' hv' hC' hx' F' N' off' ne'; (obtain ⟨oI9, oC9, oD9⟩ := off3_of off'); lcg_open hv')
      | refine NestRest.zero ?_))
  (k_with "NestEnd" =>
    (((first | (with_reducible refine' nestEnd_pull ?q149F ?q149N ?q149p1 ?q149p2 ?q149p3 ?q149o1 ?q149o2 ?q149o3 ?q149S ?q149m ?q149z ?_) | refine' nestEnd_pull ?q149F ?q149N ?q149p1 ?q149p2 ?q149p3 ?q149o1 ?q149o2 ?q149o3 ?q149S ?q149m ?q149z ?_); (case q149F => k_asm); (case q149N => k_asm); (case q149p1 => k_extra "mine kpc_turns"); (case q149p2 => k_extra "mine kpc_turns"); (case q149p3 => k_extra "mine kpc_turns"); (case q149o1 => k_extra "mine kat_tups"); (case q149o2 => k_extra "mine kat_tups"); (case q149o3 => k_extra "mine kat_tups"); (case q149S => k_extra "mine lsm_bools"); (case q149m => k_extra "mine lsm_bools"); (case q149z => k_extra "mine len")); (try dsimp only)))
  (k_with "binaryOp Add ref ref" =>
    (k_here; k_dflt ((first | (with_reducible refine' addL ?q150F ?q150N ?q150a ?q150b ?q150z ?_) | refine' addL ?q150F ?q150N ?q150a ?q150b ?q150z ?_); (case q150F => k_asm); (case q150N => k_asm); (case q150a => k_extra "mine lsm_bools"); (case q150b => k_extra "mine lsm_bools"); (case q150z => k_extra "mine len"); k_whole); intro D' h' F' N' l1; (try k_lt l1)))
  trivial
theorem lregs_byte : LRegs w p loose mean mg mb .byte := (by exact unwrap _ : Wrap _ (by
  intro dp un gd cn cs a ccd cl outer A₀ base h₀ L m s v news led Q E B F X N R hS T hk rd ru hz hret
  simp only [Ty.deep] at rd ru
  simp only [Ty.size] at hz
  cases R using TyIn.inv_byte with
  | mk h1 =>
  k_dflt (k_extra "mine in")
  k_steps
  first
    | (refine' fin6 hret ?zzF ?zzN ?zze ?zzM ?zzG; (case zzF => k_asm); (case zzN => k_asm); (case zze => k_extra "mine keq_hits"); (case zzM => k_extra "mine lsm_bools"); (case zzG => exact RegsAre.nil))
    | (fail "fin")))
theorem lregs_par : LRegs w p loose mean mg mb .par := (by exact unwrap _ : Wrap _ (by
  intro dp un gd cn cs a ccd cl outer A₀ base h₀ L m s v news led Q E B F X N R hS T hk rd ru hz hret
  simp only [Ty.deep] at rd ru
  simp only [Ty.size] at hz
  cases R using TyIn.inv_par with
  | mk h1 =>
  k_dflt (k_extra "mine in")
  k_steps
  first
    | (refine' fin6 hret ?zzF ?zzN ?zze ?zzM ?zzG; (case zzF => k_asm); (case zzN => k_asm); (case zze => k_extra "mine keq_hits"); (case zzM => k_extra "mine lsm_bools"); (case zzG => exact RegsAre.nil))
    | (fail "fin")))
theorem lregs_ref (r : Reg) (t : Ty) (ih : LRegs w p loose mean mg mb t) : LRegs w p loose mean mg mb (.ref r t) := (by exact unwrap _ : Wrap _ (by
  intro dp un gd cn cs a ccd cl outer A₀ base h₀ L m s v news led Q E B F X N R hS T hk rd ru hz hret
  simp only [Ty.deep] at rd ru
  simp only [Ty.size] at hz
  cases R using TyIn.inv_ref with
  | mk h1 h2 h3 =>
  k_dflt (k_extra "mine in")
  k_steps
  first
    | (refine' fin6 hret ?zzF ?zzN ?zze ?zzM ?zzG; (case zzF => k_asm); (case zzN => k_asm); (case zze => k_extra "mine keq_hits"); (case zzM => k_extra "mine lsm_bools"); (case zzG => exact RegsAre.cons (by assumption) (by assumption)))
    | (fail "fin")))
theorem lregs_box (t : Ty) (ih : LRegs w p loose mean mg mb t) : LRegs w p loose mean mg mb (.box t) := (by exact unwrap _ : Wrap _ (by
  intro dp un gd cn cs a ccd cl outer A₀ base h₀ L m s v news led Q E B F X N R hS T hk rd ru hz hret
  simp only [Ty.deep] at rd ru
  simp only [Ty.size] at hz
  cases R using TyIn.inv_box with
  | mk h1 h2 =>
  k_dflt (k_extra "mine in")
  k_steps
  first
    | (refine' fin6 hret ?zzF ?zzN ?zze ?zzM ?zzG; (case zzF => k_asm); (case zzN => k_asm); (case zze => k_extra "mine keq_hits"); (case zzM => k_extra "mine lsm_bools"); (case zzG => exact (by with_reducible assumption : RegsAre _ t.regs)))
    | (fail "fin")))
theorem lregs_arr (t : Ty) (ih : LRegs w p loose mean mg mb t) : LRegs w p loose mean mg mb (.arr t) := (by exact unwrap _ : Wrap _ (by
  intro dp un gd cn cs a ccd cl outer A₀ base h₀ L m s v news led Q E B F X N R hS T hk rd ru hz hret
  simp only [Ty.deep] at rd ru
  simp only [Ty.size] at hz
  cases R using TyIn.inv_arr with
  | mk h1 h2 =>
  k_dflt (k_extra "mine in")
  k_steps
  first
    | (refine' fin6 hret ?zzF ?zzN ?zze ?zzM ?zzG; (case zzF => k_asm); (case zzN => k_asm); (case zze => k_extra "mine keq_hits"); (case zzM => k_extra "mine lsm_bools"); (case zzG => exact (by with_reducible assumption : RegsAre _ t.regs)))
    | (fail "fin")))
theorem lregs_pair (t u : Ty) (ih : LRegs w p loose mean mg mb t) (ih2 : LRegs w p loose mean mg mb u) : LRegs w p loose mean mg mb (.pair t u) := (by exact unwrap _ : Wrap _ (by
  intro dp un gd cn cs a ccd cl outer A₀ base h₀ L m s v news led Q E B F X N R hS T hk rd ru hz hret
  simp only [Ty.deep] at rd ru
  have hx1 := Nat.le_max_left t.deep u.deep
  have hx2 := Nat.le_max_right t.deep u.deep
  generalize max t.deep u.deep = M9 at rd ru hx1 hx2
  simp only [Ty.size] at hz
  cases R using TyIn.inv_pair with
  | mk h1 h2 h3 h4 =>
  k_dflt (k_extra "mine in")
  k_steps
  first
    | (refine' fin6 hret ?zzF ?zzN ?zze ?zzM ?zzG; (case zzF => k_asm); (case zzN => k_asm); (case zze => k_extra "mine keq_hits"); (case zzM => k_extra "mine lsm_bools"); (case zzG => (have e9 := RegsAre.append (by with_reducible assumption : RegsAre _ t.regs) (by with_reducible assumption : RegsAre _ u.regs); exact e9)))
    | (fail "fin")))
theorem lregs_g (r : Reg) : LRegs w p loose mean mg mb (.g r) := (by exact unwrap _ : Wrap _ (by
  intro dp un gd cn cs a ccd cl outer A₀ base h₀ L m s v news led Q E B F X N R hS T hk rd ru hz hret
  simp only [Ty.deep] at rd ru
  simp only [Ty.size] at hz
  cases R using TyIn.inv_g with
  | mk h1 h2 h3 h4 =>
  k_dflt (k_extra "mine in")
  k_steps
  first
    | (refine' fin6 hret ?zzF ?zzN ?zze ?zzM ?zzG; (case zzF => k_asm); (case zzN => k_asm); (case zze => k_extra "mine keq_hits"); (case zzM => k_extra "mine lsm_bools"); (case zzG => exact RegsAre.cons (by assumption) RegsAre.nil))
    | (fail "fin")))
theorem lregs_ad (n : Nm) (r : Reg) (t : Ty) (ih : LRegs w p loose mean mg mb t) : LRegs w p loose mean mg mb (.ad n r t) := (by exact unwrap _ : Wrap _ (by
  intro dp un gd cn cs a ccd cl outer A₀ base h₀ L m s v news led Q E B F X N R hS T hk rd ru hz hret
  simp only [Ty.deep] at rd ru
  simp only [Ty.size] at hz
  cases R using TyIn.inv_ad with
  | mk h1 h2 h3 h4 h5 =>
  k_dflt (k_extra "mine in")
  k_steps
  first
    | (refine' fin6 hret ?zzF ?zzN ?zze ?zzM ?zzG; (case zzF => k_asm); (case zzN => k_asm); (case zze => k_extra "mine keq_hits"); (case zzM => k_extra "mine lsm_bools"); (case zzG => exact RegsAre.cons (by assumption) (by simpa using (by assumption))))
    | (fail "fin")))
theorem lregs (t : Ty) : LRegs w p loose mean mg mb t := by
  induction t with
  | byte => exact lregs_byte
  | par => exact lregs_par
  | ref r t ih => exact lregs_ref r t ih
  | box t ih => exact lregs_box t ih
  | arr t ih => exact lregs_arr t ih
  | pair t u ih ih2 => exact lregs_pair t u ih ih2
  | g r => exact lregs_g r
  | ad n r t ih => exact lregs_ad n r t ih
/-- a call of _law_held -/
def LHeld (w : World) (p : Program) (loose : List Str) (mean : ExcName → Option Value) (mg mb : Str → Option Value) (t : Ty) : Prop :=
  ∀ (dp un : Nat) (gd : Option (List Code)) (cn : Str) (cs : Scope) (a : Addr) (ccd : Value) (cl : List (Str × Addr)) (outer : List Env) (A₀ : Around) (base h₀ : Heap) (L : Addr) (m : Str → Option Value) (s : Shared)
    (v : Value) (news led : Led) (Q E : Value → Shared → Prop),
    Below A₀ base outer h₀ → Fr h₀ L s.heap m → (hd.heap_39 w.params).In h₀ → News h₀ L s.heap led → TyIn news v t → (∀ p ∈ news, p ∈ led) → Top p loose mean mg mb h₀ → cs.kind = .function → dp + 8 < recursionLimit → un + 80 < cLine →
    (∀ fl tl hs n h' tk', Fr h₀ L h' m → News h₀ L h' (tl ++ led) → Apart led tl → (fl, listOf hs.toArray n) ∈ tl → TysIn (tl ++ news) hs (held t) → Q (.ref fl) { s with heap := h', toks := tk' }) →
    wpAny (model P0 w) (ktrTop dp un gd cn cs L a ccd cl outer) (call (.ref 248) [v]) Q E s
section
variable {dp un : Nat} {gd : Option (List Code)} {cn : Str} {cs : Scope} {a : Addr} {ccd : Value} {cl : List (Str × Addr)} {outer : List Env} {A₀ : Around} {base h₀ : Heap} {L : Addr} {m : Str → Option Value} {s : Shared}
    {Q E : Value → Shared → Prop}
theorem LHeld.use {t : Ty} {v : Value} {news led : Led} (C : LHeld w p loose mean mg mb t) (B : Below A₀ base outer h₀) (F : Fr h₀ L s.heap m) (X : (hd.heap_39 w.params).In h₀) (N : News h₀ L s.heap led) (R : TyIn news v t) (S : ∀ p ∈ news, p ∈ led) (T : Top p loose mean mg mb h₀) (hk : cs.kind = .function) (rd : dp + 8 < recursionLimit) (ru : un + 80 < cLine)
    (ret : ∀ fl tl hs n h' tk', Fr h₀ L h' m → News h₀ L h' (tl ++ led) → Apart led tl → (fl, listOf hs.toArray n) ∈ tl → TysIn (tl ++ news) hs (held t) → Q (.ref fl) { s with heap := h', toks := tk' }) :
    wpAny (model P0 w) (ktrTop dp un gd cn cs L a ccd cl outer) (call (.ref 248) [v]) Q E s := C _ _ _ _ _ _ _ _ _ _ _ _ _ _ _ _ _ _ _ _ B F X N R S T hk rd ru ret
theorem TysIn.inv0 {l : Led} {hs : List Value} (h : TysIn l hs []) : hs = [] := by cases h; rfl
theorem TysIn.inv1 {l : Led} {hs : List Value} {t : Ty} (h : TysIn l hs [t]) : ∃ v, hs = [v] ∧ TyIn l v t := by
  cases h with
  | cons h k => cases k; exact ⟨_, rfl, h⟩
theorem TysIn.inv2 {l : Led} {hs : List Value} {t u : Ty} (h : TysIn l hs [t, u]) : ∃ v v2, hs = [v, v2] ∧ TyIn l v t ∧ TyIn l v2 u := by
  cases h with
  | cons h k =>
    cases k with
    | cons h2 k => cases k; exact ⟨_, _, rfl, h, h2⟩
theorem LHeld.use0 {t : Ty} {v : Value} {news led : Led} (C : LHeld w p loose mean mg mb t) (hh : held t = []) (B : Below A₀ base outer h₀) (F : Fr h₀ L s.heap m) (X : (hd.heap_39 w.params).In h₀) (N : News h₀ L s.heap led) (R : TyIn news v t) (S : ∀ p ∈ news, p ∈ led) (T : Top p loose mean mg mb h₀) (hk : cs.kind = .function) (rd : dp + 8 < recursionLimit) (ru : un + 80 < cLine)
    (ret : ∀ fl tl n h' tk', Fr h₀ L h' m → News h₀ L h' (tl ++ led) → Apart led tl → (fl, listOf (List.toArray []) n) ∈ tl → Q (.ref fl) { s with heap := h', toks := tk' }) :
    wpAny (model P0 w) (ktrTop dp un gd cn cs L a ccd cl outer) (call (.ref 248) [v]) Q E s :=
  C.use B F X N R S T hk rd ru fun fl tl hs n h' tk' F' N' A' M' H' => by
    rw [hh] at H'
    have e := TysIn.inv0 H'
    subst e
    exact ret fl tl n h' tk' F' N' A' M'
theorem LHeld.use1 {t u : Ty} {v : Value} {news led : Led} (C : LHeld w p loose mean mg mb t) (hh : held t = [u]) (B : Below A₀ base outer h₀) (F : Fr h₀ L s.heap m) (X : (hd.heap_39 w.params).In h₀) (N : News h₀ L s.heap led) (R : TyIn news v t) (S : ∀ p ∈ news, p ∈ led) (T : Top p loose mean mg mb h₀) (hk : cs.kind = .function) (rd : dp + 8 < recursionLimit) (ru : un + 80 < cLine)
    (ret : ∀ fl tl x n h' tk', Fr h₀ L h' m → News h₀ L h' (tl ++ led) → Apart led tl → (fl, listOf (List.toArray [x]) n) ∈ tl → TyIn (tl ++ news) x u → Q (.ref fl) { s with heap := h', toks := tk' }) :
    wpAny (model P0 w) (ktrTop dp un gd cn cs L a ccd cl outer) (call (.ref 248) [v]) Q E s :=
  C.use B F X N R S T hk rd ru fun fl tl hs n h' tk' F' N' A' M' H' => by
    rw [hh] at H'
    obtain ⟨x, e, H⟩ := TysIn.inv1 H'
    subst e
    exact ret fl tl x n h' tk' F' N' A' M' H
theorem LHeld.use2 {t u u2 : Ty} {v : Value} {news led : Led} (C : LHeld w p loose mean mg mb t) (hh : held t = [u, u2]) (B : Below A₀ base outer h₀) (F : Fr h₀ L s.heap m) (X : (hd.heap_39 w.params).In h₀) (N : News h₀ L s.heap led) (R : TyIn news v t) (S : ∀ p ∈ news, p ∈ led) (T : Top p loose mean mg mb h₀) (hk : cs.kind = .function) (rd : dp + 8 < recursionLimit) (ru : un + 80 < cLine)
    (ret : ∀ fl tl x y n h' tk', Fr h₀ L h' m → News h₀ L h' (tl ++ led) → Apart led tl → (fl, listOf (List.toArray [x, y]) n) ∈ tl → TyIn (tl ++ news) x u → TyIn (tl ++ news) y u2 → Q (.ref fl) { s with heap := h', toks := tk' }) :
    wpAny (model P0 w) (ktrTop dp un gd cn cs L a ccd cl outer) (call (.ref 248) [v]) Q E s :=
  C.use B F X N R S T hk rd ru fun fl tl hs n h' tk' F' N' A' M' H' => by
    rw [hh] at H'
    obtain ⟨x, y, e, H, H2⟩ := TysIn.inv2 H'
    subst e
    exact ret fl tl x y n h' tk' F' N' A' M' H H2
theorem fin7 {t : Ty} {news led lf tl : Led} {h' : Heap} {hs : List Value} {n : Nat} {fl : Addr} {tk' : Nat}
    (hret : ∀ fl tl hs n h' tk', Fr h₀ L h' m → News h₀ L h' (tl ++ led) → Apart led tl → (fl, listOf hs.toArray n) ∈ tl → TysIn (tl ++ news) hs (held t) → Q (.ref fl) { s with heap := h', toks := tk' })
    (F : Fr h₀ L h' m) (N : News h₀ L h' lf) (e : Ext led lf tl) (M : (fl, listOf hs.toArray n) ∈ tl) (H : TysIn (tl ++ news) hs (held t)) : Q (.ref fl) { s with heap := h', toks := tk' } :=
  hret fl tl hs n h' tk' F (e.eq ▸ N) e.apart M H
end
theorem lheld_byte : LHeld w p loose mean mg mb .byte := (by exact unwrap _ : Wrap _ (by
  intro dp un gd cn cs a ccd cl outer A₀ base h₀ L m s v news led Q E B F X N R hS T hk rd ru hret
  cases R using TyIn.inv_byte with
  | mk h1 =>
  k_dflt (k_extra "mine in")
  k_steps
  first
    | (refine' fin7 hret ?zzF ?zzN ?zze ?zzM ?zzH; (case zzF => k_asm); (case zzN => k_asm); (case zze => k_extra "mine keq_hits"); (case zzM => k_extra "mine lsm_bools"); (case zzH => exact TysIn.nil))
    | (fail "fin")))
theorem lheld_par : LHeld w p loose mean mg mb .par := (by exact unwrap _ : Wrap _ (by
  intro dp un gd cn cs a ccd cl outer A₀ base h₀ L m s v news led Q E B F X N R hS T hk rd ru hret
  cases R using TyIn.inv_par with
  | mk h1 =>
  k_dflt (k_extra "mine in")
  k_steps
  first
    | (refine' fin7 hret ?zzF ?zzN ?zze ?zzM ?zzH; (case zzF => k_asm); (case zzN => k_asm); (case zze => k_extra "mine keq_hits"); (case zzM => k_extra "mine lsm_bools"); (case zzH => exact TysIn.nil))
    | (fail "fin")))
theorem lheld_ref (r : Reg) (t : Ty) : LHeld w p loose mean mg mb (.ref r t) := (by exact unwrap _ : Wrap _ (by
  intro dp un gd cn cs a ccd cl outer A₀ base h₀ L m s v news led Q E B F X N R hS T hk rd ru hret
  cases R using TyIn.inv_ref with
  | mk h1 h2 h3 =>
  k_dflt (k_extra "mine in")
  k_steps
  first
    | (refine' fin7 hret ?zzF ?zzN ?zze ?zzM ?zzH; (case zzF => k_asm); (case zzN => k_asm); (case zze => k_extra "mine keq_hits"); (case zzM => k_extra "mine lsm_bools"); (case zzH => exact TysIn.nil))
    | (fail "fin")))
theorem lheld_box (t : Ty) : LHeld w p loose mean mg mb (.box t) := (by exact unwrap _ : Wrap _ (by
  intro dp un gd cn cs a ccd cl outer A₀ base h₀ L m s v news led Q E B F X N R hS T hk rd ru hret
  cases R using TyIn.inv_box with
  | mk h1 h2 =>
  k_dflt (k_extra "mine in")
  k_steps
  first
    | (refine' fin7 hret ?zzF ?zzN ?zze ?zzM ?zzH; (case zzF => k_asm); (case zzN => k_asm); (case zze => k_extra "mine keq_hits"); (case zzM => k_extra "mine lsm_bools"); (case zzH => (refine' TysIn.cons ?zzx1 TysIn.nil; (case zzx1 => k_extra "mine same"))))
    | (fail "fin")))
theorem lheld_arr (t : Ty) : LHeld w p loose mean mg mb (.arr t) := (by exact unwrap _ : Wrap _ (by
  intro dp un gd cn cs a ccd cl outer A₀ base h₀ L m s v news led Q E B F X N R hS T hk rd ru hret
  cases R using TyIn.inv_arr with
  | mk h1 h2 =>
  k_dflt (k_extra "mine in")
  k_steps
  first
    | (refine' fin7 hret ?zzF ?zzN ?zze ?zzM ?zzH; (case zzF => k_asm); (case zzN => k_asm); (case zze => k_extra "mine keq_hits"); (case zzM => k_extra "mine lsm_bools"); (case zzH => (refine' TysIn.cons ?zzx1 TysIn.nil; (case zzx1 => k_extra "mine same"))))
    | (fail "fin")))
theorem lheld_pair (t u : Ty) : LHeld w p loose mean mg mb (.pair t u) := (by exact unwrap _ : Wrap _ (by
  intro dp un gd cn cs a ccd cl outer A₀ base h₀ L m s v news led Q E B F X N R hS T hk rd ru hret
  cases R using TyIn.inv_pair with
  | mk h1 h2 h3 h4 =>
  k_dflt (k_extra "mine in")
  k_steps
  first
    | (refine' fin7 hret ?zzF ?zzN ?zze ?zzM ?zzH; (case zzF => k_asm); (case zzN => k_asm); (case zze => k_extra "mine keq_hits"); (case zzM => k_extra "mine lsm_bools"); (case zzH => (refine' TysIn.cons ?zzx1 (TysIn.cons ?zzx2 TysIn.nil); (case zzx1 => k_extra "mine same"); (case zzx2 => k_extra "mine same"))))
    | (fail "fin")))
theorem lheld_g (r : Reg) : LHeld w p loose mean mg mb (.g r) := (by exact unwrap _ : Wrap _ (by
  intro dp un gd cn cs a ccd cl outer A₀ base h₀ L m s v news led Q E B F X N R hS T hk rd ru hret
  cases R using TyIn.inv_g with
  | mk h1 h2 h3 h4 =>
  k_dflt (k_extra "mine in")
  k_steps
  first
    | (refine' fin7 hret ?zzF ?zzN ?zze ?zzM ?zzH; (case zzF => k_asm); (case zzN => k_asm); (case zze => k_extra "mine keq_hits"); (case zzM => k_extra "mine lsm_bools"); (case zzH => exact TysIn.nil))
    | (fail "fin")))
theorem lheld_W (r : Reg) (t : Ty) : LHeld w p loose mean mg mb (.ad .W r t) := (by exact unwrap _ : Wrap _ (by
  intro dp un gd cn cs a ccd cl outer A₀ base h₀ L m s v news led Q E B F X N R hS T hk rd ru hret
  cases R using TyIn.inv_ad with
  | mk h1 h2 h3 h4 h5 =>
  k_dflt (k_extra "mine in")
  k_steps
  first
    | (refine' fin7 hret ?zzF ?zzN ?zze ?zzM ?zzH; (case zzF => k_asm); (case zzN => k_asm); (case zze => k_extra "mine keq_hits"); (case zzM => k_extra "mine lsm_bools"); (case zzH => exact TysIn.nil))
    | (fail "fin")))
theorem lheld_N (r : Reg) (t : Ty) : LHeld w p loose mean mg mb (.ad .N r t) := (by exact unwrap _ : Wrap _ (by
  intro dp un gd cn cs a ccd cl outer A₀ base h₀ L m s v news led Q E B F X N R hS T hk rd ru hret
  cases R using TyIn.inv_ad with
  | mk h1 h2 h3 h4 h5 =>
  k_dflt (k_extra "mine in")
  k_steps
  first
    | (refine' fin7 hret ?zzF ?zzN ?zze ?zzM ?zzH; (case zzF => k_asm); (case zzN => k_asm); (case zze => k_extra "mine keq_hits"); (case zzM => k_extra "mine lsm_bools"); (case zzH => (refine' TysIn.cons ?zzx1 (TysIn.cons ?zzx2 TysIn.nil); (case zzx1 => k_extra "mine same"); (case zzx2 => k_extra "mine g"))))
    | (fail "fin")))
theorem lheld_E (r : Reg) (t : Ty) : LHeld w p loose mean mg mb (.ad .E r t) := (by exact unwrap _ : Wrap _ (by
  intro dp un gd cn cs a ccd cl outer A₀ base h₀ L m s v news led Q E B F X N R hS T hk rd ru hret
  cases R using TyIn.inv_ad with
  | mk h1 h2 h3 h4 h5 =>
  k_dflt (k_extra "mine in")
  k_steps
  first
    | (refine' fin7 hret ?zzF ?zzN ?zze ?zzM ?zzH; (case zzF => k_asm); (case zzN => k_asm); (case zze => k_extra "mine keq_hits"); (case zzM => k_extra "mine lsm_bools"); (case zzH => (refine' TysIn.cons ?zzx1 (TysIn.cons ?zzx2 TysIn.nil); (case zzx1 => k_extra "mine same"); (case zzx2 => k_extra "mine g"))))
    | (fail "fin")))
theorem lheld (t : Ty) : LHeld w p loose mean mg mb t := by
  cases t with
  | byte => exact lheld_byte
  | par => exact lheld_par
  | ref r t => exact lheld_ref r t
  | box t => exact lheld_box t
  | arr t => exact lheld_arr t
  | pair t u => exact lheld_pair t u
  | g r => exact lheld_g r
  | ad n r t =>
    cases n with
    | W => exact lheld_W r t
    | N => exact lheld_N r t
    | E => exact lheld_E r t
/-- a call of _law_due -/
def LDue (w : World) (p : Program) (loose : List Str) (mean : ExcName → Option Value) (mg mb : Str → Option Value) (t : Ty) (k : Nat) : Prop :=
  ∀ (dp un : Nat) (gd : Option (List Code)) (cn : Str) (cs : Scope) (a : Addr) (ccd : Value) (cl : List (Str × Addr)) (outer : List Env) (A₀ : Around) (base h₀ : Heap) (L : Addr) (m : Str → Option Value) (s : Shared)
    (v : Value) (i : Int) (kt : Tok) (news led : Led) (Q E : Value → Shared → Prop),
    Below A₀ base outer h₀ → Fr h₀ L s.heap m → (hd.heap_39 w.params).In h₀ → News h₀ L s.heap led → TyIn news v t → (∀ p ∈ news, p ∈ led) → i = (k : Int) → t.ints → t.deep ≤ 20 → wt t ≤ 300 → t.size ≤ 300 → Top p loose mean mg mb h₀ → cs.kind = .function → dp + 200 < recursionLimit → un + 2000 < cLine →
    (∀ fl tl zs n h' tk', Fr h₀ L h' m → News h₀ L h' (tl ++ led) → Apart led tl → (fl, listOf zs.toArray n) ∈ tl → RegsAre zs (dw k t []).1 → Q (.ref fl) { s with heap := h', toks := tk' }) →
    wpAny (model P0 w) (ktrTop dp un gd cn cs L a ccd cl outer) (call (.ref 253) [v, .int i kt]) Q E s
/-- the loop of _law_due: what stands at its head -/
def DueJ (h₀ : Heap) (L : Addr) (m₀ : Str → Option Value) (s₀ : Shared) (led : Led) (fl sl lf cm : Addr) (total : List Reg) (n : Nat) (s : Shared) : Prop :=
  ∃ (h : Heap) (tk : Nat) (hv mv : Option Value) (oc : Obj) (xs : List Value) (rs : List Reg) (ss : List Value) (sts : List Ty) (stk : List Value) (tks : List (Ty × Nat)) (n1 n2 n3 : Nat) (lr tl : Led),
    s = { s₀ with heap := h, toks := tk } ∧ Fr h₀ L h (fun z => if z = Str.ofString "here" then hv else m₀ z) ∧ News h₀ L h ((fl, listOf xs.toArray n1) :: (sl, listOf ss.toArray n2) :: (lf, listOf stk.toArray n3) :: (cm, oc) :: lr) ∧
    Ext led lr tl ∧ Offs [(fl, listOf xs.toArray n1), (sl, listOf ss.toArray n2), (lf, listOf stk.toArray n3), (cm, oc)] lr ∧ oc.data = .cell mv ∧ RegsAre xs rs ∧ TysIn lr ss sts ∧ StkIn lr stk tks ∧ rs ++ flat tks sts = total ∧
    (∀ q ∈ tks, q.1.ints ∧ q.1.deep ≤ 20) ∧ (∀ u ∈ sts, u.ints) ∧ (∀ u ∈ sts, u.adt = true) ∧ wts tks ≤ n ∧ xs.length + szs tks ≤ 1000 ∧ ss.length + wts tks ≤ 1000 ∧ wts tks ≤ 1000
section
variable {prog : Program} {A : Around} {E : Value → Shared → Prop} {env : Env} {test : Expr} {body orelse : List Stmt} {Q : Flow → Shared → Prop} {k : Nat}
theorem whl_ind (J : Nat → Shared → Prop) (turn : ∀ n s, (∀ m s', m < n → J m s' → WhlRest prog w A E env test body orelse Q k s') → J n s → WhlRest prog w A E env test body orelse Q (k + 1) s) :
    ∀ n s, J n s → WhlRest prog w A E env test body orelse Q k s := by
  intro n
  induction n using Nat.strongRecOn with
  | ind n ih => exact fun s h => turn n s (fun m s' hm hJ => ih m hm s' hJ) h
theorem whl_use {J : Nat → Shared → Prop} {n m : Nat} {s' : Shared} (ih : ∀ m s', m < n → J m s' → WhlRest prog w A E env test body orelse Q k s') (lt : m < n) (j : J m s') : WhlRest prog w A E env test body orelse Q k s' := ih m s' lt j
end
theorem due_next {h₀ : Heap} {L : Addr} {m₀ : Str → Option Value} {s₀ : Shared} {led lf' lr tl : Led} {fl sl lf cm : Addr} {total : List Reg} {n : Nat} {h : Heap} {tk : Nat} {v' hv mv : Option Value} {oc : Obj} {xs : List Value} {rs : List Reg} {ss : List Value} {sts : List Ty} {stk : List Value} {tks : List (Ty × Nat)} {n1 n2 n3 : Nat}
    (F : Fr h₀ L h (fun z => if z = Str.ofString "here" then v' else if z = Str.ofString "here" then hv else m₀ z)) (N : News h₀ L h lf')
    (P : Pulls [(fl, listOf xs.toArray n1), (sl, listOf ss.toArray n2), (lf, listOf stk.toArray n3), (cm, oc)] lf' lr) (e : Ext led lr tl) (O : Offs [(fl, listOf xs.toArray n1), (sl, listOf ss.toArray n2), (lf, listOf stk.toArray n3), (cm, oc)] lr) (d : oc.data = .cell mv)
    (R : RegsAre xs rs) (S : TysIn lr ss sts) (K : StkIn lr stk tks) (T : rs ++ flat tks sts = total) (i1 : ∀ q ∈ tks, q.1.ints ∧ q.1.deep ≤ 20) (i2 : ∀ u ∈ sts, u.ints) (i3 : ∀ u ∈ sts, u.adt = true) (z1 : wts tks ≤ n) (z2 : xs.length + szs tks ≤ 1000) (z3 : ss.length + wts tks ≤ 1000) (z4 : wts tks ≤ 1000) :
    DueJ h₀ L m₀ s₀ led fl sl lf cm total n { s₀ with heap := h, toks := tk } := by
  refine ⟨h, tk, v', mv, oc, xs, rs, ss, sts, stk, tks, n1, n2, n3, lr, tl, rfl, ?_, fun p hp => N p (P.mem p hp), e, O, d, R, S, K, T, i1, i2, i3, z1, z2, z3, z4⟩
  have : (fun z => if z = Str.ofString "here" then v' else if z = Str.ofString "here" then hv else m₀ z) = fun z => if z = Str.ofString "here" then v' else m₀ z := by
    funext z
    by_cases hz : z = Str.ofString "here" <;> simp [hz]
  rwa [this] at F
theorem due_use {prog : Program} {A : Around} {E : Value → Shared → Prop} {env : Env} {test : Expr} {body orelse : List Stmt} {Q : Flow → Shared → Prop} {k : Nat} {h₀ : Heap} {L : Addr} {m₀ : Str → Option Value} {s₀ : Shared} {led lf' lr tl : Led} {fl sl lf cm : Addr} {total : List Reg} {n : Nat} {h : Heap} {tk : Nat} {v' hv mv : Option Value} {oc : Obj} {xs : List Value} {rs : List Reg} {ss : List Value} {sts : List Ty} {stk : List Value} {tks : List (Ty × Nat)} {n1 n2 n3 : Nat}
    (ih : ∀ m s', m < n → DueJ h₀ L m₀ s₀ led fl sl lf cm total m s' → WhlRest prog w A E env test body orelse Q k s')
    (F : Fr h₀ L h (fun z => if z = Str.ofString "here" then v' else if z = Str.ofString "here" then hv else m₀ z)) (N : News h₀ L h lf')
    (P : Pulls [(fl, listOf xs.toArray n1), (sl, listOf ss.toArray n2), (lf, listOf stk.toArray n3), (cm, oc)] lf' lr) (e : Ext led lr tl) (O : Offs [(fl, listOf xs.toArray n1), (sl, listOf ss.toArray n2), (lf, listOf stk.toArray n3), (cm, oc)] lr) (d : oc.data = .cell mv)
    (R : RegsAre xs rs) (S : TysIn lr ss sts) (K : StkIn lr stk tks) (T : rs ++ flat tks sts = total) (i1 : ∀ q ∈ tks, q.1.ints ∧ q.1.deep ≤ 20) (i2 : ∀ u ∈ sts, u.ints) (i3 : ∀ u ∈ sts, u.adt = true) (lt : wts tks < n) (z2 : xs.length + szs tks ≤ 1000) (z3 : ss.length + wts tks ≤ 1000) (z4 : wts tks ≤ 1000) :
    WhlRest prog w A E env test body orelse Q k { s₀ with heap := h, toks := tk } :=
  ih _ _ lt (due_next F N P e O d R S K T i1 i2 i3 (Nat.le_refl _) z2 z3 z4)
theorem Ext.sub {base l tl : Led} (h : Ext base l tl) : ∀ p ∈ base, p ∈ l := fun p hp => by rw [h.eq]; exact List.mem_append_right _ hp
theorem StkIn.one' {l : Led} {a : Addr} {v : Value} {i : Int} {k : Tok} {t : Ty} {n : Nat} {vs : List Value} {ts : List (Ty × Nat)} (h : StkIn l vs ts) (e : i = ((n + 1 : Nat) : Int)) (m1 : (a, tupO [v, .int (i - 1) k]) ∈ l) (r1 : TyIn l v t) : StkIn l (vs ++ [.ref a]) ((t, n) :: ts) :=
  .cons m1 r1 (by lia) h
theorem StkIn.two' {l : Led} {a b : Addr} {v u : Value} {i : Int} {k k2 : Tok} {t t2 : Ty} {n : Nat} {vs : List Value} {ts : List (Ty × Nat)} (h : StkIn l vs ts) (e : i = ((n + 1 : Nat) : Int)) (m1 : (a, tupO [v, .int (i - 1) k]) ∈ l) (r1 : TyIn l v t) (m2 : (b, tupO [u, .int (i - 1) k2]) ∈ l) (r2 : TyIn l u t2) :
    StkIn l (vs ++ [.ref a, .ref b]) ((t2, n) :: (t, n) :: ts) := StkIn.two h m1 r1 (by lia) m2 r2 (by lia)
theorem adt_add {met : List Ty} {t : Ty} (h : ∀ u ∈ met, u.adt = true) (k : t.adt = true) : ∀ u ∈ met ++ [t], u.adt = true := fun u hu => by
  rcases List.mem_append.mp hu with hu | hu
  · exact h u hu
  · rw [List.mem_singleton.mp hu]; exact k
theorem fin9 {h₀ : Heap} {L : Addr} {m : Str → Option Value} {s : Shared} {Q : Value → Shared → Prop} {led lf tl : Led} {h' : Heap} {zs : List Value} {n : Nat} {fl : Addr} {tk' : Nat} {rs : List Reg}
    (hret : ∀ fl tl zs n h' tk', Fr h₀ L h' m → News h₀ L h' (tl ++ led) → Apart led tl → (fl, listOf zs.toArray n) ∈ tl → RegsAre zs rs → Q (.ref fl) { s with heap := h', toks := tk' })
    (F : Fr h₀ L h' m) (N : News h₀ L h' lf) (e : Ext led lf tl) (M : (fl, listOf zs.toArray n) ∈ tl) (G : RegsAre zs rs) : Q (.ref fl) { s with heap := h', toks := tk' } :=
  hret fl tl zs n h' tk' F (e.eq ▸ N) e.apart M G
theorem ty_adt {led : Led} {v : Value} {t : Ty} (ha : t.adt = true) (h : TyIn led v t) : ∃ x k vs, v = .ref x ∧ (x, tupO (st "adt" k :: vs)) ∈ led := by
  cases h with
  | g m _ _ _ => exact ⟨_, _, _, rfl, m⟩
  | ad m _ _ _ _ => exact ⟨_, _, _, rfl, m⟩
  | byte m => exact absurd ha Bool.false_ne_true
  | par m => exact absurd ha Bool.false_ne_true
  | ref m _ _ => exact absurd ha Bool.false_ne_true
  | box m _ => exact absurd ha Bool.false_ne_true
  | arr m _ => exact absurd ha Bool.false_ne_true
  | pair m _ _ _ => exact absurd ha Bool.false_ne_true
theorem due_start {h₀ : Heap} {L : Addr} {m₀ : Str → Option Value} {s₀ : Shared} {led lf' lr tl : Led} {fl sl lf cm b : Addr} {h : Heap} {tk : Nat} {mv : Option Value} {oc : Obj} {n1 n2 n3 : Nat} {t : Ty} {k : Nat} {v : Value} {i : Int} {kt : Tok}
    (F : Fr h₀ L h m₀) (N : News h₀ L h lf') (_q1 : m₀ (Str.ofString "found") = some (.ref fl)) (_q2 : m₀ (Str.ofString "seen") = some (.ref sl)) (_q3 : m₀ (Str.ofString "left") = some (.ref lf))
    (P : Pulls [(fl, listOf (List.toArray []) n1), (sl, listOf (List.toArray []) n2), (lf, listOf (List.toArray [.ref b]) n3), (cm, oc)] lf' lr) (e : Ext led lr tl) (O : Offs [(fl, listOf (List.toArray []) n1), (sl, listOf (List.toArray []) n2), (lf, listOf (List.toArray [.ref b]) n3), (cm, oc)] lr) (d : oc.data = .cell mv)
    (mb : (b, tupO [v, .int i kt]) ∈ lr) (R : TyIn lr v t) (hi : i = (k : Int)) (i1 : t.ints) (i2 : t.deep ≤ 20) (z1 : wt t ≤ 300) (z2 : t.size ≤ 300) :
    DueJ h₀ L m₀ s₀ led fl sl lf cm (dw k t []).1 (wt t) { s₀ with heap := h, toks := tk } := by
  refine ⟨h, tk, m₀ (Str.ofString "here"), mv, oc, [], [], [], [], [.ref b], [(t, k)], n1, n2, n3, lr, tl, rfl, ?_, fun p hp => N p (P.mem p hp), e, O, d, .nil, .nil, .cons (vs := []) mb R hi .nil, ?_, ?_, ?_, ?_, ?_, ?_, ?_, ?_⟩
  · have : (fun z => if z = Str.ofString "here" then m₀ (Str.ofString "here") else m₀ z) = m₀ := by
      funext z
      by_cases hz : z = Str.ofString "here" <;> simp [hz]
    rwa [this]
  · simp only [flat, List.append_nil, List.nil_append]
  · intro q hq; rw [List.mem_singleton.mp hq]; exact ⟨i1, i2⟩
  · intro u hu; cases hu
  · intro u hu; cases hu
  · exact Nat.le_refl _
  · simp only [szs, List.length_nil]; lia
  · simp only [wts, List.length_nil]; lia
  · simp only [wts]; lia
section
variable {prog : Program} {A : Around} {E : Value → Shared → Prop} {s : Shared} {h₀ : Heap} {L D : Addr} {m : Str → Option Value} {news rest : Led} {xs : List Value} {y : Value} {n : Nat}
theorem kl_last_snoc (y : Value) : ∀ p : List Value, kl_last (p ++ [y]) = some (p, y) := kpa_last y
theorem pop_pull {Q : Value → Shared → Prop} (F : Fr h₀ L s.heap m) (N : News h₀ L s.heap news) (P : Pull (D, listOf (xs ++ [y]).toArray n) news rest) (O : Off D rest) (hz : xs.length ≤ 100000)
    (h : ∀ h', Fr h₀ L h' m → News h₀ L h' ((D, listOf xs.toArray (n + 1)) :: rest) → Q y { s with heap := h' }) : wpAny (model prog w) A (call (.builtin "list.pop") [.ref D]) Q E s :=
  kl_pop F (P.news N) (kl_last_snoc y xs) (Upd.head O.all) (by rw [sizeLine_eq]; show (xs ++ [y]).length ≤ _; rw [List.length_append]; show xs.length + 1 ≤ _; lia) h
theorem mul_yes {l : Addr} {v : Value} {x : Int} {u : Tok} {Q : Value → Shared → Prop} (F : Fr h₀ L s.heap m) (N : News h₀ L s.heap news) (ml : (l, listOf (List.toArray [v]) n) ∈ news) (hx : x = 1)
    (h : ∀ D h', Fr h₀ L h' m → News h₀ L h' ((D, listOf (List.toArray [v]) 0) :: news) → (∀ p ∈ news, p.1 < D) → Q (.ref D) { s with heap := h' }) : wpAny (model prog w) A (binaryOp .Mult (.ref l) (.int x u)) Q E s := by
  subst hx
  exact KMa.mul F N (N.isList ml) (by decide) (by decide) (by simp) rfl h
theorem mul_no {l : Addr} {v : Value} {x : Int} {u : Tok} {Q : Value → Shared → Prop} (F : Fr h₀ L s.heap m) (N : News h₀ L s.heap news) (ml : (l, listOf (List.toArray [v]) n) ∈ news) (hx : x = 0)
    (h : ∀ D h', Fr h₀ L h' m → News h₀ L h' ((D, listOf (List.toArray []) 0) :: news) → (∀ p ∈ news, p.1 < D) → Q (.ref D) { s with heap := h' }) : wpAny (model prog w) A (binaryOp .Mult (.ref l) (.int x u)) Q E s := by
  subst hx
  exact KMa.mul F N (N.isList ml) (by decide) (by decide) (by simp) rfl h
theorem rev_list {value slice : Expr} {l : Addr} {vs : List Value} {vk : Value} {ops : List Value} {hp : Heap} {tk : Nat} {Q : Value → Shared → Prop} (F : Fr h₀ L hp m) (N : News h₀ L hp news) (ml : (l, listOf vs.toArray n) ∈ news) (pk : IsPart vk (some (-1))) (hz : vs.length ≤ 100000)
    (h : ∀ D h', Fr h₀ L h' m → News h₀ L h' ((D, listOf vs.reverse.toArray 0) :: news) → (∀ p ∈ news, p.1 < D) → Q (.ref D) { s with heap := h', toks := tk })
    (hs : subscripted slice false (.ref l) (.ref hp.objs.size) = operate ops (getItem (.ref l) (.ref hp.objs.size))) (ht : ∀ r, letTemporaryGo value (.ref l) r = pure ()) :
    wpAny (model prog w) A (subscriptTail value slice (.ref l) (.ref hp.objs.size)) Q E { s with heap := hp.push { cls := .type "slice", data := .fields #[.none, .none, vk] }, toks := tk } :=
  krv_lit (s := { s with heap := hp, toks := tk }) (its := vs.toArray) (zs := vs.reverse) F N (N.isList ml) pk rfl h hs ht (by rw [sizeLine_eq, List.size_toArray]; lia)
end
/-- the kinds of types, as a turn of _law_due tells them apart -/
inductive Kind (led : Led) : Value → Ty → Prop
  | p0 {a : Addr} {kk : Str} {k : Tok} {vs : List Value} {t : Ty} : (a, tupO (.str kk k :: vs)) ∈ led → (kk == Str.ofString "adt") = false → held t = [] → (∀ n r s, flat ((t, n + 1) :: r) s = flat r s) → Kind led (.ref a) t
  | p1 {a : Addr} {kk : Str} {k : Tok} {vs : List Value} {t u : Ty} : (a, tupO (.str kk k :: vs)) ∈ led → (kk == Str.ofString "adt") = false → held t = [u] → (∀ n r s, flat ((t, n + 1) :: r) s = flat ((u, n) :: r) s) →
    wt t = wt u + 1 → t.size = u.size + 1 → (t.ints ∧ t.deep ≤ 20 → u.ints ∧ u.deep ≤ 20) → Kind led (.ref a) t
  | p2 {a : Addr} {kk : Str} {k : Tok} {vs : List Value} {t u u' : Ty} : (a, tupO (.str kk k :: vs)) ∈ led → (kk == Str.ofString "adt") = false → held t = [u, u'] → (∀ n r s, flat ((t, n + 1) :: r) s = flat ((u, n) :: (u', n) :: r) s) →
    wt t = wt u + wt u' + 1 → t.size = u.size + u'.size + 1 → (t.ints ∧ t.deep ≤ 20 → (u.ints ∧ u.deep ≤ 20) ∧ u'.ints ∧ u'.deep ≤ 20) → Kind led (.ref a) t
  | own {a : Addr} {nm : Str} {k k2 : Tok} {vs : List Value} {t : Ty} : (a, tupO (st "adt" k :: .str nm k2 :: vs)) ∈ led → ([Str.ofString "G", Str.ofString "W"].any (· == nm)) = true → held t = [] → (∀ n r s, has s t = false → flat ((t, n + 1) :: r) s = t.regs ++ flat r (s ++ [t])) → t.adt = true → Kind led (.ref a) t
  | two {a : Addr} {nm : Str} {k k2 : Tok} {vs : List Value} {t u u' : Ty} : (a, tupO (st "adt" k :: .str nm k2 :: vs)) ∈ led → ([Str.ofString "G", Str.ofString "W"].any (· == nm)) = false → held t = [u, u'] → (∀ n r s, has s t = false → flat ((t, n + 1) :: r) s = flat ((u, n) :: (u', n) :: r) (s ++ [t])) →
    t.adt = true → wt t = wt u + wt u' + 1 → t.size = u.size + u'.size → (t.ints ∧ t.deep ≤ 20 → (u.ints ∧ u.deep ≤ 20) ∧ u'.ints ∧ u'.deep ≤ 20) → Kind led (.ref a) t
theorem kind_of {led : Led} {v : Value} {t : Ty} (h : TyIn led v t) : Kind led v t := by
  cases h with
  | byte m => exact .p0 m (by decide +kernel) rfl fun _ _ _ => rfl
  | par m => exact .p0 m (by decide +kernel) rfl fun _ _ _ => rfl
  | ref m _ _ => exact .p0 m (by decide +kernel) rfl fun _ _ _ => rfl
  | box m _ => exact .p1 m (by decide +kernel) rfl (fun _ _ _ => rfl) rfl rfl fun h => ⟨h.1, Nat.le_trans (Nat.le_succ _) h.2⟩
  | arr m _ => exact .p1 m (by decide +kernel) rfl (fun _ _ _ => rfl) rfl rfl fun h => ⟨h.1, Nat.le_trans (Nat.le_succ _) h.2⟩
  | pair m _ _ _ => exact .p2 m (by decide +kernel) rfl (fun n r s => flat_pair _ _ n r s) rfl rfl fun h => ⟨⟨h.1.1, Nat.le_trans (Nat.le_trans (Nat.le_max_left _ _) (Nat.le_succ _)) h.2⟩, h.1.2, Nat.le_trans (Nat.le_trans (Nat.le_max_right _ _) (Nat.le_succ _)) h.2⟩
  | g m _ _ _ => exact .own m (by decide +kernel) rfl (fun n r s h => flat_g _ n r s h) rfl
  | @ad _ _ _ _ _ _ _ n _ _ m _ _ _ _ =>
    cases n with
    | W => exact .own m (by decide +kernel) rfl (fun n r s h => flat_W _ _ n r s h) rfl
    | N => exact .two m (by decide +kernel) rfl (fun n r s h => flat_N _ _ n r s h) rfl rfl rfl fun h => ⟨⟨h.1.2, Nat.le_trans (Nat.le_succ _) h.2⟩, h.1.1, Nat.le_of_ble_eq_true rfl⟩
    | E => exact .two m (by decide +kernel) rfl (fun n r s h => flat_E _ _ n r s h) rfl rfl rfl fun h => ⟨⟨h.1.2, Nat.le_trans (Nat.le_succ _) h.2⟩, h.1.1, Nat.le_of_ble_eq_true rfl⟩
theorem own_lines_11 : True := by
  (k_with "eval ListComp" =>
    (k_here; (with_reducible show wpAny _ _ (eval (Expr.ListComp (Expr.Tuple _ _ _) [_] _ _) _) _ _ _); k_dflt (refine LCg.ListComp_U (F₀ := by k_asm) (by with_unfolding_all rfl) (by decide) (by rfl) (by decide) (by rfl) ?_)))
  (k_with "CompSrc" =>
    (k_here; k_dflt ((first | (with_reducible refine' LCg.CompSrc.ledger ?q152hh ?q152hF ?q152hN ?q152hm ?q152hs ?_) | refine' LCg.CompSrc.ledger ?q152hh ?q152hF ?q152hN ?q152hm ?q152hs ?_); (case q152hh => rfl); (case q152hF => k_asm); (case q152hN => k_asm); (case q152hm => k_extra "mine lsm_bools"); (case q152hs => exact Nat.le_of_ble_eq_true rfl)); intro g'; lcg_lit))
  (k_with "mine keq_hits" =>
    first
      | (with_reducible exact Ext.base)
      | (with_reducible assumption)
      | ((with_reducible refine' Ext.cons ?q153e2 ?q153o2); (case q153o2 => k_extra "mine keq_rows"); (case q153e2 => k_extra "mine keq_hits"))
      | ((with_reducible refine' Ext.app ?q153e2 ?q153o2); (case q153o2 => k_extra "mine kbo_bools"); (case q153e2 => k_extra "mine keq_hits")))
  (k_with "call ref" =>
    (k_here; (with_reducible show wpAny _ _ (call (Value.ref 241) _) _ _ _); k_dflt ((first | (with_reducible refine' LRegs.use (lregs _) ?q154B ?q154F ?q154X ?q154N ?q154R ?q154S ?q154T ?q154k ?q154d ?q154u ?q154z ?_) | refine' LRegs.use (lregs _) ?q154B ?q154F ?q154X ?q154N ?q154R ?q154S ?q154T ?q154k ?q154d ?q154u ?q154z ?_); (case q154F => k_asm); (case q154N => k_asm); (case q154R => with_reducible assumption); (case q154S => k_extra "mine kfm_turns"); (case q154X => k_asm); (case q154T => k_asm); (case q154B => k_asm); (case q154k => first | exact rfl | assumption); (case q154d => k_extra "mine ktr_room"); (case q154u => k_extra "mine ktr_units"); (case q154z => k_extra "mine len"); k_whole; intro fl9 tl9 zs9 n9 h9 tk9 F9 N9 ap9 m9 g9 y9; (try simp only [Ty.size] at y9); (try k_fold))))
  (k_with "call ref" =>
    (k_here; (with_reducible show wpAny _ _ (call (Value.ref 248) _) _ _ _); k_dflt (first
      | ((first | (with_reducible refine' LHeld.use0 (lheld _) ?q155H ?q155B ?q155F ?q155X ?q155N ?q155R ?q155S ?q155T ?q155k ?q155d ?q155u ?_) | refine' LHeld.use0 (lheld _) ?q155H ?q155B ?q155F ?q155X ?q155N ?q155R ?q155S ?q155T ?q155k ?q155d ?q155u ?_); (case q155F => k_asm); (case q155N => k_asm); (case q155R => with_reducible assumption); (case q155H => first | exact rfl | assumption); (case q155S => k_extra "mine kfm_turns"); (case q155X => k_asm); (case q155T => k_asm); (case q155B => k_asm); (case q155k => first | exact rfl | assumption); (case q155d => k_extra "mine ktr_room"); (case q155u => k_extra "mine ktr_units"); k_whole; intro fl9 tl9 n9 h9 tk9 F9 N9 ap9 m9; (try k_fold))
      | ((first | (with_reducible refine' LHeld.use1 (lheld _) ?q155H ?q155B ?q155F ?q155X ?q155N ?q155R ?q155S ?q155T ?q155k ?q155d ?q155u ?_) | refine' LHeld.use1 (lheld _) ?q155H ?q155B ?q155F ?q155X ?q155N ?q155R ?q155S ?q155T ?q155k ?q155d ?q155u ?_); (case q155F => k_asm); (case q155N => k_asm); (case q155R => with_reducible assumption); (case q155H => first | exact rfl | assumption); (case q155S => k_extra "mine kfm_turns"); (case q155X => k_asm); (case q155T => k_asm); (case q155B => k_asm); (case q155k => first | exact rfl | assumption); (case q155d => k_extra "mine ktr_room"); (case q155u => k_extra "mine ktr_units"); k_whole; intro fl9 tl9 x9 n9 h9 tk9 F9 N9 ap9 m9 g9; (try k_fold))
      | ((first | (with_reducible refine' LHeld.use2 (lheld _) ?q155H ?q155B ?q155F ?q155X ?q155N ?q155R ?q155S ?q155T ?q155k ?q155d ?q155u ?_) | refine' LHeld.use2 (lheld _) ?q155H ?q155B ?q155F ?q155X ?q155N ?q155R ?q155S ?q155T ?q155k ?q155d ?q155u ?_); (case q155F => k_asm); (case q155N => k_asm); (case q155R => with_reducible assumption); (case q155H => first | exact rfl | assumption); (case q155S => k_extra "mine kfm_turns"); (case q155X => k_asm); (case q155T => k_asm); (case q155B => k_asm); (case q155k => first | exact rfl | assumption); (case q155d => k_extra "mine ktr_room"); (case q155u => k_extra "mine ktr_units"); k_whole; intro fl9 tl9 x9 y9 n9 h9 tk9 F9 N9 ap9 m9 g8 g9; (try k_fold)))))
  (k_with "call builtin:list.pop" =>
    (k_here; k_dflt ((first | (with_reducible refine' pop_pull ?q156F ?q156N ?q156P ?q156O ?q156z ?_) | refine' pop_pull ?q156F ?q156N ?q156P ?q156O ?q156z ?_); (case q156F => k_asm); (case q156N => k_asm); (case q156P => k_extra "mine kpc_turns"); (case q156O => k_extra "mine kat_tups"); (case q156z => lia); k_whole); intro h' F' N'))
  (k_with "compareOp NotEq ref ref" =>
    (k_here; k_dflt ((first | (with_reducible refine' stk_ne ?q157N ?q157m1 ?q157m2 ?q157K ?q157i ?q157u ?_) | refine' stk_ne ?q157N ?q157m1 ?q157m2 ?q157K ?q157i ?q157u ?_); (case q157N => k_asm); (case q157m1 => k_extra "mine lsm_bools"); (case q157m2 => k_extra "mine lsm_bools"); (case q157K => k_extra "mine stk"); (case q157i => with_reducible assumption); (case q157u => k_extra "mine ktr_units"); k_whole); (try simp only [List.isEmpty_nil, List.isEmpty_cons, Bool.not_true, Bool.not_false])))
  (k_with "mine stk" =>
    first | (with_reducible assumption) | exact StkIn.mono (by with_reducible assumption) (by k_extra "mine kfm_turns"))
  (k_with "mine rev" =>
    (k_here; (with_reducible show wpAny _ _ (subscriptTail _ (Expr.Slice none none (some _) _) (Value.ref _) (Value.ref _)) _ _ _); k_dflt ((first | (with_reducible refine' rev_list ?q159F ?q159N ?q159l ?q159k ?q159z ?_ ?q159s ?q159t) | refine' rev_list ?q159F ?q159N ?q159l ?q159k ?q159z ?_ ?q159s ?q159t); (case q159F => k_asm); (case q159N => k_asm); (case q159l => k_extra "mine lsm_bools"); (case q159k => exact IsPart.int _ _); (case q159z => first | exact Nat.le_of_ble_eq_true rfl | k_extra "mine len"); (case q159s => with_unfolding_all rfl); (case q159t => kmk_pure); k_whole); intro D' h' F' N' l1; (try k_lt l1); (try simp only [List.reverse_cons, List.reverse_nil, List.nil_append, List.cons_append] at N')))
  (k_with "mine stks" =>
    first
      | (with_reducible assumption)
      | exact StkIn.zero (by k_extra "mine stk")
      | ((first | (with_reducible refine' StkIn.one' ?q160h ?q160e ?q160m ?q160r) | refine' StkIn.one' ?q160h ?q160e ?q160m ?q160r); (case q160h => k_extra "mine stk"); (case q160e => with_reducible assumption); (case q160m => k_extra "mine lsm_bools"); (case q160r => k_extra "mine same"))
      | ((first | (with_reducible refine' StkIn.two' ?q160h ?q160e ?q160m ?q160r ?q160m2 ?q160r2) | refine' StkIn.two' ?q160h ?q160e ?q160m ?q160r ?q160m2 ?q160r2); (case q160h => k_extra "mine stk"); (case q160e => with_reducible assumption); (case q160m => k_extra "mine lsm_bools"); (case q160r => k_extra "mine same"); (case q160m2 => k_extra "mine lsm_bools"); (case q160r2 => k_extra "mine same"))
      | k_extra "mine stk")
  (k_with "mine seen" =>
    first
      | exact TysIn.zero (by k_extra "mine tys")
      | k_extra "mine tys")
  (k_with "mine found" =>
    first
      | (with_reducible assumption)
      | exact RegsAre.append (by with_reducible assumption) (by with_reducible assumption))
  (k_with "mine cnt" =>
    ((try simp only [List.length_append, List.length_cons, List.length_nil, szs, wts, wt, Ty.size]); lia))
  (k_with "last exec While" =>
    (refine stop_i ?_))
  (k_with "WhlRest" =>
    (refine stop_i ?_))
  (k_with "mine close" =>
    (unfold Stop; (first | (with_reducible refine' whl_use ?q166ih ?q166lt ?q166J) | refine' whl_use ?q166ih ?q166lt ?q166J); (case q166ih => (first | (with_reducible assumption) | fail)); (case q166J => (first | (((first | (with_reducible refine' due_next ?q166F ?q166N ?q166P ?q166e ?q166O ?q166d ?q166R ?q166S ?q166K ?q166T ?q166i1 ?q166i2 ?q166i3 ?q166z1 ?q166z2 ?q166z3 ?q166z4) | refine' due_next ?q166F ?q166N ?q166P ?q166e ?q166O ?q166d ?q166R ?q166S ?q166K ?q166T ?q166i1 ?q166i2 ?q166i3 ?q166z1 ?q166z2 ?q166z3 ?q166z4); (case q166F => (first | (k_asm) | fail)); (case q166N => (first | (k_asm) | fail)); (case q166P => (first | (k_extra "mine kaf_pre") | fail)); (case q166e => (first | (k_extra "mine keq_hits") | fail)); (case q166O => (first | (k_extra "mine kaf_suf") | fail)); (case q166d => (first | (assumption) | fail)); (case q166R => (first | (k_extra "mine found") | fail)); (case q166S => (first | (k_extra "mine seen") | fail)); (case q166K => (first | (k_extra "mine stks") | fail)); (case q166T => (first | (with_reducible assumption) | fail)); (case q166i1 => (first | (with_reducible assumption) | fail)); (case q166i2 => (first | (with_reducible assumption) | fail)); (case q166i3 => (first | (with_reducible assumption) | fail)); (case q166z1 => (first | (exact Nat.le_refl _) | fail)); (case q166z2 => (first | (k_extra "mine cnt") | fail)); (case q166z3 => (first | (k_extra "mine cnt") | fail)); (case q166z4 => (first | (k_extra "mine cnt") | fail)))) | fail)); (case q166lt => k_extra "mine cnt"); (all_goals (k_extra "mine cnt"))))
  (k_with "subscriptTail Name Slice ref ref" =>
    k_extra "mine rev")
  (k_with "binaryOp Mult ref int" =>
    (k_here; (with_reducible show wpAny _ _ (binaryOp Operator.Mult (Value.ref _) (Value.int _ _)) _ _ _); k_dflt (first
      | ((first | (with_reducible refine' mul_yes ?q168F ?q168N ?q168l ?q168x ?_) | refine' mul_yes ?q168F ?q168N ?q168l ?q168x ?_); (case q168F => k_asm); (case q168N => k_asm); (case q168l => k_extra "mine lsm_bools"); (case q168x => first | rfl | decide | (rw [‹(_ == Str.ofString "adt") = false›]; rfl)); k_whole)
      | ((first | (with_reducible refine' mul_no ?q168F ?q168N ?q168l ?q168x ?_) | refine' mul_no ?q168F ?q168N ?q168l ?q168x ?_); (case q168F => k_asm); (case q168N => k_asm); (case q168l => k_extra "mine lsm_bools"); (case q168x => first | rfl | decide | (rw [‹(_ == Str.ofString "adt") = false›]; rfl)); k_whole)); intro D' h' F' N' l1; (try k_lt l1)))
  trivial
theorem ldue (t : Ty) (k : Nat) : LDue w p loose mean mg mb t k := (by exact unwrap _ : Wrap _ (by
  intro dp un gd cn cs a ccd cl outer A₀ base h₀ L m s v i kt news led Q E B F X N R hS hi i1 i2 z1 z2 T hk rd ru hret
  k_dflt (k_extra "mine in")
  k_steps
  unfold Stop
  refine whl_start 100 ?_
  rename Fr _ _ _ _ => lF
  rename News _ _ _ _ => lN
  refine' whl_ind (k := 100) (DueJ _ _ _ _ led _ _ _ _ (dw k t []).1) ?zzturn (wt t) _ (due_start lF lN ?zzq1 ?zzq2 ?zzq3 ?zzP ?zze ?zzO ?zzd ?zzmb ?zzR hi i1 i2 z1 z2)
  case zzq1 => rfl
  case zzq2 => rfl
  case zzq3 => rfl
  case zzd => assumption
  case zzP => (first | k_extra "mine kaf_pre" | (fail "P"))
  case zze => (first | k_extra "mine keq_hits" | (fail "e"))
  case zzO => (first | k_extra "mine kaf_suf" | (fail "O"))
  case zzmb => (first | k_extra "mine lsm_bools" | (fail "mb"))
  case zzR => (first | k_extra "mine same" | (fail "R"))
  case zzturn =>
    clear lF lN
    intro n9 s9 ih9 hJ9
    obtain ⟨h9, tk9, hv9, mv9, oc9, xs9, rs9, ss9, sts9, stk9, tks9, n19, n29, n39, lr9, tl9, rfl, F9, N9, e9, O9, d9, R9, S9, K9, T9, j1, j2, j3, j4, j5, j6, j7⟩ := hJ9
    obtain ⟨f1, f2, f3, f4, _⟩ := O9
    have hls := e9.sub
    have K0 := K9
    cases K9 with
    | nil =>
      simp only [flat, List.append_nil] at T9
      subst T9
      k_dflt (refine' whl_turn ?zzhE ?_; (case zzhE => first | passes_own | with_unfolding_all passes_own))
      k_steps
      first
        | (refine' fin9 hret ?zzF ?zzN ?zze ?zzM ?zzG; (case zzF => k_asm); (case zzN => k_asm); (case zze => k_extra "mine keq_hits"); (case zzM => k_extra "mine lsm_bools"); (case zzG => with_reducible assumption))
        | (fail "nil")
    | @cons a9 v9 i9 k9 t9 n9' vs9 ts9 ma9 r9 ei9 K9 =>
      have ht9 := j1 _ (.head _)
      have j1' : ∀ q ∈ ts9, q.1.ints ∧ q.1.deep ≤ 20 := fun q hq => j1 q (.tail _ hq)
      simp only [wts] at j4 j6 j7
      simp only [szs] at j5
      have hl9 := K9.length
      have wp9 := wt_pos t9
      cases n9' with
      | zero =>
        rw [flat_0, ← List.append_assoc] at T9
        k_dflt (refine' whl_turn ?zzhE ?_; (case zzhE => first | passes_own | with_unfolding_all passes_own))
        k_steps
        first | k_extra "mine close" | (fail "zero")
      | succ n9' =>
        have r0 := r9
        have hi9 : t9.ints := ht9.1
        cases hh : has sts9 t9 with
        | true =>
          have had := j3 _ ((has_iff hi9 j2).mp hh)
          rw [flat_hit _ _ _ _ had hh] at T9
          obtain ⟨x9, kx9, vsx9, rfl, mx9⟩ := ty_adt had r9
          k_dflt (refine' whl_turn ?zzhE ?_; (case zzhE => first | passes_own | with_unfolding_all passes_own))
          k_steps
          first | k_extra "mine close" | (fail "hit")
        | false =>
          cases kind_of r9 with
          | p0 w1 w2 hl2 hf2 =>
            rw [hf2] at T9
            k_dflt (refine' whl_turn ?zzhE ?_; (case zzhE => first | passes_own | with_unfolding_all passes_own))
            k_steps
            first | k_extra "mine close" | (fail "p0")
          | @p1 _ _ _ _ _ u8 w1 w2 hl2 hf2 hw2 hz2 hi2 =>
            rw [hf2] at T9
            have j1'' : ∀ q ∈ (u8, n9') :: ts9, q.1.ints ∧ q.1.deep ≤ 20 := fun q hq => by
              rcases List.mem_cons.mp hq with rfl | hq
              · exact hi2 ht9
              · exact j1' q hq
            rw [hw2] at j4 j6 j7
            rw [hz2] at j5
            k_dflt (refine' whl_turn ?zzhE ?_; (case zzhE => first | passes_own | with_unfolding_all passes_own))
            k_steps
            first | k_extra "mine close" | (fail "p1")
          | @p2 _ _ _ _ _ u8 u7 w1 w2 hl2 hf2 hw2 hz2 hi2 =>
            rw [hf2] at T9
            have j1'' : ∀ q ∈ (u8, n9') :: (u7, n9') :: ts9, q.1.ints ∧ q.1.deep ≤ 20 := fun q hq => by
              rcases List.mem_cons.mp hq with rfl | hq
              · exact (hi2 ht9).1
              rcases List.mem_cons.mp hq with rfl | hq
              · exact (hi2 ht9).2
              · exact j1' q hq
            have wq9 := wt_pos u7
            rw [hw2] at j4 j6 j7
            rw [hz2] at j5
            k_dflt (refine' whl_turn ?zzhE ?_; (case zzhE => first | passes_own | with_unfolding_all passes_own))
            k_steps
            first | k_extra "mine close" | (fail "p2")
          | own w1 w2 hl2 hf2 ha2 =>
            rw [hf2 _ _ _ hh, ← List.append_assoc] at T9
            have j2' := ints_add j2 hi9
            have j3' := adt_add j3 ha2
            k_dflt (refine' whl_turn ?zzhE ?_; (case zzhE => first | passes_own | with_unfolding_all passes_own))
            k_steps
            first | k_extra "mine close" | (fail "own")
          | @two _ _ _ _ _ _ u8 u7 w1 w2 hl2 hf2 ha2 hw2 hz2 hi2 =>
            rw [hf2 _ _ _ hh] at T9
            have j2' := ints_add j2 hi9
            have j3' := adt_add j3 ha2
            have j1'' : ∀ q ∈ (u8, n9') :: (u7, n9') :: ts9, q.1.ints ∧ q.1.deep ≤ 20 := fun q hq => by
              rcases List.mem_cons.mp hq with rfl | hq
              · exact (hi2 ht9).1
              rcases List.mem_cons.mp hq with rfl | hq
              · exact (hi2 ht9).2
              · exact j1' q hq
            have wq9 := wt_pos u8
            rw [hw2] at j4 j6 j7
            rw [hz2] at j5
            k_dflt (refine' whl_turn ?zzhE ?_; (case zzhE => first | passes_own | with_unfolding_all passes_own))
            k_steps
            first | k_extra "mine close" | (fail "two")))
/-- a call of _law_take -/
def LTake (w : World) (p : Program) (loose : List Str) (mean : ExcName → Option Value) (mg mb : Str → Option Value) : Prop :=
  ∀ (dp un : Nat) (gd : Option (List Code)) (cn : Str) (cs : Scope) (a : Addr) (ccd : Value) (cl : List (Str × Addr)) (outer : List Env) (A₀ : Around) (base h₀ : Heap) (L : Addr) (m : Str → Option Value) (s : Shared)
    (D : Addr) (x y : Int) (kx ky : Tok) (n : Nat) (top : Int) (kt : Tok) (all led : Led) (Q E : Value → Shared → Prop),
    Below A₀ base outer h₀ → Fr h₀ L s.heap m → (hd.heap_39 w.params).In h₀ → News h₀ L s.heap all → Pull (D, listOf (List.toArray [.int x kx, .int y ky]) n) all led → Off D led → 0 ≤ x → 0 ≤ x → 0 ≤ y → y < 2147483647 → 0 < top → top < 10 →
    Top p loose mean mg mb h₀ → cs.kind = .function → dp + 8 < recursionLimit → un + 80 < cLine →
    (∀ r kr x' y' kx' ky' n' h' tk', Fr h₀ L h' m → News h₀ L h' ((D, listOf (List.toArray [.int x' kx', .int y' ky']) n') :: led) → 0 ≤ r → r < top → 0 ≤ x' → 0 ≤ x' → 0 ≤ y' → y' < 2147483647 → Q (.int r kr) { s with heap := h', toks := tk' }) →
    wpAny (model P0 w) (ktrTop dp un gd cn cs L a ccd cl outer) (call (.ref 201) [.ref D, .int top kt]) Q E s
theorem fdiv_facts {x top : Int} (h : 0 ≤ x) (t : 0 < top) : 0 ≤ x.fdiv top ∧ 0 ≤ x.fdiv top := by
  rw [Int.fdiv_eq_ediv_of_nonneg _ (Int.le_of_lt t)]
  have h1 := Int.ediv_nonneg h (Int.le_of_lt t)
  exact ⟨h1, h1⟩
theorem fmod_facts (x : Int) {top : Int} (t : 0 < top) : 0 ≤ x.fmod top ∧ x.fmod top < top := ⟨Int.fmod_nonneg_of_pos x t, Int.fmod_lt_of_pos x t⟩
section
variable {dp un : Nat} {gd : Option (List Code)} {cn : Str} {cs : Scope} {a : Addr} {ccd : Value} {cl : List (Str × Addr)} {outer : List Env} {A₀ : Around} {base h₀ : Heap} {L : Addr} {m : Str → Option Value} {s : Shared}
    {Q E : Value → Shared → Prop}
theorem LTake.use {D : Addr} {x y : Int} {kx ky : Tok} {n : Nat} {top : Int} {kt : Tok} {all led : Led} (C : LTake w p loose mean mg mb) (B : Below A₀ base outer h₀) (F : Fr h₀ L s.heap m) (X : (hd.heap_39 w.params).In h₀) (N : News h₀ L s.heap all) (P : Pull (D, listOf (List.toArray [.int x kx, .int y ky]) n) all led) (O : Off D led) (x1 : 0 ≤ x) (x2 : 0 ≤ x) (y1 : 0 ≤ y) (y2 : y < 2147483647) (t1 : 0 < top) (t2 : top < 10)
    (T : Top p loose mean mg mb h₀) (hk : cs.kind = .function) (rd : dp + 8 < recursionLimit) (ru : un + 80 < cLine)
    (ret : ∀ r kr x' y' kx' ky' n' h' tk', Fr h₀ L h' m → News h₀ L h' ((D, listOf (List.toArray [.int x' kx', .int y' ky']) n') :: led) → 0 ≤ r → r < top → 0 ≤ x' → 0 ≤ x' → 0 ≤ y' → y' < 2147483647 → Q (.int r kr) { s with heap := h', toks := tk' }) :
    wpAny (model P0 w) (ktrTop dp un gd cn cs L a ccd cl outer) (call (.ref 201) [.ref D, .int top kt]) Q E s := C _ _ _ _ _ _ _ _ _ _ _ _ _ _ _ _ _ _ _ _ _ _ _ _ _ _ _ B F X N P O x1 x2 y1 y2 t1 t2 T hk rd ru ret
theorem fin10 {D : Addr} {top : Int} {lf led : Led} {r : Int} {kr : Tok} {x' y' : Int} {kx' ky' : Tok} {n' : Nat} {h' : Heap} {tk' : Nat}
    (hret : ∀ r kr x' y' kx' ky' n' h' tk', Fr h₀ L h' m → News h₀ L h' ((D, listOf (List.toArray [.int x' kx', .int y' ky']) n') :: led) → 0 ≤ r → r < top → 0 ≤ x' → 0 ≤ x' → 0 ≤ y' → y' < 2147483647 → Q (.int r kr) { s with heap := h', toks := tk' })
    (F : Fr h₀ L h' m) (N : News h₀ L h' lf) (P : Pull (D, listOf (List.toArray [.int x' kx', .int y' ky']) n') lf led) (r1 : 0 ≤ r ∧ r < top) (x1 : 0 ≤ x' ∧ 0 ≤ x') (y1 : 0 ≤ y' ∧ y' < 2147483647) : Q (.int r kr) { s with heap := h', toks := tk' } :=
  hret r kr x' y' kx' ky' n' h' tk' F (P.news N) r1.1 r1.2 x1.1 x1.2 y1.1 y1.2
end
theorem ltake : LTake w p loose mean mg mb := (by exact unwrap _ : Wrap _ (by
  intro dp un gd cn cs a ccd cl outer A₀ base h₀ L m s D x y kx ky n top kt all led Q E B F X N hP hO x1 x2 y1 y2 t1 t2 T hk rd ru hret
  replace N : News h₀ L s.heap ((D, listOf (List.toArray [.int x kx, .int y ky]) n) :: led) := fun p hp => N p (hP.mem p hp)
  clear hP
  rcases (by lia : 0 < x ∨ x ≤ 0) with hx | hx
  · k_dflt (k_extra "mine in")
    k_steps
    first
      | (refine' fin10 hret ?zzF ?zzN ?zzP ?zzr ?zzx ?zzy; (case zzF => k_asm); (case zzN => k_asm); (case zzP => k_extra "mine kpc_turns"); (case zzr => exact fmod_facts _ t1); (case zzx => exact fdiv_facts x1 t1); (case zzy => exact ⟨y1, y2⟩))
      | (fail "pos")
  · have hx0 : x = 0 := by lia
    subst hx0
    k_dflt (k_extra "mine in")
    k_steps
    first
      | (refine' fin10 hret ?zzF ?zzN ?zzP ?zzr ?zzx ?zzy; (case zzF => k_asm); (case zzN => k_asm); (case zzP => k_extra "mine kpc_turns"); (case zzr => exact fmod_facts _ t1); (case zzx => exact ⟨Int.le_refl _, Int.le_refl _⟩); (case zzy => exact fmod_facts _ (by decide)))
      | (fail "zero")))
/-- a call of _law_type -/
def LType (w : World) (p : Program) (loose : List Str) (mean : ExcName → Option Value) (mg mb : Str → Option Value) (d : Nat) : Prop :=
  ∀ (dp un : Nat) (gd : Option (List Code)) (cn : Str) (cs : Scope) (a : Addr) (ccd : Value) (cl : List (Str × Addr)) (outer : List Env) (A₀ : Around) (base h₀ : Heap) (L : Addr) (m : Str → Option Value) (s : Shared)
    (D : Addr) (x y : Int) (kx ky : Tok) (n : Nat) (i : Int) (kt : Tok) (all led : Led) (Q E : Value → Shared → Prop),
    Below A₀ base outer h₀ → Fr h₀ L s.heap m → (hd.heap_39 w.params).In h₀ → News h₀ L s.heap all → Pull (D, listOf (List.toArray [.int x kx, .int y ky]) n) all led → Off D led → 0 ≤ x → 0 ≤ x → 0 ≤ y → y < 2147483647 → i = (d : Int) →
    Top p loose mean mg mb h₀ → cs.kind = .function → dp + (3 * d + 20) < recursionLimit → un + (30 * d + 300) < cLine →
    (∀ v t x' y' kx' ky' n' tl h' tk', Fr h₀ L h' m → News h₀ L h' ((D, listOf (List.toArray [.int x' kx', .int y' ky']) n') :: (tl ++ led)) → Apart ((D, listOf (List.toArray [.int x' kx', .int y' ky']) n') :: led) tl → TyIn tl v t → t.ints → t.deep ≤ d + 2 → t.size ≤ 3 * d + 2 → wt t ≤ 2 * d + 1 →
      0 ≤ x' → 0 ≤ x' → 0 ≤ y' → y' < 2147483647 → Q v { s with heap := h', toks := tk' }) →
    wpAny (model P0 w) (ktrTop dp un gd cn cs L a ccd cl outer) (call (.ref 229) [.ref D, .int i kt]) Q E s
section
variable {dp un : Nat} {gd : Option (List Code)} {cn : Str} {cs : Scope} {a : Addr} {ccd : Value} {cl : List (Str × Addr)} {outer : List Env} {A₀ : Around} {base h₀ : Heap} {L : Addr} {m : Str → Option Value} {s : Shared}
    {Q E : Value → Shared → Prop}
theorem LType.use {d : Nat} {D : Addr} {x y : Int} {kx ky : Tok} {n : Nat} {i : Int} {kt : Tok} {all led : Led} (C : LType w p loose mean mg mb d) (B : Below A₀ base outer h₀) (F : Fr h₀ L s.heap m) (X : (hd.heap_39 w.params).In h₀) (N : News h₀ L s.heap all) (P : Pull (D, listOf (List.toArray [.int x kx, .int y ky]) n) all led) (O : Off D led) (x1 : 0 ≤ x) (x2 : 0 ≤ x) (y1 : 0 ≤ y) (y2 : y < 2147483647) (hi : i = (d : Int))
    (T : Top p loose mean mg mb h₀) (hk : cs.kind = .function) (rd : dp + (3 * d + 20) < recursionLimit) (ru : un + (30 * d + 300) < cLine)
    (ret : ∀ v t x' y' kx' ky' n' tl h' tk', Fr h₀ L h' m → News h₀ L h' ((D, listOf (List.toArray [.int x' kx', .int y' ky']) n') :: (tl ++ led)) → Apart ((D, listOf (List.toArray [.int x' kx', .int y' ky']) n') :: led) tl → TyIn tl v t → t.ints → t.deep ≤ d + 2 → t.size ≤ 3 * d + 2 → wt t ≤ 2 * d + 1 →
      0 ≤ x' → 0 ≤ x' → 0 ≤ y' → y' < 2147483647 → Q v { s with heap := h', toks := tk' }) :
    wpAny (model P0 w) (ktrTop dp un gd cn cs L a ccd cl outer) (call (.ref 229) [.ref D, .int i kt]) Q E s := C _ _ _ _ _ _ _ _ _ _ _ _ _ _ _ _ _ _ _ _ _ _ _ _ _ _ _ B F X N P O x1 x2 y1 y2 hi T hk rd ru ret
theorem fin11 {d : Nat} {D : Addr} {lf lr led tl : Led} {v : Value} {t : Ty} {x' y' : Int} {kx' ky' : Tok} {n' : Nat} {h' : Heap} {tk' : Nat}
    (hret : ∀ v t x' y' kx' ky' n' tl h' tk', Fr h₀ L h' m → News h₀ L h' ((D, listOf (List.toArray [.int x' kx', .int y' ky']) n') :: (tl ++ led)) → Apart ((D, listOf (List.toArray [.int x' kx', .int y' ky']) n') :: led) tl → TyIn tl v t → t.ints → t.deep ≤ d + 2 → t.size ≤ 3 * d + 2 → wt t ≤ 2 * d + 1 →
      0 ≤ x' → 0 ≤ x' → 0 ≤ y' → y' < 2147483647 → Q v { s with heap := h', toks := tk' })
    (F : Fr h₀ L h' m) (N : News h₀ L h' lf) (P : Pull (D, listOf (List.toArray [.int x' kx', .int y' ky']) n') lf lr) (e : Ext led lr tl) (O : Off D lr) (R : TyIn tl v t) (h1 : t.ints) (h2 : t.deep ≤ d + 2) (h3 : t.size ≤ 3 * d + 2) (h4 : wt t ≤ 2 * d + 1)
    (x1 : 0 ≤ x') (x2 : 0 ≤ x') (y1 : 0 ≤ y') (y2 : y' < 2147483647) : Q v { s with heap := h', toks := tk' } := by
  have h := e.apart
  have q := e.eq
  subst q
  refine hret v t x' y' kx' ky' n' tl h' tk' F (P.news N) (fun x hx y hy => ?_) R h1 h2 h3 h4 x1 x2 y1 y2
  rcases List.mem_cons.mp hx with rfl | hx
  · exact (O y (List.mem_append_left _ hy)).symm
  · exact h x hx y hy
end
section
variable {dp un : Nat} {gd : Option (List Code)} {cn : Str} {cs : Scope} {a : Addr} {ccd : Value} {cl : List (Str × Addr)} {outer : List Env} {A₀ : Around} {base h₀ : Heap} {L : Addr} {m : Str → Option Value} {s : Shared}
    {Q E : Value → Shared → Prop}
abbrev RetAt (h₀ : Heap) (L : Addr) (m : Str → Option Value) (s : Shared) (led : Led) (D : Addr) (Q : Value → Shared → Prop) (r : Int) : Prop :=
  ∀ kr x' y' kx' ky' n' h' tk', Fr h₀ L h' m → News h₀ L h' ((D, listOf (List.toArray [.int x' kx', .int y' ky']) n') :: led) → 0 ≤ x' → 0 ≤ x' → 0 ≤ y' → y' < 2147483647 → Q (.int r kr) { s with heap := h', toks := tk' }
theorem LTake.use3 {D : Addr} {x y : Int} {kx ky : Tok} {n : Nat} {kt : Tok} {all led : Led} (C : LTake w p loose mean mg mb) (B : Below A₀ base outer h₀) (F : Fr h₀ L s.heap m) (X : (hd.heap_39 w.params).In h₀) (N : News h₀ L s.heap all) (P : Pull (D, listOf (List.toArray [.int x kx, .int y ky]) n) all led) (O : Off D led) (x1 : 0 ≤ x) (x2 : 0 ≤ x) (y1 : 0 ≤ y) (y2 : y < 2147483647)
    (T : Top p loose mean mg mb h₀) (hk : cs.kind = .function) (rd : dp + 8 < recursionLimit) (ru : un + 80 < cLine)
    (c0 : RetAt h₀ L m s led D Q 0)
    (c1 : RetAt h₀ L m s led D Q 1)
    (c2 : RetAt h₀ L m s led D Q 2)
    : wpAny (model P0 w) (ktrTop dp un gd cn cs L a ccd cl outer) (call (.ref 201) [.ref D, .int 3 kt]) Q E s :=
  C.use B F X N P O x1 x2 y1 y2 (by decide) (by decide) T hk rd ru fun r kr x' y' kx' ky' n' h' tk' F' N' r1 r2 a1 a2 a3 a4 => by
    rcases (by lia : r = 0 ∨ r = 1 ∨ r = 2) with rfl | rfl | rfl
    · exact c0 kr x' y' kx' ky' n' h' tk' F' N' a1 a2 a3 a4
    · exact c1 kr x' y' kx' ky' n' h' tk' F' N' a1 a2 a3 a4
    · exact c2 kr x' y' kx' ky' n' h' tk' F' N' a1 a2 a3 a4
theorem LTake.use9 {D : Addr} {x y : Int} {kx ky : Tok} {n : Nat} {kt : Tok} {all led : Led} (C : LTake w p loose mean mg mb) (B : Below A₀ base outer h₀) (F : Fr h₀ L s.heap m) (X : (hd.heap_39 w.params).In h₀) (N : News h₀ L s.heap all) (P : Pull (D, listOf (List.toArray [.int x kx, .int y ky]) n) all led) (O : Off D led) (x1 : 0 ≤ x) (x2 : 0 ≤ x) (y1 : 0 ≤ y) (y2 : y < 2147483647)
    (T : Top p loose mean mg mb h₀) (hk : cs.kind = .function) (rd : dp + 8 < recursionLimit) (ru : un + 80 < cLine)
    (c0 : RetAt h₀ L m s led D Q 0)
    (c1 : RetAt h₀ L m s led D Q 1)
    (c2 : RetAt h₀ L m s led D Q 2)
    (c3 : RetAt h₀ L m s led D Q 3)
    (c4 : RetAt h₀ L m s led D Q 4)
    (c5 : RetAt h₀ L m s led D Q 5)
    (c6 : RetAt h₀ L m s led D Q 6)
    (c7 : RetAt h₀ L m s led D Q 7)
    (c8 : RetAt h₀ L m s led D Q 8)
    : wpAny (model P0 w) (ktrTop dp un gd cn cs L a ccd cl outer) (call (.ref 201) [.ref D, .int 9 kt]) Q E s :=
  C.use B F X N P O x1 x2 y1 y2 (by decide) (by decide) T hk rd ru fun r kr x' y' kx' ky' n' h' tk' F' N' r1 r2 a1 a2 a3 a4 => by
    rcases (by lia : r = 0 ∨ r = 1 ∨ r = 2 ∨ r = 3 ∨ r = 4 ∨ r = 5 ∨ r = 6 ∨ r = 7 ∨ r = 8) with rfl | rfl | rfl | rfl | rfl | rfl | rfl | rfl | rfl
    · exact c0 kr x' y' kx' ky' n' h' tk' F' N' a1 a2 a3 a4
    · exact c1 kr x' y' kx' ky' n' h' tk' F' N' a1 a2 a3 a4
    · exact c2 kr x' y' kx' ky' n' h' tk' F' N' a1 a2 a3 a4
    · exact c3 kr x' y' kx' ky' n' h' tk' F' N' a1 a2 a3 a4
    · exact c4 kr x' y' kx' ky' n' h' tk' F' N' a1 a2 a3 a4
    · exact c5 kr x' y' kx' ky' n' h' tk' F' N' a1 a2 a3 a4
    · exact c6 kr x' y' kx' ky' n' h' tk' F' N' a1 a2 a3 a4
    · exact c7 kr x' y' kx' ky' n' h' tk' F' N' a1 a2 a3 a4
    · exact c8 kr x' y' kx' ky' n' h' tk' F' N' a1 a2 a3 a4
end
theorem own_lines_12 : True := by
  (k_with "call ref" =>
    (k_here; (with_reducible show wpAny _ _ (call (Value.ref 201) _) _ _ _); k_dflt ((first | (with_reducible refine' LTake.use ltake ?q169B ?q169F ?q169X ?q169N ?q169P ?q169O ?q169x1 ?q169x2 ?q169y1 ?q169y2 ?q169t1 ?q169t2 ?q169T ?q169k ?q169d ?q169u ?_) | refine' LTake.use ltake ?q169B ?q169F ?q169X ?q169N ?q169P ?q169O ?q169x1 ?q169x2 ?q169y1 ?q169y2 ?q169t1 ?q169t2 ?q169T ?q169k ?q169d ?q169u ?_); (case q169F => k_asm); (case q169N => k_asm); (case q169P => k_extra "mine kpc_turns"); (case q169O => k_extra "mine kat_tups"); (case q169x1 => with_reducible assumption); (case q169x2 => with_reducible assumption); (case q169y1 => with_reducible assumption); (case q169y2 => with_reducible assumption); (case q169X => k_asm); (case q169T => k_asm); (case q169B => k_asm); (case q169k => first | exact rfl | assumption); (case q169d => k_extra "mine ktr_room"); (case q169u => k_extra "mine ktr_units"); (case q169t1 => decide); (case q169t2 => decide); k_whole; intro r9 kr9 x9 y9 kx9 ky9 n9 h9 tk9 F9 N9 rl9 rh9 xl9 xh9 yl9 yh9; (try k_fold))))
  (k_with "call ref" =>
    (k_here; (with_reducible show wpAny _ _ (call (Value.ref 201) _) _ _ _); k_dflt ((first | (with_reducible refine' LTake.use3 ltake ?q170B ?q170F ?q170X ?q170N ?q170P ?q170O ?q170x1 ?q170x2 ?q170y1 ?q170y2 ?q170T ?q170k ?q170d ?q170u ?_ ?_ ?_) | refine' LTake.use3 ltake ?q170B ?q170F ?q170X ?q170N ?q170P ?q170O ?q170x1 ?q170x2 ?q170y1 ?q170y2 ?q170T ?q170k ?q170d ?q170u ?_ ?_ ?_); (case q170F => k_asm); (case q170N => k_asm); (case q170P => k_extra "mine kpc_turns"); (case q170O => k_extra "mine kat_tups"); (case q170x1 => with_reducible assumption); (case q170x2 => with_reducible assumption); (case q170y1 => with_reducible assumption); (case q170y2 => with_reducible assumption); (case q170X => k_asm); (case q170T => k_asm); (case q170B => k_asm); (case q170k => first | exact rfl | assumption); (case q170d => k_extra "mine ktr_room"); (case q170u => k_extra "mine ktr_units"); (all_goals (intro kr9 x9 y9 kx9 ky9 n9 h9 tk9 F9 N9 xl9 xh9 yl9 yh9; (try k_fold))))))
  (k_with "call ref" =>
    (k_here; (with_reducible show wpAny _ _ (call (Value.ref 201) _) _ _ _); k_dflt ((first | (with_reducible refine' LTake.use9 ltake ?q171B ?q171F ?q171X ?q171N ?q171P ?q171O ?q171x1 ?q171x2 ?q171y1 ?q171y2 ?q171T ?q171k ?q171d ?q171u ?_ ?_ ?_ ?_ ?_ ?_ ?_ ?_ ?_) | refine' LTake.use9 ltake ?q171B ?q171F ?q171X ?q171N ?q171P ?q171O ?q171x1 ?q171x2 ?q171y1 ?q171y2 ?q171T ?q171k ?q171d ?q171u ?_ ?_ ?_ ?_ ?_ ?_ ?_ ?_ ?_); (case q171F => k_asm); (case q171N => k_asm); (case q171P => k_extra "mine kpc_turns"); (case q171O => k_extra "mine kat_tups"); (case q171x1 => with_reducible assumption); (case q171x2 => with_reducible assumption); (case q171y1 => with_reducible assumption); (case q171y2 => with_reducible assumption); (case q171X => k_asm); (case q171T => k_asm); (case q171B => k_asm); (case q171k => first | exact rfl | assumption); (case q171d => k_extra "mine ktr_room"); (case q171u => k_extra "mine ktr_units"); (all_goals (intro kr9 x9 y9 kx9 ky9 n9 h9 tk9 F9 N9 xl9 xh9 yl9 yh9; (try k_fold))))))
  (k_with "last subscriptTail" =>
    k_extra "mine item")
  (k_with "call ref" =>
    (k_here; (with_reducible show wpAny _ _ (call (Value.ref 229) _) _ _ _); k_dflt (first | ((with_reducible show wpAny _ _ (call (Value.ref 229) [_, Value.int 0 _]) _ _ _); (first | (with_reducible refine' LType.use (d := 0) ?q173C ?q173B ?q173F ?q173X ?q173N ?q173P ?q173O ?q173x1 ?q173x2 ?q173y1 ?q173y2 ?q173hi ?q173T ?q173k ?q173d ?q173u ?_) | refine' LType.use (d := 0) ?q173C ?q173B ?q173F ?q173X ?q173N ?q173P ?q173O ?q173x1 ?q173x2 ?q173y1 ?q173y2 ?q173hi ?q173T ?q173k ?q173d ?q173u ?_); (case q173hi => first | exact rfl | fail); (case q173F => k_asm); (case q173N => k_asm); (case q173P => k_extra "mine kpc_turns"); (case q173O => k_extra "mine kat_tups"); (case q173x1 => with_reducible assumption); (case q173x2 => with_reducible assumption); (case q173y1 => with_reducible assumption); (case q173y2 => with_reducible assumption); (case q173C => with_reducible assumption); (case q173X => k_asm); (case q173T => k_asm); (case q173B => k_asm); (case q173k => first | exact rfl | assumption); (case q173d => k_extra "mine ktr_room"); (case q173u => k_extra "mine ktr_units"); k_whole; intro v9 t9 x9 y9 kx9 ky9 n9 tl9 h9 tk9 F9 N9 ap9 r9 i9 d9 z9 w9 xl9 xh9 yl9 yh9; (try k_fold)) | ((first | (with_reducible refine' LType.use ?q173C ?q173B ?q173F ?q173X ?q173N ?q173P ?q173O ?q173x1 ?q173x2 ?q173y1 ?q173y2 ?q173hi ?q173T ?q173k ?q173d ?q173u ?_) | refine' LType.use ?q173C ?q173B ?q173F ?q173X ?q173N ?q173P ?q173O ?q173x1 ?q173x2 ?q173y1 ?q173y2 ?q173hi ?q173T ?q173k ?q173d ?q173u ?_); (case q173F => k_asm); (case q173N => k_asm); (case q173P => k_extra "mine kpc_turns"); (case q173O => k_extra "mine kat_tups"); (case q173x1 => with_reducible assumption); (case q173x2 => with_reducible assumption); (case q173y1 => with_reducible assumption); (case q173y2 => with_reducible assumption); (case q173C => with_reducible assumption); (case q173hi => first | lia | rfl); (case q173X => k_asm); (case q173T => k_asm); (case q173B => k_asm); (case q173k => first | exact rfl | assumption); (case q173d => k_extra "mine ktr_room"); (case q173u => k_extra "mine ktr_units"); k_whole; intro v9 t9 x9 y9 kx9 ky9 n9 tl9 h9 tk9 F9 N9 ap9 r9 i9 d9 z9 w9 xl9 xh9 yl9 yh9; (try k_fold)))))
  (k_with "mine any" =>
    first
      | ((first | (with_reducible refine' TyIn.byte ?q174m1) | refine' TyIn.byte ?q174m1); (case q174m1 => first | k_extra "mine lsm_bools" | fail))
      | ((first | (with_reducible refine' TyIn.g ?q174m1 ?q174m2 ?q174m3 ?q174t1) | refine' TyIn.g ?q174m1 ?q174m2 ?q174m3 ?q174t1); (case q174m1 => first | k_extra "mine lsm_bools" | fail); (case q174m2 => first | k_extra "mine lsm_bools" | fail); (case q174m3 => first | k_extra "mine lsm_bools" | fail); (case q174t1 => exact RegIs.int _ _))
      | ((first | (with_reducible refine' TyIn.ref ?q174m1 ?q174t1 (TyIn.byte ?q174t2)) | refine' TyIn.ref ?q174m1 ?q174t1 (TyIn.byte ?q174t2)); (case q174m1 => first | k_extra "mine lsm_bools" | fail); (case q174t1 => exact RegIs.int _ _); (case q174t2 => first | k_extra "mine lsm_bools" | fail))
      | ((first | (with_reducible refine' TyIn.box ?q174m1 ?q174t2) | refine' TyIn.box ?q174m1 ?q174t2); (case q174m1 => first | k_extra "mine lsm_bools" | fail); (case q174t2 => k_extra "mine same"))
      | ((first | (with_reducible refine' TyIn.arr ?q174m1 ?q174t2) | refine' TyIn.arr ?q174m1 ?q174t2); (case q174m1 => first | k_extra "mine lsm_bools" | fail); (case q174t2 => k_extra "mine same"))
      | ((first | (with_reducible refine' TyIn.pair ?q174m1 ?q174m2 ?q174t1 ?q174t2) | refine' TyIn.pair ?q174m1 ?q174m2 ?q174t1 ?q174t2); (case q174m1 => first | k_extra "mine lsm_bools" | fail); (case q174m2 => first | k_extra "mine lsm_bools" | fail); (case q174t1 => k_extra "mine same"); (case q174t2 => k_extra "mine same"))
      | ((first | (with_reducible refine' TyIn.ad (n := .W) ?q174m1 ?q174m2 ?q174m3 ?q174t1 ?q174t2) | refine' TyIn.ad (n := .W) ?q174m1 ?q174m2 ?q174m3 ?q174t1 ?q174t2); (case q174m1 => first | k_extra "mine lsm_bools" | fail); (case q174m2 => first | k_extra "mine lsm_bools" | fail); (case q174m3 => first | k_extra "mine lsm_bools" | fail); (case q174t1 => exact RegIs.int _ _); (case q174t2 => k_extra "mine same"))
      | ((first | (with_reducible refine' TyIn.ad (n := .N) ?q174m1 ?q174m2 ?q174m3 ?q174t1 ?q174t2) | refine' TyIn.ad (n := .N) ?q174m1 ?q174m2 ?q174m3 ?q174t1 ?q174t2); (case q174m1 => first | k_extra "mine lsm_bools" | fail); (case q174m2 => first | k_extra "mine lsm_bools" | fail); (case q174m3 => first | k_extra "mine lsm_bools" | fail); (case q174t1 => exact RegIs.int _ _); (case q174t2 => k_extra "mine same"))
      | ((first | (with_reducible refine' TyIn.ad (n := .E) ?q174m1 ?q174m2 ?q174m3 ?q174t1 ?q174t2) | refine' TyIn.ad (n := .E) ?q174m1 ?q174m2 ?q174m3 ?q174t1 ?q174t2); (case q174m1 => first | k_extra "mine lsm_bools" | fail); (case q174m2 => first | k_extra "mine lsm_bools" | fail); (case q174m3 => first | k_extra "mine lsm_bools" | fail); (case q174t1 => exact RegIs.int _ _); (case q174t2 => k_extra "mine same")))
  (k_with "mine okay" =>
    first
      | exact trivial
      | exact ⟨_, rfl⟩
      | exact ⟨⟨_, rfl⟩, trivial⟩
      | (with_reducible assumption)
      | exact ⟨⟨_, rfl⟩, by with_reducible assumption⟩
      | exact ⟨by with_reducible assumption, by with_reducible assumption⟩
      | assumption)
  (k_with "mine meas" =>
    ((simp only [Ty.deep, Ty.size, wt]); lia))
  trivial
theorem ltype_0 : LType w p loose mean mg mb 0 := (by exact unwrap _ : Wrap _ (by
  intro dp un gd cn cs a ccd cl outer A₀ base h₀ L m s D x y kx ky n i kt all led Q E B F X N hP hO x1 x2 y1 y2 hi T hk rd ru hret
  replace N : News h₀ L s.heap ((D, listOf (List.toArray [.int x kx, .int y ky]) n) :: led) := fun p hp => N p (hP.mem p hp)
  clear hP
  k_dflt (k_extra "mine in")
  k_steps
  all_goals (first
    | (refine' fin11 hret ?zzF ?zzN ?zzP ?zze ?zzO ?zzR ?zzh1 ?zzh2 ?zzh3 ?zzh4 ?zzx1 ?zzx2 ?zzy1 ?zzy2; (case zzF => k_asm); (case zzN => k_asm); (case zzP => k_extra "mine kpc_turns"); (case zze => k_extra "mine keq_hits"); (case zzO => k_extra "mine kat_tups"); (case zzR => k_extra "mine any"); (case zzh1 => k_extra "mine okay"); (case zzh2 => k_extra "mine meas"); (case zzh3 => k_extra "mine meas"); (case zzh4 => k_extra "mine meas"); (case zzx1 => with_reducible assumption); (case zzx2 => with_reducible assumption); (case zzy1 => with_reducible assumption); (case zzy2 => with_reducible assumption))
    | (fail "fin"))))
theorem ltype_succ (d : Nat) (ih0 : LType w p loose mean mg mb 0) (ih : LType w p loose mean mg mb d) : LType w p loose mean mg mb (d + 1) := (by exact unwrap _ : Wrap _ (by
  intro dp un gd cn cs a ccd cl outer A₀ base h₀ L m s D x y kx ky n i kt all led Q E B F X N hP hO x1 x2 y1 y2 hi T hk rd ru hret
  replace N : News h₀ L s.heap ((D, listOf (List.toArray [.int x kx, .int y ky]) n) :: led) := fun p hp => N p (hP.mem p hp)
  clear hP
  k_dflt (k_extra "mine in")
  k_steps
  all_goals (first
    | (refine' fin11 hret ?zzF ?zzN ?zzP ?zze ?zzO ?zzR ?zzh1 ?zzh2 ?zzh3 ?zzh4 ?zzx1 ?zzx2 ?zzy1 ?zzy2; (case zzF => k_asm); (case zzN => k_asm); (case zzP => k_extra "mine kpc_turns"); (case zze => k_extra "mine keq_hits"); (case zzO => k_extra "mine kat_tups"); (case zzR => k_extra "mine any"); (case zzh1 => k_extra "mine okay"); (case zzh2 => k_extra "mine meas"); (case zzh3 => k_extra "mine meas"); (case zzh4 => k_extra "mine meas"); (case zzx1 => with_reducible assumption); (case zzx2 => with_reducible assumption); (case zzy1 => with_reducible assumption); (case zzy2 => with_reducible assumption))
    | (fail "fin"))))
theorem ltype (d : Nat) : LType w p loose mean mg mb d := by
  induction d with
  | zero => exact ltype_0
  | succ d ih => exact ltype_succ d ltype_0 ih
/-- a call of _law_pool -/
def LPool (w : World) (p : Program) (loose : List Str) (mean : ExcName → Option Value) (mg mb : Str → Option Value) : Prop :=
  ∀ (dp un : Nat) (gd : Option (List Code)) (cn : Str) (cs : Scope) (a : Addr) (ccd : Value) (cl : List (Str × Addr)) (outer : List Env) (A₀ : Around) (base h₀ : Heap) (L : Addr) (m : Str → Option Value) (s : Shared)
    (z : Addr) (vs : List Value) (is : List Int) (led : Led) (Q E : Value → Shared → Prop),
    Below A₀ base outer h₀ → Fr h₀ L s.heap m → (hd.heap_39 w.params).In h₀ → News h₀ L s.heap led → base.IsList z vs.toArray → IntsAre vs is →
    Top p loose mean mg mb h₀ → cs.kind = .function → dp + 8 < recursionLimit → un + 80 < cLine →
    (∀ D x' y' kx' ky' n' tl h' tk', Fr h₀ L h' m → News h₀ L h' ((D, listOf (List.toArray [.int x' kx', .int y' ky']) n') :: (tl ++ led)) → Apart ((D, listOf (List.toArray [.int x' kx', .int y' ky']) n') :: led) tl → Off D led →
      0 ≤ x' → 0 ≤ x' → 0 ≤ y' → y' < 2147483647 → Q (.ref D) { s with heap := h', toks := tk' }) →
    wpAny (model P0 w) (ktrTop dp un gd cn cs L a ccd cl outer) (call (.ref 194) [.ref z]) Q E s
section
variable {dp un : Nat} {gd : Option (List Code)} {cn : Str} {cs : Scope} {a : Addr} {ccd : Value} {cl : List (Str × Addr)} {outer : List Env} {A₀ : Around} {base h₀ : Heap} {L : Addr} {m : Str → Option Value} {s : Shared}
    {Q E : Value → Shared → Prop}
theorem LPool.use {z : Addr} {vs : List Value} {is : List Int} {led : Led} (C : LPool w p loose mean mg mb) (B : Below A₀ base outer h₀) (F : Fr h₀ L s.heap m) (X : (hd.heap_39 w.params).In h₀) (N : News h₀ L s.heap led) (hl : base.IsList z vs.toArray) (hi : IntsAre vs is)
    (T : Top p loose mean mg mb h₀) (hk : cs.kind = .function) (rd : dp + 8 < recursionLimit) (ru : un + 80 < cLine)
    (ret : ∀ D x' y' kx' ky' n' tl h' tk', Fr h₀ L h' m → News h₀ L h' ((D, listOf (List.toArray [.int x' kx', .int y' ky']) n') :: (tl ++ led)) → Apart ((D, listOf (List.toArray [.int x' kx', .int y' ky']) n') :: led) tl → Off D led →
      0 ≤ x' → 0 ≤ x' → 0 ≤ y' → y' < 2147483647 → Q (.ref D) { s with heap := h', toks := tk' }) :
    wpAny (model P0 w) (ktrTop dp un gd cn cs L a ccd cl outer) (call (.ref 194) [.ref z]) Q E s := C _ _ _ _ _ _ _ _ _ _ _ _ _ _ _ _ _ _ _ _ _ B F X N hl hi T hk rd ru ret
theorem fin12 {D : Addr} {lf lr led tl : Led} {x' y' : Int} {kx' ky' : Tok} {n' : Nat} {h' : Heap} {tk' : Nat}
    (hret : ∀ D x' y' kx' ky' n' tl h' tk', Fr h₀ L h' m → News h₀ L h' ((D, listOf (List.toArray [.int x' kx', .int y' ky']) n') :: (tl ++ led)) → Apart ((D, listOf (List.toArray [.int x' kx', .int y' ky']) n') :: led) tl → Off D led →
      0 ≤ x' → 0 ≤ x' → 0 ≤ y' → y' < 2147483647 → Q (.ref D) { s with heap := h', toks := tk' })
    (F : Fr h₀ L h' m) (N : News h₀ L h' lf) (P : Pull (D, listOf (List.toArray [.int x' kx', .int y' ky']) n') lf lr) (e : Ext led lr tl) (O : Off D lr) (x1 : 0 ≤ x') (y1 : 0 ≤ y' ∧ y' < 2147483647) : Q (.ref D) { s with heap := h', toks := tk' } := by
  have N' := P.news N
  have h := e.apart
  have q := e.eq
  subst q
  refine hret D x' y' kx' ky' n' tl h' tk' F N' (fun x hx y hy => ?_) (fun q hq => O q (List.mem_append_right _ hq)) x1 x1 y1.1 y1.2
  rcases List.mem_cons.mp hx with rfl | hx
  · exact (O y (List.mem_append_left _ hy)).symm
  · exact h x hx y hy
end
theorem great_pos (i : Int) : 0 ≤ (if -1 - i > i then -1 - i else i) := by split <;> lia
theorem great_pos0 : (0 : Int) ≤ (if (-1 : Int) - 0 > 0 then -1 - 0 else 0) := by decide
section
variable {prog : Program} {A : Around} {E : Value → Shared → Prop} {s : Shared} {h₀ : Heap} {L : Addr} {m : Str → Option Value}
theorem item_frozen {a : Addr} {vs : List Value} {value slice : Expr} {k : Int} {u : Tok} {x : Value} {Q : Value → Shared → Prop} (F : Fr h₀ L s.heap m) (hl : h₀.IsList a vs.toArray)
    (h0 : 0 ≤ k) (hfit : k < 2 ^ 63) (hx : vs[k.toNat]? = some x) (h : Q x s) (hs : subscripted slice false (.ref a) (.int k u) = operate [.ref a, .int k u] (getItem (.ref a) (.int k u)) := by with_unfolding_all rfl) :
    wpAny (model prog w) A (subscriptTail value slice (.ref a) (.int k u)) Q E s :=
  have hl : s.heap.IsList a vs.toArray := hl.at fun o e => F.keep a o e
  tail_any hl.typeIs slot_list_getitem.lookup (wpAny_getItem_list hl h0 hfit (by simpa using hx) h) hs
theorem frozen_ne {news : Led} {Q : Value → Shared → Prop} {a b : Addr} {n2 : Nat} {vs : List Value} {is : List Int} (F : Fr h₀ L s.heap m) (N : News h₀ L s.heap news) (hl : h₀.IsList a vs.toArray) (m2 : (b, listOf #[] n2) ∈ news) (R : IntsAre vs is)
    (hu : A.units + 64 < cLine) (h : Q (.bool (!is.isEmpty)) s) : wpAny (model prog w) A (compareOp .NotEq (.ref a) (.ref b)) Q E s := by
  have hn : ∀ p ∈ news, s.heap.get? p.1 = some p.2 := fun p hp => (N p hp).1
  obtain ⟨o, ho, hc, n, hd⟩ : s.heap.IsList a vs.toArray := hl.at fun o e => F.keep a o e
  have r1 : ReadsAll s.heap vs (is.map PyData.int) [] := by
    clear ho hc hd hl h
    induction R with
    | nil => exact .nil
    | cons i t _ ih => exact .cons (as := []) (.int _ _) ih
  have lay : ∀ ds : List Int, PyData.canLayAll0 (ds.map PyData.int) = true ∧ PyData.depthAll (ds.map PyData.int) = 0 := by
    intro ds
    induction ds with
    | nil => exact ⟨rfl, rfl⟩
    | cons d ds ih =>
      refine ⟨?_, ?_⟩
      · rw [List.map_cons, PyData.canLayAll0, ih.1]; rfl
      · rw [List.map_cons, PyData.depthAll, ih.2]; rfl
  have sh : SeqAt.shaped (.list (is.map PyData.int)) = true := by
    unfold SeqAt.shaped
    rw [show PyData.canLay0 (.list (is.map PyData.int)) = true by simp only [PyData.canLay0]; exact (lay is).1, Bool.true_and]
    exact decide_eq_true (by simp only [PyData.depth]; have := (lay is).2; lia)
  refine SeqAt.compareNe_shaped (da := .list (is.map PyData.int)) (db := .list []) (.list ho hc hd (by simpa using r1)) (.list (hn _ m2) rfl rfl .nil) sh (by decide) hu ?_
  have : PyData.eqv (.list (is.map PyData.int)) (.list []) = is.isEmpty := by cases is <;> rfl
  rw [this]
  exact h
end
theorem own_lines_13 : True := by
  (k_with "subscriptTail Name Constant ref int" =>
    first | k_extra "mine item" | (k_here; (with_reducible show wpAny _ _ (subscriptTail _ _ (Value.ref _) (Value.int _ _)) _ _ _); k_dflt ((first | (with_reducible refine' item_frozen ?q177F ?q177l ?q177a ?q177b ?q177c ?_) | refine' item_frozen ?q177F ?q177l ?q177a ?q177b ?q177c ?_); (case q177F => k_asm); (case q177l => with_reducible assumption); (case q177a => decide); (case q177b => decide); (case q177c => rfl); k_whole)))
  (k_with "compareOp NotEq ref ref" =>
    (k_here; k_dflt ((first | (with_reducible refine' frozen_ne ?q178F ?q178N ?q178l ?q178m2 ?q178R ?q178u ?_) | refine' frozen_ne ?q178F ?q178N ?q178l ?q178m2 ?q178R ?q178u ?_); (case q178F => k_asm); (case q178N => k_asm); (case q178l => with_reducible assumption); (case q178R => first | (with_reducible assumption) | exact IntsAre.nil | exact IntsAre.cons _ _ (by with_reducible assumption)); (case q178m2 => k_extra "mine lsm_bools"); (case q178u => k_extra "mine ktr_units"); k_whole); (try simp only [List.isEmpty_nil, List.isEmpty_cons, Bool.not_true, Bool.not_false])))
  trivial
theorem lpool : LPool w p loose mean mg mb := (by exact unwrap _ : Wrap _ (by
  intro dp un gd cn cs a ccd cl outer A₀ base h₀ L m s z vs is led Q E B F X N hl hi T hk rd ru hret
  cases hi
  all_goals (
    k_dflt (k_extra "mine in")
    k_steps)
  all_goals (first
      | (refine' fin12 hret ?zzF ?zzN ?zzP ?zze ?zzO ?zzx ?zzy; (case zzF => k_asm); (case zzN => k_asm); (case zzP => k_extra "mine kpc_turns"); (case zze => k_extra "mine keq_hits"); (case zzO => k_extra "mine kat_tups"); (case zzx => first | exact Int.le_refl _ | exact great_pos _ | (split <;> lia)); (case zzy => exact fmod_facts _ (by decide)))
      | (fail "pool"))))
/-- all regions are numbers -/
theorem dw_regs_ints : ∀ (k : Nat) (t : Ty) (met : List Ty), t.ints → ∀ r ∈ (dw k t met).1, ∃ i, r = Reg.int i := by
  have hr : ∀ t : Ty, t.ints → ∀ r ∈ t.regs, ∃ i, r = Reg.int i := by
    intro t
    induction t with
    | byte => intro _ r h; cases h
    | par => intro _ r h; cases h
    | ref x t ih =>
      intro h r hm
      rcases List.mem_cons.mp hm with rfl | hm
      · exact h.1
      · exact ih h.2 r hm
    | box t ih => exact fun h r hm => ih h r hm
    | arr t ih => exact fun h r hm => ih h r hm
    | pair t u ih ih2 =>
      intro h r hm
      rcases List.mem_append.mp hm with hm | hm
      · exact ih h.1 r hm
      · exact ih2 h.2 r hm
    | g x => intro h r hm; rw [List.mem_singleton.mp hm]; exact h
    | ad n x t ih =>
      intro h r hm
      rcases List.mem_cons.mp hm with rfl | hm
      · exact h.1
      · exact ih h.2 r hm
  intro k
  induction k with
  | zero => exact fun t met h => hr t h
  | succ k ih =>
    intro t met h
    cases t with
    | byte => intro r hm; cases hm
    | par => intro r hm; cases hm
    | ref x t => intro r hm; cases hm
    | box t => exact ih t met h
    | arr t => exact ih t met h
    | pair t u =>
      intro r hm
      rcases List.mem_append.mp hm with hm | hm
      · exact ih t met h.1 r hm
      · exact ih u _ h.2 r hm
    | g x =>
      intro r hm
      simp only [dw] at hm
      split at hm
      · cases hm
      · rw [List.mem_singleton.mp hm]; exact h
    | ad n x t =>
      intro r hm
      simp only [dw] at hm
      split at hm
      · cases hm
      · cases n with
        | W =>
          rcases List.mem_cons.mp hm with rfl | hm
          · exact h.1
          · exact hr t h.2 r hm
        | N =>
          rcases List.mem_append.mp hm with hm | hm
          · exact ih t _ h.2 r hm
          · exact ih (.g x) _ h.1 r hm
        | E =>
          rcases List.mem_append.mp hm with hm | hm
          · exact ih t _ h.2 r hm
          · exact ih (.g x) _ h.1 r hm
theorem regs_reads {h : Heap} {xs : List Value} {rs : List Reg} (k : RegsAre xs rs) : ReadsAll h xs (rs.map Reg.data) [] := by
  induction k with
  | nil => exact .nil
  | cons h _ ih => exact .cons (as := []) (reg_reads h) ih
theorem regs_lay {rs : List Reg} (h : ∀ r ∈ rs, ∃ i, r = Reg.int i) : PyData.canLayAll0 (rs.map Reg.data) = true ∧ PyData.depthAll (rs.map Reg.data) = 0 := by
  induction rs with
  | nil => exact ⟨rfl, rfl⟩
  | cons r rs ih =>
    obtain ⟨i, rfl⟩ := h _ (.head _)
    obtain ⟨h1, h2⟩ := ih fun r hr => h r (.tail _ hr)
    refine ⟨?_, ?_⟩
    · rw [List.map_cons, PyData.canLayAll0, h1]; rfl
    · rw [List.map_cons, PyData.depthAll, h2]; rfl
section
variable {prog : Program} {A : Around} {E : Value → Shared → Prop} {s : Shared} {h₀ : Heap} {L : Addr} {m : Str → Option Value}
theorem regs_ne {news : Led} {Q : Value → Shared → Prop} {a b : Addr} {n n2 : Nat} {xs ys : List Value} {rs : List Reg} (N : News h₀ L s.heap news) (m1 : (a, listOf xs.toArray n) ∈ news) (m2 : (b, listOf ys.toArray n2) ∈ news) (R : RegsAre xs rs) (S : RegsAre ys rs) (hi : ∀ r ∈ rs, ∃ i, r = Reg.int i)
    (hu : A.units + 64 < cLine) (h : Q (.bool false) s) : wpAny (model prog w) A (compareOp .NotEq (.ref a) (.ref b)) Q E s := by
  have hn : ∀ p ∈ news, s.heap.get? p.1 = some p.2 := fun p hp => (N p hp).1
  obtain ⟨h1, h2⟩ := regs_lay hi
  have sh : SeqAt.shaped (.list (rs.map Reg.data)) = true := by
    unfold SeqAt.shaped
    rw [show PyData.canLay0 (.list (rs.map Reg.data)) = true by simp only [PyData.canLay0]; exact h1, Bool.true_and]
    exact decide_eq_true (by simp only [PyData.depth]; lia)
  refine SeqAt.compareNe_shaped (da := .list (rs.map Reg.data)) (db := .list (rs.map Reg.data)) (.list (hn _ m1) rfl rfl (by simpa using regs_reads R)) (.list (hn _ m2) rfl rfl (by simpa using regs_reads S)) sh sh hu ?_
  rw [SeqAt.eqv_refl _ (by simp only [PyData.canLay0]; exact h1)]
  exact h
end
section
variable {dp un : Nat} {gd : Option (List Code)} {cn : Str} {cs : Scope} {a : Addr} {ccd : Value} {cl : List (Str × Addr)} {outer : List Env} {A₀ : Around} {base h₀ : Heap} {L : Addr} {m : Str → Option Value} {s : Shared}
    {Q E : Value → Shared → Prop}
theorem world_use {led : Led} (B : Below A₀ base outer h₀) (F : Fr h₀ L s.heap m) (X : (hd.heap_39 w.params).In h₀) (N : News h₀ L s.heap led) (T : Top p loose mean mg mb h₀) (hk : cs.kind = .function) (rd : dp + 20 < recursionLimit) (ru : un + 200 < cLine)
    (ret : ∀ r tl h' tk', Fr h₀ L h' m → News h₀ L h' (tl ++ led) → Apart led tl → WorldIn w tl r → Q r { s with heap := h', toks := tk' }) :
    wpAny (model P0 w) (ktrTop dp un gd cn cs L a ccd cl outer) (call (.ref 236) []) Q E s :=
  law_world _ _ _ _ _ _ _ _ _ _ _ _ _ _ _ _ _ _ B F X N T hk rd ru fun r tl h' tk' F' N' A' W' => ret r tl h' tk' F' N' A' (by rwa [List.append_nil] at W')
theorem LDue.use {t : Ty} {k : Nat} {v : Value} {i : Int} {kt : Tok} {news led : Led} (C : LDue w p loose mean mg mb t k) (B : Below A₀ base outer h₀) (F : Fr h₀ L s.heap m) (X : (hd.heap_39 w.params).In h₀) (N : News h₀ L s.heap led) (R : TyIn news v t) (S : ∀ p ∈ news, p ∈ led) (hi : i = (k : Int)) (ht : t.ints) (h1 : t.deep ≤ 20) (h2 : wt t ≤ 300) (h3 : t.size ≤ 300)
    (T : Top p loose mean mg mb h₀) (hk : cs.kind = .function) (rd : dp + 200 < recursionLimit) (ru : un + 2000 < cLine)
    (ret : ∀ fl tl zs n h' tk', Fr h₀ L h' m → News h₀ L h' (tl ++ led) → Apart led tl → (fl, listOf zs.toArray n) ∈ tl → RegsAre zs (dw k t []).1 → Q (.ref fl) { s with heap := h', toks := tk' }) :
    wpAny (model P0 w) (ktrTop dp un gd cn cs L a ccd cl outer) (call (.ref 253) [v, .int i kt]) Q E s :=
  C _ _ _ _ _ _ _ _ _ _ _ _ _ _ _ _ _ _ _ _ _ _ B F X N R S hi ht h1 h2 h3 T hk rd ru ret
end
theorem own_lines_14 : True := by
  (k_with "call ref" =>
    (k_here; (with_reducible show wpAny _ _ (call (Value.ref 236) _) _ _ _); k_dflt ((first | (with_reducible refine' world_use ?q179B ?q179F ?q179X ?q179N ?q179T ?q179k ?q179d ?q179u ?_) | refine' world_use ?q179B ?q179F ?q179X ?q179N ?q179T ?q179k ?q179d ?q179u ?_); (case q179F => k_asm); (case q179N => k_asm); (case q179X => k_asm); (case q179T => k_asm); (case q179B => k_asm); (case q179k => first | exact rfl | assumption); (case q179d => k_extra "mine ktr_room"); (case q179u => k_extra "mine ktr_units"); k_whole; intro r9 tl9 h9 tk9 F9 N9 ap9 w9; (try k_fold))))
  (k_with "call ref" =>
    (k_here; (with_reducible show wpAny _ _ (call (Value.ref 229) _) _ _ _); k_dflt (first | ((with_reducible show wpAny _ _ (call (Value.ref 229) [_, Value.int 2 _]) _ _ _); (first | (with_reducible refine' LType.use (ltype 2) ?q180B ?q180F ?q180X ?q180N ?q180P ?q180O ?q180x1 ?q180x2 ?q180y1 ?q180y2 ?q180hi ?q180T ?q180k ?q180d ?q180u ?_) | refine' LType.use (ltype 2) ?q180B ?q180F ?q180X ?q180N ?q180P ?q180O ?q180x1 ?q180x2 ?q180y1 ?q180y2 ?q180hi ?q180T ?q180k ?q180d ?q180u ?_); (case q180hi => exact rfl); (case q180F => k_asm); (case q180N => k_asm); (case q180P => k_extra "mine kpc_turns"); (case q180O => k_extra "mine kat_tups"); (case q180x1 => with_reducible assumption); (case q180x2 => with_reducible assumption); (case q180y1 => with_reducible assumption); (case q180y2 => with_reducible assumption); (case q180X => k_asm); (case q180T => k_asm); (case q180B => k_asm); (case q180k => first | exact rfl | assumption); (case q180d => k_extra "mine ktr_room"); (case q180u => k_extra "mine ktr_units"); k_whole; intro v9 t9 x9 y9 kx9 ky9 n9 tl9 h9 tk9 F9 N9 ap9 r9 i9 d9 z9 w9 xl9 xh9 yl9 yh9; (try k_fold)) | ((with_reducible show wpAny _ _ (call (Value.ref 229) [_, Value.int 4 _]) _ _ _); (first | (with_reducible refine' LType.use (ltype 4) ?q180B ?q180F ?q180X ?q180N ?q180P ?q180O ?q180x1 ?q180x2 ?q180y1 ?q180y2 ?q180hi ?q180T ?q180k ?q180d ?q180u ?_) | refine' LType.use (ltype 4) ?q180B ?q180F ?q180X ?q180N ?q180P ?q180O ?q180x1 ?q180x2 ?q180y1 ?q180y2 ?q180hi ?q180T ?q180k ?q180d ?q180u ?_); (case q180hi => exact rfl); (case q180F => k_asm); (case q180N => k_asm); (case q180P => k_extra "mine kpc_turns"); (case q180O => k_extra "mine kat_tups"); (case q180x1 => with_reducible assumption); (case q180x2 => with_reducible assumption); (case q180y1 => with_reducible assumption); (case q180y2 => with_reducible assumption); (case q180X => k_asm); (case q180T => k_asm); (case q180B => k_asm); (case q180k => first | exact rfl | assumption); (case q180d => k_extra "mine ktr_room"); (case q180u => k_extra "mine ktr_units"); k_whole; intro v9 t9 x9 y9 kx9 ky9 n9 tl9 h9 tk9 F9 N9 ap9 r9 i9 d9 z9 w9 xl9 xh9 yl9 yh9; (try k_fold)))))
  (k_with "call ref" =>
    (k_here; (with_reducible show wpAny _ _ (call (Value.ref 194) _) _ _ _); k_dflt ((first | (with_reducible refine' LPool.use lpool ?q181B ?q181F ?q181X ?q181N ?q181l ?q181i ?q181T ?q181k ?q181d ?q181u ?_) | refine' LPool.use lpool ?q181B ?q181F ?q181X ?q181N ?q181l ?q181i ?q181T ?q181k ?q181d ?q181u ?_); (case q181F => k_asm); (case q181N => k_asm); (case q181X => k_asm); (case q181T => k_asm); (case q181B => k_asm); (case q181l => with_reducible assumption); (case q181i => with_reducible assumption); (case q181k => first | exact rfl | assumption); (case q181d => k_extra "mine ktr_room"); (case q181u => k_extra "mine ktr_units"); k_whole; intro D9 x9 y9 kx9 ky9 n9 tl9 h9 tk9 F9 N9 ap9 of9 xl9 xh9 yl9 yh9; (try k_fold))))
  trivial
theorem law_shut {P : Prop} {h₀ h : Heap} {L : Addr} {all rest : Led} {D : Addr} {x y : Int} {kx ky : Tok} {n : Nat} {v wv : Value} {t : Ty} (N : News h₀ L h all) (Pl : Pulls [(61, tabObj #[]), (82, tabObj #[]), (D, listOf (List.toArray [.int x kx, .int y ky]) n)] all rest) (O : Offs [(61, tabObj #[]), (82, tabObj #[]), (D, listOf (List.toArray [.int x kx, .int y ky]) n)] rest) (e1 : D ≠ 61) (e2 : D ≠ 82)
    (R : TyIn rest v t) (W : WorldIn w rest wv) (hi : t.ints) (h1 : t.deep ≤ 7) (h2 : t.size ≤ 20) (h3 : wt t ≤ 20)
    (next : ∀ (sl : Led) (o1 o2 : Obj) (t : Ty), News h₀ L h ((61, o1) :: (82, o2) :: (D, listOf (List.toArray [.int x kx, .int y ky]) n) :: sl) → D ≠ 61 → D ≠ 82 → Off 61 sl → Off 82 sl → Off D sl → TabN sl o1 → TabF sl o2 → TyIn sl v t → WorldIn w sl wv → t.ints → t.deep ≤ 7 → t.size ≤ 20 → wt t ≤ 20 → P) : P :=
  next rest _ _ t (fun p hp => N p (Pl.mem p hp)) e1 e2 O.1 O.2.1 O.2.2.1 (.inl rfl) (.inl rfl) R W hi h1 h2 h3
theorem regs_ne_g {prog : Program} {A : Around} {E : Value → Shared → Prop} {s : Shared} {h₀ : Heap} {L : Addr} {news : Led} {Q : Value → Shared → Prop} {a b : Addr} {n n2 k : Nat} {t : Ty} {xs ys : List Value} (N : News h₀ L s.heap news) (m1 : (a, listOf xs.toArray n) ∈ news) (m2 : (b, listOf ys.toArray n2) ∈ news) (R : Grown [] xs (dw k t []).1) (S : RegsAre ys (dw k t []).1) (hi : t.ints)
    (hu : A.units + 64 < cLine) (h : Q (.bool false) s) : wpAny (model prog w) A (compareOp .NotEq (.ref a) (.ref b)) Q E s :=
  regs_ne N m1 m2 (Grown.regs R) S (dw_regs_ints k t [] hi) hu h
section
variable {dp un : Nat} {gd : Option (List Code)} {cn : Str} {cs : Scope} {a : Addr} {ccd : Value} {cl : List (Str × Addr)} {outer : List Env} {A₀ : Around} {base h₀ : Heap} {L : Addr} {m : Str → Option Value} {s : Shared}
    {Q E : Value → Shared → Prop}
theorem drop_use {t : Ty} {v wv : Value} {i : Int} {kt : Tok} {fl : Addr} {n : Nat} {all led sl : Led} {o1 o2 : Obj}
    (B : Below A₀ base outer h₀) (F : Fr h₀ L s.heap m) (X : (hd.heap_39 w.params).In h₀) (N : News h₀ L s.heap all) (P : Pulls [(61, o1), (82, o2), (fl, listOf (List.toArray []) n)] all led) (O : Offs [(61, o1), (82, o2), (fl, listOf (List.toArray []) n)] led) (e2 : fl ≠ 61) (e3 : fl ≠ 82) (S : ∀ p ∈ sl, p ∈ led) (D1 : TabN sl o1) (D2 : TabF sl o2)
    (hi : 0 ≤ i) (ht : t.ints) (R : TyIn sl v t) (W : WorldIn w sl wv) (T : Top p loose mean mg mb h₀) (hk : cs.kind = .function) (rd : dp + (10 * t.deep + 62) < recursionLimit) (ru : un + (100 * t.deep + 820) < cLine) (z1 : t.size ≤ 20)
    (ret : ∀ zs tl o1' o2' n h' tk', Fr h₀ L h' m → News h₀ L h' ((61, o1') :: (82, o2') :: (fl, listOf zs.toArray n) :: (tl ++ led)) →
      Apart ((61, o1') :: (82, o2') :: (fl, listOf zs.toArray n) :: led) tl → TabN (tl ++ sl) o1' → TabF (tl ++ sl) o2' → Grown [] zs (dw i.toNat t []).1 → Q .none { s with heap := h', toks := tk' }) :
    wpAny (model P0 w) (ktrTop dp un gd cn cs L a ccd cl outer) (call (.ref 106) [v, wv, .ref fl, .int i kt]) Q E s :=
  DropR.use (drop_regions _ _) B F X N P O e2 e3 S D1 D2 (Int.toNat_of_nonneg hi).symm ht R W T hk rd ru (by lia) (by rw [List.length_nil]; lia) ret
theorem due_call {t : Ty} {v : Value} {i : Int} {kt : Tok} {news led : Led} (B : Below A₀ base outer h₀) (F : Fr h₀ L s.heap m) (X : (hd.heap_39 w.params).In h₀) (N : News h₀ L s.heap led) (R : TyIn news v t) (S : ∀ p ∈ news, p ∈ led) (hi : 0 ≤ i) (ht : t.ints) (h1 : t.deep ≤ 20) (h2 : wt t ≤ 300) (h3 : t.size ≤ 300)
    (T : Top p loose mean mg mb h₀) (hk : cs.kind = .function) (rd : dp + 200 < recursionLimit) (ru : un + 2000 < cLine)
    (ret : ∀ fl tl zs n h' tk', Fr h₀ L h' m → News h₀ L h' (tl ++ led) → Apart led tl → (fl, listOf zs.toArray n) ∈ tl → RegsAre zs (dw i.toNat t []).1 → Q (.ref fl) { s with heap := h', toks := tk' }) :
    wpAny (model P0 w) (ktrTop dp un gd cn cs L a ccd cl outer) (call (.ref 253) [v, .int i kt]) Q E s :=
  LDue.use (ldue _ _) B F X N R S (Int.toNat_of_nonneg hi).symm ht h1 h2 h3 T hk rd ru ret
end
theorem own_lines_15 : True := by
  (k_with "call ref" =>
    (k_here; (with_reducible show wpAny _ _ (call (Value.ref 106) _) _ _ _); k_dflt ((first | (with_reducible refine' drop_use ?q182B ?q182F ?q182X ?q182N ?q182P ?q182O ?q182e2 ?q182e3 ?q182S ?q182D1 ?q182D2 ?q182hi ?q182ht ?q182R ?q182W ?q182T ?q182k ?q182d ?q182u ?q182z1 ?_) | refine' drop_use ?q182B ?q182F ?q182X ?q182N ?q182P ?q182O ?q182e2 ?q182e3 ?q182S ?q182D1 ?q182D2 ?q182hi ?q182ht ?q182R ?q182W ?q182T ?q182k ?q182d ?q182u ?q182z1 ?_); (case q182F => k_asm); (case q182N => k_asm); (case q182P => k_extra "mine kaf_pre"); (case q182O => k_extra "mine kaf_suf"); (case q182e2 => k_extra "mine tlg_ne"); (case q182e3 => k_extra "mine tlg_ne"); (case q182D2 => with_reducible assumption); (case q182D1 => k_extra "mine tabN"); (case q182S => k_extra "mine kfm_turns"); (case q182R => k_extra "mine same"); (case q182W => k_extra "mine wld"); (case q182hi => first | lia | decide); (case q182ht => with_reducible assumption); (case q182X => k_asm); (case q182T => k_asm); (case q182B => k_asm); (case q182k => first | exact rfl | assumption); (case q182d => k_extra "mine ktr_room"); (case q182u => k_extra "mine ktr_units"); (case q182z1 => lia); k_whole; intro zs9 tl9 o8 o9 n9 h9 tk9 F9 N9 ap9 D8 D9 g9; (try k_fold))))
  (k_with "call ref" =>
    (k_here; (with_reducible show wpAny _ _ (call (Value.ref 253) _) _ _ _); k_dflt ((first | (with_reducible refine' due_call ?q183B ?q183F ?q183X ?q183N ?q183R ?q183S ?q183hi ?q183ht ?q183h1 ?q183h2 ?q183h3 ?q183T ?q183k ?q183d ?q183u ?_) | refine' due_call ?q183B ?q183F ?q183X ?q183N ?q183R ?q183S ?q183hi ?q183ht ?q183h1 ?q183h2 ?q183h3 ?q183T ?q183k ?q183d ?q183u ?_); (case q183F => k_asm); (case q183N => k_asm); (case q183R => with_reducible assumption); (case q183S => k_extra "mine kfm_turns"); (case q183hi => first | lia | decide); (case q183ht => with_reducible assumption); (case q183h1 => lia); (case q183h2 => lia); (case q183h3 => lia); (case q183X => k_asm); (case q183T => k_asm); (case q183B => k_asm); (case q183k => first | exact rfl | assumption); (case q183d => k_extra "mine ktr_room"); (case q183u => k_extra "mine ktr_units"); k_whole; intro fl9 tl9 zs9 n9 h9 tk9 F9 N9 ap9 m9 g9; (try k_fold))))
  (k_with "compareOp NotEq ref ref" =>
    (k_here; k_dflt ((first | (with_reducible refine' regs_ne_g ?q184N ?q184m1 ?q184m2 ?q184R ?q184S ?q184i ?q184u ?_) | refine' regs_ne_g ?q184N ?q184m1 ?q184m2 ?q184R ?q184S ?q184i ?q184u ?_); (case q184N => k_asm); (case q184m1 => k_extra "mine lsm_bools"); (case q184m2 => k_extra "mine lsm_bools"); (case q184R => assumption); (case q184S => assumption); (case q184i => with_reducible assumption); (case q184u => k_extra "mine ktr_units"); k_whole)))
  trivial
theorem grown_two {h₀ h : Heap} {L : Addr} {news l1 l2 : Led} {o1 o2 : Obj} (N : News h₀ L h news) (m1 : (61, o1) ∈ news) (m2 : (82, o2) ∈ news) (D1 : TabN l1 o1) (D2 : TabF l2 o2) : GrownAll [(84, 82), (65, 61)] h := by
  refine ⟨?_, ?_, trivial⟩
  · rcases D2 with rfl | ⟨c', oc, vs, tk, rfl, _⟩
    · exact ⟨_, (N _ m2).1⟩
    · exact ⟨_, (N _ m2).1⟩
  · rcases D1 with rfl | ⟨c', oc, vs, tk, rfl, _⟩
    · exact ⟨_, (N _ m1).1⟩
    · exact ⟨_, (N _ m1).1⟩
theorem own_lines_16 : True := by
  (k_with "GrownAll" =>
    (k_dflt ((first | (with_reducible refine' grown_two ?q185N ?q185m1 ?q185m2 ?q185D1 ?q185D2) | refine' grown_two ?q185N ?q185m1 ?q185m2 ?q185D1 ?q185D2); (case q185N => k_asm); (case q185m1 => k_extra "mine lsm_bools"); (case q185m2 => k_extra "mine lsm_bools"); (case q185D1 => with_reducible assumption); (case q185D2 => with_reducible assumption))))
  trivial
theorem post_ok (is : List Int) : PySem.Challenge.rw_up0059_01.row.claim.post [ofPy (PyData.list (List.map PyData.int is))] (.bool true) [ofPy (PyData.list (List.map PyData.int is))] = true := by
  wrow_post
theorem own_lines_17 : True := by
  (k_with "mine wrow_close" =>
    (w_end; (show GoodW _ _ _ _ _ (.ok (.ret (.bool _))) _); (first | (with_reducible refine' goodW_bool ?q186F ?q186g (raisesW_false ?q186hn) ?q186hp) | refine' goodW_bool ?q186F ?q186g (raisesW_false ?q186hn) ?q186hp); (case q186F => k_asm); (case q186g => (with_reducible assumption)); (case q186hn => (exact allW_false_nil)); (case q186hp => exact post_ok _)))
  (k_with "exec For Name List cons nil" =>
    (refine stop_i ?_))
  trivial
theorem law_try : PySem.Challenge.rw_up0059_01.Holds := Mine.hd (by
  k_go0
  (all_goals (try k_fold))
  k_steps
  all_goals (
    unfold Stop
    refine' law_shut ?zzN ?zzP ?zzO ?zze1 ?zze2 ?zzR ?zzW ?zzi ?zzh1 ?zzh2 ?zzh3 ?_
    case zzN => k_asm
    case zzP => k_extra "mine kaf_pre"
    case zzO => k_extra "mine kaf_suf"
    case zze1 => k_extra "mine tlg_ne"
    case zze2 => k_extra "mine tlg_ne"
    case zzR => refine' TyIn.pair ?zzm1 ?zzm2 (TyIn.ad (n := .W) ?zzm3 ?zzm4 ?zzm5 (RegIs.int _ _) (TyIn.byte ?zzm6)) ?zzt2; (case zzm1 => k_extra "mine lsm_bools"); (case zzm2 => k_extra "mine lsm_bools"); (case zzm3 => k_extra "mine lsm_bools"); (case zzm4 => k_extra "mine lsm_bools"); (case zzm5 => k_extra "mine lsm_bools"); (case zzm6 => k_extra "mine lsm_bools"); (case zzt2 => k_extra "mine same")
    case zzW => k_extra "mine wld"
    case zzi => exact ⟨⟨⟨_, rfl⟩, trivial⟩, by with_reducible assumption⟩
    case zzh1 => ((simp only [Ty.deep, Ty.size, wt]); lia)
    case zzh2 => ((simp only [Ty.deep, Ty.size, wt]); lia)
    case zzh3 => ((simp only [Ty.deep, Ty.size, wt]); lia)
    intro sl o1 o2 t N9 e1 e2 of1 of2 of3 tn9 tf9 r9 w9 i9 d9 z9 y9
    k_extra "mine for")
  k_steps
  all_goals (fail "x"))
end
end Mine
theorem PySem.Challenge.cw_up0059_01_holds : PySem.Challenge.rw_up0059_01.Holds :=
  Mine.law_try
