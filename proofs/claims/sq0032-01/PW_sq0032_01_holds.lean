import PyProof.Rows.All
import Wide.All
import OpenK.AllK
import Wide.FinOn
import Lean
import PySem.Challenge.RW_sq0032_01
set_option Elab.async false
set_option maxRecDepth 100000
set_option maxHeartbeats 8000000
set_option compiler.extract_closed false
set_option linter.all false
section
open PySem PySem.W PyProof.Rows
name_quick tw7232422423428716515 for PySem.W.S.findZ by PySem.W.S.findZ_eq
name_quick tw6004533443673955352 for PySem.W.S.findZ by PySem.W.S.findZ_eq
name_quick tw9011979029575296479 for PySem.W.S.findZ by PySem.W.S.findZ_eq
name_quick tw7250012664060256230 for PySem.W.S.findZ by PySem.W.S.findZ_eq
name_quick tw43969757491396457 for PySem.W.S.findZ by PySem.W.S.findZ_eq
name_quick tw1291980286583624508 for PySem.W.S.findZ by PySem.W.S.findZ_eq
name_quick tw15059494819884010274 for PySem.W.S.findZ by PySem.W.S.findZ_eq
name_quick tw1258717718454355964 for PySem.W.S.findZ by PySem.W.S.findZ_eq
name_quick tw15560500314895047343 for PySem.W.S.findZ by PySem.W.S.findZ_eq
name_quick tw16145008321745377990 for PySem.W.S.findZ by PySem.W.S.findZ_eq
name_quick tw282004115355043989 for PySem.W.S.findZ by PySem.W.S.findZ_eq
name_quick tw13640514254501968386 for PySem.W.S.findZ by PySem.W.S.findZ_eq
name_quick tw3856783459128436802 for PySem.W.S.findZ by PySem.W.S.findZ_eq
name_quick tw17804436615005485693 for PySem.W.S.findZ by PySem.W.S.findZ_eq
name_quick tw3093977132361051618 for PySem.W.S.findZ by PySem.W.S.findZ_eq
name_quick tw7275051467321613617 for PySem.W.S.findZ by PySem.W.S.findZ_eq
name_quick tw17846936440860909165 for PySem.W.S.findZ by PySem.W.S.findZ_eq
name_quick tw12233582284571471492 for PySem.W.S.findZ by PySem.W.S.findZ_eq
name_quick tw17730448691065144110 for PySem.W.S.findZ by PySem.W.S.findZ_eq
name_quick tw3619232141914619222 for PySem.W.S.findZ by PySem.W.S.findZ_eq
name_quick tw1829445100760108279 for PySem.W.S.findZ by PySem.W.S.findZ_eq
name_quick tw3766158894648301139 for PySem.W.S.findZ by PySem.W.S.findZ_eq
name_quick tw1355338860687761863 for PySem.W.S.findZ by PySem.W.S.findZ_eq
name_quick tw682011567655089306 for PySem.W.S.findZ by PySem.W.S.findZ_eq
name_quick tw11306939235166856333 for PySem.W.S.findZ by PySem.W.S.findZ_eq
name_quick tw14020655429330734638 for PySem.W.S.findZ by PySem.W.S.findZ_eq
name_quick tw4011157648589011858 for PySem.W.S.findZ by PySem.W.S.findZ_eq
name_quick tw13180171748994924942 for PySem.W.S.findZ by PySem.W.S.findZ_eq
name_quick tw12268644228514654432 for PySem.W.S.findZ by PySem.W.S.findZ_eq
name_quick tw460243522976405022 for PySem.W.S.findZ by PySem.W.S.findZ_eq
name_quick tw8147914164515108645 for PySem.W.S.findZ by PySem.W.S.findZ_eq
name_quick tw4407734736301137906 for PySem.W.S.findZ by PySem.W.S.findZ_eq
name_quick tw5978237884098788730 for PySem.W.S.findZ by PySem.W.S.findZ_eq
name_quick tw704327219915372674 for PySem.W.S.findZ by PySem.W.S.findZ_eq
name_quick tw18350330562280901221 for PySem.W.S.findZ by PySem.W.S.findZ_eq
name_quick tw10010936943081839664 for PySem.W.S.findZ by PySem.W.S.findZ_eq
name_quick tw14896874001708588922 for PySem.W.S.findZ by PySem.W.S.findZ_eq
name_quick tw151948405760981731 for PySem.W.S.findZ by PySem.W.S.findZ_eq
name_quick tw9759809726879904816 for PySem.W.S.findZ by PySem.W.S.findZ_eq
name_quick tw14352324783045137146 for PySem.W.S.findZ by PySem.W.S.findZ_eq
name_quick tw14311459727803291754 for PySem.W.S.findZ by PySem.W.S.findZ_eq
name_quick tw13607416678640721797 for PySem.W.S.findZ by PySem.W.S.findZ_eq
name_quick tw11277716924127702174 for PySem.W.S.findZ by PySem.W.S.findZ_eq
name_quick tw13215998728584607739 for PySem.W.S.findZ by PySem.W.S.findZ_eq
name_quick tw16741492637210864865 for PySem.W.S.findZ by PySem.W.S.findZ_eq
name_quick tw11130039905162102590 for PySem.W.S.findZ by PySem.W.S.findZ_eq
name_quick tw10073347824450446311 for PySem.W.S.findZ by PySem.W.S.findZ_eq
name_quick tw15168306246750427876 for PySem.W.S.findZ by PySem.W.S.findZ_eq
name_quick tw1617757218408452269 for PySem.W.S.findZ by PySem.W.S.findZ_eq
name_quick tw951843321253372498 for PySem.W.S.findZ by PySem.W.S.findZ_eq
name_quick tw14386061602966655976 for PySem.W.S.findZ by PySem.W.S.findZ_eq
name_quick tw3891137856419664920 for PySem.W.S.findZ by PySem.W.S.findZ_eq
name_quick tw13789449189825218787 for PySem.W.S.findZ by PySem.W.S.findZ_eq
name_quick tw16643379632663270332 for PySem.W.S.findZ by PySem.W.S.findZ_eq
name_quick tw16966814322356759819 for PySem.W.S.findZ by PySem.W.S.findZ_eq
name_quick tw4658958612460137192 for PySem.W.S.findZ by PySem.W.S.findZ_eq
name_quick tw8708707556590381134 for PySem.W.S.findZ by PySem.W.S.findZ_eq
name_quick tw17964007177503468958 for PySem.W.S.findZ by PySem.W.S.findZ_eq
name_quick tw17888162413812561239 for PySem.W.S.findZ by PySem.W.S.findZ_eq
name_quick tw14108194823987119177 for PySem.W.S.findZ by PySem.W.S.findZ_eq
name_quick tw3577408171920636059 for PySem.W.S.findZ by PySem.W.S.findZ_eq
name_quick tw912392155897948271 for PySem.W.S.findZ by PySem.W.S.findZ_eq
name_quick tw17164873540382356111 for PySem.W.S.findZ by PySem.W.S.findZ_eq
name_quick tw13191295725559111208 for PySem.W.S.findZ by PySem.W.S.findZ_eq
name_quick tw18260038339965228139 for PySem.W.S.findZ by PySem.W.S.findZ_eq
name_quick tw9979284746773624096 for PySem.W.S.findZ by PySem.W.S.findZ_eq
name_quick tw14126943448341045398 for PySem.W.S.findZ by PySem.W.S.findZ_eq
name_quick tw6589095468515690095 for PySem.W.S.findZ by PySem.W.S.findZ_eq
name_quick tw11270796479367742343 for PySem.W.S.findZ by PySem.W.S.findZ_eq
name_quick tw3820604794100220378 for PySem.W.S.findZ by PySem.W.S.findZ_eq
name_quick tw10948738476641704880 for PySem.W.S.findZ by PySem.W.S.findZ_eq
name_quick tw17975652961387846372 for PySem.W.S.findZ by PySem.W.S.findZ_eq
name_quick tw15278061642289888581 for PySem.W.S.findZ by PySem.W.S.findZ_eq
name_quick tw3698559305507148144 for PySem.W.S.findZ by PySem.W.S.findZ_eq
name_quick tw17274371674624000324 for PySem.W.S.findZ by PySem.W.S.findZ_eq
name_quick tw5357591511691535388 for PySem.W.S.findZ by PySem.W.S.findZ_eq
name_quick tw4527066259768149269 for PySem.W.S.findZ by PySem.W.S.findZ_eq
name_quick tw14333388528381170442 for PySem.W.S.findZ by PySem.W.S.findZ_eq
name_quick tw11853533878840232495 for PySem.W.S.findZ by PySem.W.S.findZ_eq
name_quick tw12365861533281473505 for PySem.W.S.findZ by PySem.W.S.findZ_eq
name_quick tw3362959441861295915 for PySem.W.S.findZ by PySem.W.S.findZ_eq
name_quick tw8579058602437062094 for PySem.W.S.findZ by PySem.W.S.findZ_eq
name_quick tw17111948838632640456 for PySem.W.S.findZ by PySem.W.S.findZ_eq
name_quick tw4319705520415482375 for PySem.W.S.findZ by PySem.W.S.findZ_eq
name_quick tw16817318245366136608 for PySem.W.S.findZ by PySem.W.S.findZ_eq
name_quick tw16548257151911338427 for PySem.W.S.findZ by PySem.W.S.findZ_eq
name_quick tw17552769576498331613 for PySem.W.S.findZ by PySem.W.S.findZ_eq
name_quick tw13480552361792772618 for PySem.W.S.findZ by PySem.W.S.findZ_eq
name_quick tw6711915476519705758 for PySem.W.S.findZ by PySem.W.S.findZ_eq
name_quick tw4978915544186085027 for PySem.W.S.findZ by PySem.W.S.findZ_eq
name_quick tw10007627690174824804 for PySem.W.S.findZ by PySem.W.S.findZ_eq
name_quick tw16531745337717519161 for PySem.W.S.findZ by PySem.W.S.findZ_eq
name_quick tw14884601019740666482 for PySem.W.S.findZ by PySem.W.S.findZ_eq
name_quick tw7496433998918960881 for PySem.W.S.findZ by PySem.W.S.findZ_eq
name_quick tw17069979004554194336 for PySem.W.S.findZ by PySem.W.S.findZ_eq
name_quick tw13912434898499826684 for PySem.W.S.findZ by PySem.W.S.findZ_eq
name_quick tw14834023430324568649 for PySem.W.S.findZ by PySem.W.S.findZ_eq
name_quick tw1503297043503765363 for PySem.W.S.findZ by PySem.W.S.findZ_eq
name_quick tw13016732220969518872 for PySem.W.S.findZ by PySem.W.S.findZ_eq
name_quick tw5076957145309523181 for PySem.W.S.findZ by PySem.W.S.findZ_eq
name_quick tw15263041282635125899 for PySem.W.S.findZ by PySem.W.S.findZ_eq
name_quick tw12659028871203227004 for PySem.W.S.findZ by PySem.W.S.findZ_eq
name_quick tw9931943479562821362 for PySem.W.S.findZ by PySem.W.S.findZ_eq
name_quick tw2905824091091238844 for PySem.W.S.findZ by PySem.W.S.findZ_eq
name_quick tw136631920214876835 for PySem.W.S.findZ by PySem.W.S.findZ_eq
name_quick tw5721027456603625697 for PySem.W.S.findZ by PySem.W.S.findZ_eq
name_quick tw12290603225136948437 for PySem.W.S.findZ by PySem.W.S.findZ_eq
name_quick tw1537898542681612871 for PySem.W.S.findZ by PySem.W.S.findZ_eq
name_quick tw14714103240675001986 for PySem.W.S.findZ by PySem.W.S.findZ_eq
name_quick tw2422670821966735624 for PySem.W.S.findZ by PySem.W.S.findZ_eq
name_quick tw8860024209350480642 for PySem.W.S.findZ by PySem.W.S.findZ_eq
name_quick tw8719427161674164953 for PySem.W.S.findZ by PySem.W.S.findZ_eq
name_quick tw9594665118957945026 for PySem.W.S.findZ by PySem.W.S.findZ_eq
name_quick tw3778451253796500701 for PySem.W.S.findZ by PySem.W.S.findZ_eq
name_quick tw17476080006546285661 for PySem.W.S.findZ by PySem.W.S.findZ_eq
name_quick tw11333186260410459676 for PySem.W.S.findZ by PySem.W.S.findZ_eq
name_quick tw15930095272721905579 for PySem.W.S.findZ by PySem.W.S.findZ_eq
name_quick tw3282434896037501709 for PySem.W.S.findZ by PySem.W.S.findZ_eq
name_quick tw2627984346626558326 for PySem.W.S.findZ by PySem.W.S.findZ_eq
name_quick tw16752143609539240740 for PySem.W.S.findZ by PySem.W.S.findZ_eq
name_quick tw183835017167291270 for PySem.W.S.findZ by PySem.W.S.findZ_eq
name_quick tw7198390536060210744 for PySem.W.S.findZ by PySem.W.S.findZ_eq
name_quick tw2460228577881660442 for PySem.W.S.findZ by PySem.W.S.findZ_eq
name_quick tw5189142188285759775 for PySem.W.S.findZ by PySem.W.S.findZ_eq
name_quick tw16350708796919097252 for PySem.W.S.findZ by PySem.W.S.findZ_eq
name_quick tw2283851925072248500 for PySem.W.S.findZ by PySem.W.S.findZ_eq
name_quick tw17954471519018878134 for PySem.W.S.findZ by PySem.W.S.findZ_eq
name_quick tw4302124980754421698 for PySem.W.S.findZ by PySem.W.S.findZ_eq
name_quick tw11588390666370768167 for PySem.W.S.findZ by PySem.W.S.findZ_eq
name_quick tw9458956999447867950 for PySem.W.S.findZ by PySem.W.S.findZ_eq
name_quick tw5529568453561195837 for PySem.W.S.findZ by PySem.W.S.findZ_eq
name_quick tw667198328695590252 for PySem.W.S.findZ by PySem.W.S.findZ_eq
name_quick tw3916196269025109296 for PySem.W.S.findZ by PySem.W.S.findZ_eq
name_quick tw1574873078441994576 for PySem.W.S.findZ by PySem.W.S.findZ_eq
name_quick tw17000155066101142889 for PySem.W.S.findZ by PySem.W.S.findZ_eq
name_quick tw2334299552400917057 for PySem.W.S.findZ by PySem.W.S.findZ_eq
name_quick tw9518460778924858168 for PySem.W.S.findZ by PySem.W.S.findZ_eq
name_quick tw15490439104401381959 for PySem.W.S.findZ by PySem.W.S.findZ_eq
name_quick tw16643706677886111943 for PySem.W.S.findZ by PySem.W.S.findZ_eq
name_quick tw16374537267813192141 for PySem.W.S.findZ by PySem.W.S.findZ_eq
name_quick tw10887116778572429059 for PySem.W.S.findZ by PySem.W.S.findZ_eq
name_quick tw10323183001455561277 for PySem.W.S.findZ by PySem.W.S.findZ_eq
name_quick tw3424931102881643321 for PySem.W.S.findZ by PySem.W.S.findZ_eq
name_quick tw10346894026039390216 for PySem.W.S.findZ by PySem.W.S.findZ_eq
name_quick tw5349121933718820234 for PySem.W.S.findZ by PySem.W.S.findZ_eq
name_quick tw9136488742655976645 for PySem.W.S.findZ by PySem.W.S.findZ_eq
name_quick tw15980859228951719591 for PySem.W.S.findZ by PySem.W.S.findZ_eq
name_quick tw15919542637913265678 for PySem.W.S.findZ by PySem.W.S.findZ_eq
name_quick tw17532440430192770315 for PySem.W.S.findZ by PySem.W.S.findZ_eq
name_quick tw2670528217467546775 for PySem.W.S.findZ by PySem.W.S.findZ_eq
name_quick tw11964429278604863157 for PySem.W.S.findZ by PySem.W.S.findZ_eq
name_quick tw2611137233208623240 for PySem.W.S.findZ by PySem.W.S.findZ_eq
name_quick tw8206430501311747189 for PySem.W.S.findZ by PySem.W.S.findZ_eq
name_quick tw3105397867545767578 for PySem.W.S.findZ by PySem.W.S.findZ_eq
name_quick tw1402947280878808549 for PySem.W.S.findZ by PySem.W.S.findZ_eq
name_quick tw16296994325663420285 for PySem.W.S.findZ by PySem.W.S.findZ_eq
name_quick tw1258299570235058372 for PySem.W.S.findZ by PySem.W.S.findZ_eq
name_quick tw17988542015724977305 for PySem.W.S.findZ by PySem.W.S.findZ_eq
name_quick tw16846860572762119324 for PySem.W.S.findZ by PySem.W.S.findZ_eq
name_quick tw3972328310683599613 for PySem.W.S.findZ by PySem.W.S.findZ_eq
name_quick tw5396446701170858492 for PySem.W.S.findZ by PySem.W.S.findZ_eq
name_quick tw6679490504615227074 for PySem.W.S.findZ by PySem.W.S.findZ_eq
name_quick tw9763268239775435451 for PySem.W.S.findZ by PySem.W.S.findZ_eq
name_quick tw8273978098576519718 for PySem.W.S.findZ by PySem.W.S.findZ_eq
name_quick tw14168537005229113720 for PySem.W.S.findZ by PySem.W.S.findZ_eq
name_quick tw4388067698380316889 for PySem.W.S.findZ by PySem.W.S.findZ_eq
name_quick tw8693227569615203950 for PySem.W.S.findZ by PySem.W.S.findZ_eq
name_quick tw3442601649717412197 for PySem.W.S.findZ by PySem.W.S.findZ_eq
name_quick tw14821650378409806113 for PySem.W.S.findZ by PySem.W.S.findZ_eq
name_quick tw8753696776887207221 for PySem.W.S.findZ by PySem.W.S.findZ_eq
name_quick tw11462045893675790159 for PySem.W.S.findZ by PySem.W.S.findZ_eq
name_quick tw6380047634161181297 for PySem.W.S.findZ by PySem.W.S.findZ_eq
name_quick tw14073706353221006472 for PySem.W.S.findZ by PySem.W.S.findZ_eq
name_quick tw13678640442995254988 for PySem.W.S.findZ by PySem.W.S.findZ_eq
name_quick tw11543547407058413889 for PySem.W.S.findZ by PySem.W.S.findZ_eq
name_quick tw1702518465993881591 for PySem.W.S.findZ by PySem.W.S.findZ_eq
name_quick tw8075568018651887793 for PySem.W.S.findZ by PySem.W.S.findZ_eq
name_quick tw14433975572909055671 for PySem.W.S.findZ by PySem.W.S.findZ_eq
name_quick tw5268983451555188008 for PySem.W.S.findZ by PySem.W.S.findZ_eq
name_quick tw3094477031063562474 for PySem.W.S.findZ by PySem.W.S.findZ_eq
name_quick tw17100903815162463580 for PySem.W.S.findZ by PySem.W.S.findZ_eq
name_quick tw4090926877573551719 for PySem.W.S.findZ by PySem.W.S.findZ_eq
name_quick tw13335737130258781183 for PySem.W.S.findZ by PySem.W.S.findZ_eq
name_quick tw12813236842856870187 for PySem.W.S.findZ by PySem.W.S.findZ_eq
name_quick tw9151444980202551346 for PySem.W.S.findZ by PySem.W.S.findZ_eq
name_quick tw16018607276475445134 for PySem.W.S.findZ by PySem.W.S.findZ_eq
name_quick tw3152983702415266003 for PySem.W.S.findZ by PySem.W.S.findZ_eq
name_quick tw13254397897704925713 for PySem.W.S.findZ by PySem.W.S.findZ_eq
name_quick tw7269565832213808900 for PySem.W.S.findZ by PySem.W.S.findZ_eq
name_quick tw11263141906512457761 for PySem.W.S.findZ by PySem.W.S.findZ_eq
name_quick tw11625766737575182897 for PySem.W.S.findZ by PySem.W.S.findZ_eq
name_quick tw6550987210724342151 for PySem.W.S.findZ by PySem.W.S.findZ_eq
name_quick tw11186114360453789277 for PySem.W.S.findZ by PySem.W.S.findZ_eq
name_quick tw11788150170368784547 for PySem.W.S.findZ by PySem.W.S.findZ_eq
name_quick tw12945451867199242903 for PySem.W.S.findZ by PySem.W.S.findZ_eq
name_quick tw7401281599722004195 for PySem.W.S.findZ by PySem.W.S.findZ_eq
name_quick tw11310463157757771331 for PySem.W.S.findZ by PySem.W.S.findZ_eq
name_quick tw5770868932273138760 for PySem.W.S.findZ by PySem.W.S.findZ_eq
name_quick tw1962928258387122110 for PySem.W.S.findZ by PySem.W.S.findZ_eq
name_quick tw16241802466949684156 for PySem.W.S.findZ by PySem.W.S.findZ_eq
name_quick tw9315938663221665524 for PySem.W.S.findZ by PySem.W.S.findZ_eq
name_quick tw10996506086634736982 for PySem.W.S.findZ by PySem.W.S.findZ_eq
name_quick tw1333364371103165705 for PySem.W.S.findZ by PySem.W.S.findZ_eq
name_quick tw6662432510661729299 for PySem.W.S.findZ by PySem.W.S.findZ_eq
name_quick tw12237943961548833269 for PySem.W.S.findZ by PySem.W.S.findZ_eq
name_quick tw15663404670287596823 for PySem.W.S.findZ by PySem.W.S.findZ_eq
name_quick tw11994158751524154303 for PySem.W.S.findZ by PySem.W.S.findZ_eq
name_quick tw10351409554113482835 for PySem.W.S.findZ by PySem.W.S.findZ_eq
name_quick tw4039474712603431140 for PySem.W.S.findZ by PySem.W.S.findZ_eq
name_quick tw14957318262639276076 for PySem.W.S.findZ by PySem.W.S.findZ_eq
name_quick tw10205541121877940668 for PySem.W.S.findZ by PySem.W.S.findZ_eq
name_quick tw7299303143086499733 for PySem.W.S.findZ by PySem.W.S.findZ_eq
name_quick tw16916688483869632129 for PySem.W.S.findZ by PySem.W.S.findZ_eq
name_quick tw17828083071136270317 for PySem.W.S.findZ by PySem.W.S.findZ_eq
name_quick tw8703263022893421829 for PySem.W.S.findZ by PySem.W.S.findZ_eq
name_quick tw1523951592034530338 for PySem.W.S.findZ by PySem.W.S.findZ_eq
name_quick tw6434138532213402376 for PySem.W.S.findZ by PySem.W.S.findZ_eq
name_quick tw1620339239838986703 for PySem.W.S.findZ by PySem.W.S.findZ_eq
name_quick tw14553827428707814869 for PySem.W.S.findZ by PySem.W.S.findZ_eq
name_quick tw2660918139993853925 for PySem.W.S.findZ by PySem.W.S.findZ_eq
name_quick tw2532725972614424836 for PySem.W.S.findZ by PySem.W.S.findZ_eq
name_quick tw7581352650102555174 for PySem.W.S.findZ by PySem.W.S.findZ_eq
name_quick tw10833955939284561965 for PySem.W.S.findZ by PySem.W.S.findZ_eq
name_quick tw17532718790514356516 for PySem.W.S.findZ by PySem.W.S.findZ_eq
name_quick tw15323854079317868165 for PySem.W.S.findZ by PySem.W.S.findZ_eq
name_quick tw13141144453892091621 for PySem.W.S.findZ by PySem.W.S.findZ_eq
name_quick tw9948023125614773506 for PySem.W.S.findZ by PySem.W.S.findZ_eq
name_quick tw4933834842325187142 for PySem.W.S.findZ by PySem.W.S.findZ_eq
name_quick tw10938465397075749097 for PySem.W.S.findZ by PySem.W.S.findZ_eq
name_quick tw721709456127091705 for PySem.W.S.findZ by PySem.W.S.findZ_eq
name_quick tw17730428716208468724 for PySem.W.S.findZ by PySem.W.S.findZ_eq
name_quick tw1414301608579184545 for PySem.W.S.findZ by PySem.W.S.findZ_eq
name_quick tw14223099787259518943 for PySem.W.S.findZ by PySem.W.S.findZ_eq
name_quick tw17018628822417861297 for PySem.W.S.findZ by PySem.W.S.findZ_eq
name_quick tw3636048126100218174 for PySem.W.S.findZ by PySem.W.S.findZ_eq
name_quick tw8595292554425487202 for PySem.W.S.findZ by PySem.W.S.findZ_eq
name_quick tw11985326045990495214 for PySem.W.S.findZ by PySem.W.S.findZ_eq
name_quick tw6929956602132211858 for PySem.W.S.findZ by PySem.W.S.findZ_eq
name_quick tw16979880578912567463 for PySem.W.S.findZ by PySem.W.S.findZ_eq
name_quick tw13236226663087606529 for PySem.W.S.findZ by PySem.W.S.findZ_eq
name_quick tw17057272898397164401 for PySem.W.S.findZ by PySem.W.S.findZ_eq
name_quick tw392140993173905013 for PySem.W.S.findZ by PySem.W.S.findZ_eq
name_quick tw18056578402003937789 for PySem.W.S.findZ by PySem.W.S.findZ_eq
name_quick tw10029231156530900338 for PySem.W.S.findZ by PySem.W.S.findZ_eq
name_quick tw8119918657739134586 for PySem.W.S.findZ by PySem.W.S.findZ_eq
name_quick tw18416463498863911781 for PySem.W.S.findZ by PySem.W.S.findZ_eq
name_quick tw8537084889766193716 for PySem.W.S.findZ by PySem.W.S.findZ_eq
name_quick tw7239574021652732423 for PySem.W.S.findZ by PySem.W.S.findZ_eq
name_quick tw17497748084772794779 for PySem.W.S.findZ by PySem.W.S.findZ_eq
name_quick tw4071324889030633612 for PySem.W.S.findZ by PySem.W.S.findZ_eq
name_quick tw12172078356533094185 for PySem.W.S.findZ by PySem.W.S.findZ_eq
name_quick tw3131671291697673992 for PySem.W.S.findZ by PySem.W.S.findZ_eq
name_quick tw662354867322794072 for PySem.W.S.findZ by PySem.W.S.findZ_eq
name_quick tw15112985482279097393 for PySem.W.S.findZ by PySem.W.S.findZ_eq
name_quick tw12635297910168745909 for PySem.W.S.findZ by PySem.W.S.findZ_eq
name_quick tw13559156169165276386 for PySem.W.S.findZ by PySem.W.S.findZ_eq
name_quick tw13198648067127048565 for PySem.W.S.findZ by PySem.W.S.findZ_eq
name_quick tw12850107946570832962 for PySem.W.S.findZ by PySem.W.S.findZ_eq
name_quick tw2664551874359636763 for PySem.W.S.findZ by PySem.W.S.findZ_eq
name_quick tw347637069881736656 for PySem.W.S.findZ by PySem.W.S.findZ_eq
name_quick tw8400853705098224536 for PySem.W.S.findZ by PySem.W.S.findZ_eq
name_quick tw9951705424602377420 for PySem.W.S.findZ by PySem.W.S.findZ_eq
name_quick tw4552823106982906706 for PySem.W.S.findZ by PySem.W.S.findZ_eq
name_quick tw13759679279233594173 for PySem.W.S.findZ by PySem.W.S.findZ_eq
name_quick tw10706342367453228570 for PySem.W.S.findZ by PySem.W.S.findZ_eq
name_quick tw6448080314894763839 for PySem.W.S.findZ by PySem.W.S.findZ_eq
name_quick tw4679858250743294509 for PySem.W.S.findZ by PySem.W.S.findZ_eq
name_quick tw12329403913580668285 for PySem.W.S.findZ by PySem.W.S.findZ_eq
name_quick tw9908251947323293946 for PySem.W.S.findZ by PySem.W.S.findZ_eq
name_quick tw5032809538720368765 for PySem.W.S.findZ by PySem.W.S.findZ_eq
name_quick tw18345786424863182364 for PySem.W.S.findZ by PySem.W.S.findZ_eq
name_quick tw9407582987413476825 for PySem.W.S.findZ by PySem.W.S.findZ_eq
name_quick tw6792406925840432001 for PySem.W.S.findZ by PySem.W.S.findZ_eq
name_quick tw7276740287692124622 for PySem.W.S.findZ by PySem.W.S.findZ_eq
name_quick tw14224011070414065920 for PySem.W.S.findZ by PySem.W.S.findZ_eq
name_quick tw11317593695737139937 for PySem.W.S.findZ by PySem.W.S.findZ_eq
name_quick tw6817277305950994716 for PySem.W.S.findZ by PySem.W.S.findZ_eq
name_quick tw11420187438672877268 for PySem.W.S.findZ by PySem.W.S.findZ_eq
name_quick tw14638366451347569053 for PySem.W.S.findZ by PySem.W.S.findZ_eq
name_quick tw12866136484021002089 for PySem.W.S.findZ by PySem.W.S.findZ_eq
name_quick tw5111356299099525756 for PySem.W.S.findZ by PySem.W.S.findZ_eq
name_quick tw8642067239939848140 for PySem.W.S.findZ by PySem.W.S.findZ_eq
name_quick tw11013792430000457035 for PySem.W.S.findZ by PySem.W.S.findZ_eq
name_quick tw4748654258956052638 for PySem.W.S.findZ by PySem.W.S.findZ_eq
name_quick tw7745614565497352828 for PySem.W.S.findZ by PySem.W.S.findZ_eq
name_quick tw6683783046931543321 for PySem.W.S.findZ by PySem.W.S.findZ_eq
name_quick tw4797165386629745026 for PySem.W.S.findZ by PySem.W.S.findZ_eq
name_quick tw8727135674562949291 for PySem.W.S.findZ by PySem.W.S.findZ_eq
name_quick tw14979626087600564940 for PySem.W.S.findZ by PySem.W.S.findZ_eq
name_quick tw470574548607681690 for PySem.W.S.findZ by PySem.W.S.findZ_eq
name_quick tw11452132507678324671 for PySem.W.S.findZ by PySem.W.S.findZ_eq
name_quick tw3560238982266916124 for PySem.W.S.findZ by PySem.W.S.findZ_eq
name_quick tw8424611434330503625 for PySem.W.S.findZ by PySem.W.S.findZ_eq
name_quick tw13900631225919944168 for PySem.W.S.findZ by PySem.W.S.findZ_eq
name_quick tw14023627001141898710 for PySem.W.S.findZ by PySem.W.S.findZ_eq
name_quick tw9862997608875712007 for PySem.W.S.findZ by PySem.W.S.findZ_eq
name_quick tw8376441433122354887 for PySem.W.S.findZ by PySem.W.S.findZ_eq
name_quick tw4980102563643897964 for PySem.W.S.findZ by PySem.W.S.findZ_eq
name_quick tw15894407043143930727 for PySem.W.S.findZ by PySem.W.S.findZ_eq
name_quick tw12635813782599140982 for PySem.W.S.findZ by PySem.W.S.findZ_eq
name_quick tw4224760802259116069 for PySem.W.S.findZ by PySem.W.S.findZ_eq
name_quick tw11729385059970357855 for PySem.W.S.findZ by PySem.W.S.findZ_eq
name_quick tw13036272033356848781 for PySem.W.S.findZ by PySem.W.S.findZ_eq
name_quick tw13981391230805400906 for PySem.W.S.findZ by PySem.W.S.findZ_eq
name_quick tw15235765054026252253 for PySem.W.S.findZ by PySem.W.S.findZ_eq
name_quick tw10227693086864044499 for PySem.W.S.findZ by PySem.W.S.findZ_eq
name_quick tw14326252917377295143 for PySem.W.S.findZ by PySem.W.S.findZ_eq
name_quick tw6654550962395885724 for PySem.W.S.findZ by PySem.W.S.findZ_eq
name_quick tw6245536207120538393 for PySem.W.S.findZ by PySem.W.S.findZ_eq
name_quick tw16414604833108395602 for PySem.W.S.findZ by PySem.W.S.findZ_eq
name_quick tw16213326971386581361 for PySem.W.S.findZ by PySem.W.S.findZ_eq
name_quick tw16349804527192203551 for PySem.W.S.findZ by PySem.W.S.findZ_eq
name_quick tw15450981722951097364 for PySem.W.S.findZ by PySem.W.S.findZ_eq
name_quick tw5200128776193632040 for PySem.W.S.findZ by PySem.W.S.findZ_eq
name_quick tw1377046205977697930 for PySem.W.S.findZ by PySem.W.S.findZ_eq
name_quick tw9564595351457756722 for PySem.W.S.findZ by PySem.W.S.findZ_eq
name_quick tw7323676302269181137 for PySem.W.S.findZ by PySem.W.S.findZ_eq
name_quick tw5135500740108067664 for PySem.W.S.findZ by PySem.W.S.findZ_eq
name_quick tw2719445374943340272 for PySem.W.S.findZ by PySem.W.S.findZ_eq
name_quick tw15480198773659482676 for PySem.W.S.findZ by PySem.W.S.findZ_eq
name_quick tw16049961110935095269 for PySem.W.S.findZ by PySem.W.S.findZ_eq
name_quick tw7650934615059315214 for PySem.W.S.findZ by PySem.W.S.findZ_eq
name_quick tw9529234661008812162 for PySem.W.S.findZ by PySem.W.S.findZ_eq
name_quick tw18211773271919218964 for PySem.W.S.findZ by PySem.W.S.findZ_eq
name_quick tw9467589175468403638 for PySem.W.S.findZ by PySem.W.S.findZ_eq
name_quick tw117213463901210413 for PySem.W.S.findZ by PySem.W.S.findZ_eq
name_quick tw11176043301313065506 for PySem.W.S.findZ by PySem.W.S.findZ_eq
name_quick tw15742981410569661332 for PySem.W.S.findZ by PySem.W.S.findZ_eq
name_quick tw4775785305629353868 for PySem.W.S.findZ by PySem.W.S.findZ_eq
name_quick tw14530364306720264245 for PySem.W.S.findZ by PySem.W.S.findZ_eq
name_quick tw5902227825499142635 for PySem.W.S.findZ by PySem.W.S.findZ_eq
name_quick tw3764465048917985505 for PySem.W.S.findZ by PySem.W.S.findZ_eq
name_quick tw11566699232636054958 for PySem.W.S.findZ by PySem.W.S.findZ_eq
name_quick tw9800571698397750058 for PySem.W.S.findZ by PySem.W.S.findZ_eq
name_quick tw10424941004445345732 for PySem.W.S.findZ by PySem.W.S.findZ_eq
name_quick tw13512673800721320934 for PySem.W.S.findZ by PySem.W.S.findZ_eq
namespace Mine
open_top hd for PySem.Challenge.rw_sq0032_01
theorem succ_ne {a b : Nat} (h : a ≠ b) : a + 1 ≠ b + 1 := fun e => h (Nat.succ.inj e)
theorem off_ne1 (a : Nat) : a + 1 ≠ a := Nat.succ_ne_self a
theorem off_ne2 (a : Nat) : a + 1 + 1 ≠ a := by omega
theorem off_ne3 (a : Nat) : a + 1 + 1 + 1 ≠ a := by omega
theorem off_ne4 (a : Nat) : a + 1 + 1 + 1 + 1 ≠ a := by omega
theorem off_ne5 (a : Nat) : a + 1 + 1 + 1 + 1 + 1 ≠ a := by omega
theorem lt_off1 {a L : Nat} (h : a < L) : a ≠ L + 1 := by omega
theorem lt_off2 {a L : Nat} (h : a < L) : a ≠ L + 1 + 1 := by omega
theorem lt_off3 {a L : Nat} (h : a < L) : a ≠ L + 1 + 1 + 1 := by omega
theorem lt_off4 {a L : Nat} (h : a < L) : a ≠ L + 1 + 1 + 1 + 1 := by omega
theorem lt_off5 {a L : Nat} (h : a < L) : a ≠ L + 1 + 1 + 1 + 1 + 1 := by omega
theorem ne_cr {a b x : Nat} {P : Prop} (h : x ≠ a ∧ P) (f : x ≠ a ∧ P → b ≠ a) : b ≠ a := f h
theorem ne_cl {a b x : Nat} {P : Prop} (h : x ≠ a ∧ P) (f : x ≠ a ∧ P → b ≠ a) : a ≠ b := (f h).symm
theorem lt_cr {a b x : Nat} {P : Prop} (h : x < a ∧ P) (f : x < a ∧ P → b < a) : b ≠ a := Nat.ne_of_lt (f h)
theorem lt_cl {a b x : Nat} {P : Prop} (h : x < a ∧ P) (f : x < a ∧ P → b < a) : a ≠ b := Nat.ne_of_gt (f h)
theorem lt_c {a b x : Nat} {P : Prop} (h : x < a ∧ P) (f : x < a ∧ P → b < a) : b < a := f h
theorem units3 {un K j : Nat} (hu : un + 8 * K < cLine) (h : 3 + 8 * j ≤ 8 * K) : un + 3 + 8 * j < cLine := Nat.lt_of_le_of_lt (by omega) hu
end Mine
end

section
open PySem PySem.W PyProof.Rows
namespace Mine
local macro_rules | `(tactic| k_ne) => `(tactic| first | k_extra "NE" | (refine neN ?_; (try dsimp only); omega))
local macro_rules | `(tactic| walk_at "h:S1") => `(tactic| (refine' ⟨?B, ?F, ?X, ?N, ?T, ?K⟩; (case B => k_asm); (case F => k_asm); (case X => k_asm); (case N => k_asm); (case T => k_asm); (case K => first | exact rfl | assumption)))
local macro_rules | `(tactic| walk_at "h:S2") => `(tactic| (refine' ⟨?d, ?u⟩; (case d => ktr_room); (case u => ktr_units)))
theorem my_item {prog : Program} {w : World} {A : Around} {E : Value → Shared → Prop} {s : Shared} {value slice : Expr} {l : Addr} {its : Array Value} {n : Nat} {k : Int} {u : Tok} {v : Value} {Q : Value → Shared → Prop} {h₀ : Heap} {L : Addr} {news : List (Addr × Obj)}
    (N : News h₀ L s.heap news) (hm : (l, listOf its n) ∈ news) (h0 : 0 ≤ k) (hhi : k < 2 ^ 63) (hx : its[k.toNat]? = some v) (h : Q v s)
    (hs : subscripted slice false (.ref l) (.int k u) = operate [.ref l, .int k u] (getItem (.ref l) (.int k u)) := by with_unfolding_all rfl) :
    wpAny (model prog w) A (subscriptTail value slice (.ref l) (.int k u)) Q E s := by
  have hl : s.heap.IsList l its := ⟨_, (N _ hm).1, rfl, n, rfl⟩
  exact tail_any hl.typeIs slot_list_getitem.lookup (wpAny_getItem_list hl h0 hhi hx h) hs
theorem fm_lo {x m : Int} (h : 0 < m) : 0 ≤ x.fmod m := by rw [Int.fmod_eq_emod_of_nonneg _ (by omega)]; exact Int.emod_nonneg _ (by omega)
theorem fm_hi {x m : Int} (h : 0 < m) : x.fmod m < m := by rw [Int.fmod_eq_emod_of_nonneg _ (by omega)]; exact Int.emod_lt_of_pos _ h
theorem fd_lo {x m : Int} (hx : 0 ≤ x) (h : 0 < m) : 0 ≤ x.fdiv m := by rw [Int.fdiv_eq_ediv_of_nonneg _ (by omega)]; exact Int.ediv_nonneg hx (by omega)
local macro_rules | `(tactic| k_all) => `(tactic| assumption)
local macro_rules | `(tactic| walk_at "subscriptTail Name Constant ref int") => `(tactic| k_extra "Q subscriptTail Name Constant ref int")

theorem words_C1_0 : True := by
  k_with_none
  k_with "PROJ" => first | exact h9.1 | exact h9 | exact h9.2.1 | exact h9.2 | exact h9.2.2.1 | exact h9.2.2 | exact h9.2.2.2.1 | exact h9.2.2.2 | exact h9.2.2.2.2.1 | exact h9.2.2.2.2 | exact h9.2.2.2.2.2.1 | exact h9.2.2.2.2.2 | exact h9.2.2.2.2.2.2.1 | exact h9.2.2.2.2.2.2 | exact h9.2.2.2.2.2.2.2.1 | exact h9.2.2.2.2.2.2.2 | exact h9.2.2.2.2.2.2.2.2.1 | exact h9.2.2.2.2.2.2.2.2 | exact h9.2.2.2.2.2.2.2.2.2.1 | exact h9.2.2.2.2.2.2.2.2.2 | exact h9.2.2.2.2.2.2.2.2.2.2.1 | exact h9.2.2.2.2.2.2.2.2.2.2 | exact h9.2.2.2.2.2.2.2.2.2.2.2.1 | exact h9.2.2.2.2.2.2.2.2.2.2.2 | exact h9.2.2.2.2.2.2.2.2.2.2.2.2.1 | exact h9.2.2.2.2.2.2.2.2.2.2.2.2 | exact h9.2.2.2.2.2.2.2.2.2.2.2.2.2.1 | exact h9.2.2.2.2.2.2.2.2.2.2.2.2.2 | exact h9.2.2.2.2.2.2.2.2.2.2.2.2.2.2.1 | exact h9.2.2.2.2.2.2.2.2.2.2.2.2.2.2 | exact h9.2.2.2.2.2.2.2.2.2.2.2.2.2.2.2.1 | exact h9.2.2.2.2.2.2.2.2.2.2.2.2.2.2.2 | exact h9.2.2.2.2.2.2.2.2.2.2.2.2.2.2.2.2.1 | exact h9.2.2.2.2.2.2.2.2.2.2.2.2.2.2.2.2 | exact h9.2.2.2.2.2.2.2.2.2.2.2.2.2.2.2.2.2.1 | exact h9.2.2.2.2.2.2.2.2.2.2.2.2.2.2.2.2.2 | exact h9.2.2.2.2.2.2.2.2.2.2.2.2.2.2.2.2.2.2.1 | exact h9.2.2.2.2.2.2.2.2.2.2.2.2.2.2.2.2.2.2 | exact h9.2.2.2.2.2.2.2.2.2.2.2.2.2.2.2.2.2.2.2.1 | exact h9.2.2.2.2.2.2.2.2.2.2.2.2.2.2.2.2.2.2.2 | exact h9.2.2.2.2.2.2.2.2.2.2.2.2.2.2.2.2.2.2.2.2.1 | exact h9.2.2.2.2.2.2.2.2.2.2.2.2.2.2.2.2.2.2.2.2 | exact h9.2.2.2.2.2.2.2.2.2.2.2.2.2.2.2.2.2.2.2.2.2.1 | exact h9.2.2.2.2.2.2.2.2.2.2.2.2.2.2.2.2.2.2.2.2.2 | exact h9.2.2.2.2.2.2.2.2.2.2.2.2.2.2.2.2.2.2.2.2.2.2.1 | exact h9.2.2.2.2.2.2.2.2.2.2.2.2.2.2.2.2.2.2.2.2.2.2 | exact h9.2.2.2.2.2.2.2.2.2.2.2.2.2.2.2.2.2.2.2.2.2.2.2.1 | exact h9.2.2.2.2.2.2.2.2.2.2.2.2.2.2.2.2.2.2.2.2.2.2.2 | exact h9.2.2.2.2.2.2.2.2.2.2.2.2.2.2.2.2.2.2.2.2.2.2.2.2.1 | exact h9.2.2.2.2.2.2.2.2.2.2.2.2.2.2.2.2.2.2.2.2.2.2.2.2
  k_with "NE" => ((try refine neN ?_); (try dsimp only); first
    | assumption
    | exact Ne.symm (by assumption)
    | exact Nat.ne_of_lt (by assumption)
    | exact Nat.ne_of_gt (by assumption)
    | exact off_ne1 _
    | exact Ne.symm (off_ne1 _)
    | exact off_ne2 _
    | exact Ne.symm (off_ne2 _)
    | exact off_ne3 _
    | exact Ne.symm (off_ne3 _)
    | exact off_ne4 _
    | exact Ne.symm (off_ne4 _)
    | exact off_ne5 _
    | exact Ne.symm (off_ne5 _)
    | (refine succ_ne ?_; k_extra "NE")
    | (refine ne_cr (by assumption) ?_; intro h9; k_extra "PROJ")
    | (refine ne_cl (by assumption) ?_; intro h9; k_extra "PROJ")
    | (refine lt_cr (by assumption) ?_; intro h9; k_extra "PROJ")
    | (refine lt_cl (by assumption) ?_; intro h9; k_extra "PROJ")
    | (refine lt_off1 ?_; first | assumption | (refine lt_c (by assumption) ?_; intro h9; k_extra "PROJ"))
    | (refine Ne.symm (lt_off1 ?_); first | assumption | (refine lt_c (by assumption) ?_; intro h9; k_extra "PROJ"))
    | (refine lt_off2 ?_; first | assumption | (refine lt_c (by assumption) ?_; intro h9; k_extra "PROJ"))
    | (refine Ne.symm (lt_off2 ?_); first | assumption | (refine lt_c (by assumption) ?_; intro h9; k_extra "PROJ"))
    | (refine lt_off3 ?_; first | assumption | (refine lt_c (by assumption) ?_; intro h9; k_extra "PROJ"))
    | (refine Ne.symm (lt_off3 ?_); first | assumption | (refine lt_c (by assumption) ?_; intro h9; k_extra "PROJ"))
    | (refine lt_off4 ?_; first | assumption | (refine lt_c (by assumption) ?_; intro h9; k_extra "PROJ"))
    | (refine Ne.symm (lt_off4 ?_); first | assumption | (refine lt_c (by assumption) ?_; intro h9; k_extra "PROJ"))
    | (refine lt_off5 ?_; first | assumption | (refine lt_c (by assumption) ?_; intro h9; k_extra "PROJ"))
    | (refine Ne.symm (lt_off5 ?_); first | assumption | (refine lt_c (by assumption) ?_; intro h9; k_extra "PROJ")))
  k_with "Q subscriptTail Name Constant ref int" => (k_here; k_dflt (apply my_item; (case N => k_asm); (case hm => k_mem); (case h0 => decide); (case hhi => decide); (case hx => (simp only [Int.toNat_zero, Int.toNat_one, Int.reduceToNat, List.getElem?_toArray, List.getElem?_cons_succ, List.getElem?_cons_zero]; exact rfl)); (case hs => with_unfolding_all rfl); k_whole))
  trivial
/-- what a call of the def at `f` brings, said over a general frame, ledger and stack -/
def CallC (w : World) (f : Addr) (args : List Value) (news : List (Addr × Obj)) (k : Nat) (Post : Value → List (Addr × Obj) → Prop) : Prop :=
  ∀ (loose : List Str) (mean : ExcName → Option Value) (mg mb : Str → Option Value) (dp un : Nat) (gd : Option (List Code)) (cn : Str) (cs : Scope) (a : Addr) (ccd : Value) (cl : List (Str × Addr)) (outer : List Env) (A₀ : Around) (base h₀ : Heap) (L : Addr) (m : Str → Option Value) (s : Shared) (Q E : Value → Shared → Prop),
    Below A₀ base outer h₀ → Fr h₀ L s.heap m → (Mine.hd.heap_39 w.params).In h₀ → News h₀ L s.heap news → Top Mine.hd.view_39 loose mean mg mb h₀ → cs.kind = .function → dp + k < recursionLimit → un + 8 * k < cLine →
    (∀ (r : Value) (news' : List (Addr × Obj)) (h' : Heap) (tk' : Nat), Post r news' → Fr h₀ L h' m → News h₀ L h' news' → Q r { s with heap := h', toks := tk' }) →
    wpAny (model PySem.Challenge.rw_sq0032_01.row.prog w) (ktrTop dp un gd cn cs L a ccd cl outer) (call (.ref f) args) Q E s

def HeapIs (B : Int) (o : Obj) : Prop := ∃ x y tx ty n, o = listOf #[.int x tx, .int y ty] n ∧ 0 ≤ x ∧ 0 ≤ y ∧ y ≤ B
def SizeV (v : Value) : Prop := v = .none ∨ ∃ k t, v = .int k t ∧ -5 ≤ k ∧ k ≤ 12

theorem upd_in {d : Addr} {o : Obj} {news : List (Addr × Obj)} {g : Obj → List (Addr × Obj)} (U : UpdF d o news g) {h₀ h : Heap} {L : Addr} (N : News h₀ L h news) :
    ∃ rest, News h₀ L h ((d, o) :: rest) ∧ (∀ p ∈ rest, p.1 ≠ d) ∧ ∀ (o' : Obj) (h' : Heap), News h₀ L h' ((d, o') :: rest) → News h₀ L h' (g o') := by
  obtain ⟨pre, post, rfl, hg, a, b⟩ := U.split
  refine ⟨pre ++ post, fun p hp => N p ?_, fun p hp => ?_, fun o' h' N' p hp => N' p ?_⟩
  · rcases List.mem_cons.mp hp with h | h
    · exact List.mem_append.mpr (.inr (h ▸ .head _))
    · rcases List.mem_append.mp h with h | h
      · exact List.mem_append.mpr (.inl h)
      · exact List.mem_append.mpr (.inr (.tail _ h))
  · rcases List.mem_append.mp hp with h | h
    · exact a p h
    · exact b p h
  · rw [hg] at hp
    rcases List.mem_append.mp hp with h | h
    · exact .tail _ (List.mem_append.mpr (.inl h))
    · rcases List.mem_cons.mp h with h | h
      · exact h ▸ .head _
      · exact .tail _ (List.mem_append.mpr (.inr h))

theorem take_spec (w : World) (d : Addr) (many : Int) (tm : Tok) (o : Obj) (B : Int) (news : List (Addr × Obj)) (g : Obj → List (Addr × Obj)) (U : UpdF d o news g) (hH : HeapIs B o) (hB : B < 1000) (hm : 0 < many) (hmb : many ≤ 100) :
    CallC w 317 [.ref d, .int many tm] news 1 (fun r news' => ∃ k t o', r = .int k t ∧ 0 ≤ k ∧ k < many ∧ HeapIs (B + 1) o' ∧ news' = g o') := by
  w_on
  unfold CallC
  k_fill
  intro loose mean mg mb dp un gd cn cs a ccd cl outer A₀ base h₀ L m s Q E B' F X N₀ T hk hd hu ret
  obtain ⟨x, y, tx, ty, n, rfl, hx, hy, hyB⟩ := hH
  obtain ⟨rest, N, hn, back⟩ := upd_in U N₀
  clear N₀ U
  refine wpAny_call ?_
  k_dflt cell_enter
  k_steps
  · refine' ret _ (g _) _ _ ⟨_, _, _, rfl, fm_lo hm, fm_hi hm, ?H, rfl⟩ ?F (back _ _ ?N)
    case N => k_asm
    case F => k_asm
    case H => exact ⟨_, _, _, _, _, rfl, hx, by omega, by omega⟩
  · refine' ret _ (g _) _ _ ⟨_, _, _, rfl, fm_lo hm, fm_hi hm, ?H, rfl⟩ ?F (back _ _ ?N)
    case N => k_asm
    case F => k_asm
    case H => exact ⟨_, _, _, _, _, rfl, fd_lo hx hm, by omega, by omega⟩
end Mine
end

section
open PySem PySem.W PyProof.Rows
namespace Mine
local macro_rules | `(tactic| k_ne) => `(tactic| first | k_extra "NE" | (refine neN ?_; (try dsimp only); omega))
local macro_rules | `(tactic| walk_at "h:S1") => `(tactic| (refine' ⟨?B, ?F, ?X, ?N, ?T, ?K⟩; (case B => k_asm); (case F => k_asm); (case X => k_asm); (case N => k_asm); (case T => k_asm); (case K => first | exact rfl | assumption)))
local macro_rules | `(tactic| walk_at "h:S2") => `(tactic| (refine' ⟨?d, ?u⟩; (case d => ktr_room); (case u => ktr_units)))
theorem CallC.use {w : World} {f : Addr} {args : List Value} {news : List (Addr × Obj)} {k : Nat} {Post : Value → List (Addr × Obj) → Prop} (C : CallC w f args news k Post)
    {loose : List Str} {mean : ExcName → Option Value} {mg mb : Str → Option Value} {dp un : Nat} {gd : Option (List Code)} {cn : Str} {cs : Scope} {a : Addr} {ccd : Value} {cl : List (Str × Addr)} {outer : List Env} {A₀ : Around} {base h₀ : Heap} {L : Addr} {m : Str → Option Value} {s : Shared} {Q E : Value → Shared → Prop}
    (B : Below A₀ base outer h₀) (F : Fr h₀ L s.heap m) (X : (Mine.hd.heap_39 w.params).In h₀) (N : News h₀ L s.heap news) (T : Top Mine.hd.view_39 loose mean mg mb h₀) (hk : cs.kind = .function) (hd : dp + k < recursionLimit) (hu : un + 8 * k < cLine)
    (ret : ∀ (r : Value) (news' : List (Addr × Obj)) (h' : Heap) (tk' : Nat), Post r news' → Fr h₀ L h' m → News h₀ L h' news' → Q r { s with heap := h', toks := tk' }) :
    wpAny (model PySem.Challenge.rw_sq0032_01.row.prog w) (ktrTop dp un gd cn cs L a ccd cl outer) (call (.ref f) args) Q E s :=
  C _ _ _ _ _ _ _ _ _ _ _ _ _ _ _ _ _ _ _ _ _ B F X N T hk hd hu ret
theorem CallC.go {w : World} {f : Addr} {args : List Value} {news : List (Addr × Obj)} {k : Nat} {Post : Value → List (Addr × Obj) → Prop}
    {loose : List Str} {mean : ExcName → Option Value} {mg mb : Str → Option Value} {dp un : Nat} {gd : Option (List Code)} {cn : Str} {cs : Scope} {a : Addr} {ccd : Value} {cl : List (Str × Addr)} {outer : List Env} {A₀ : Around} {base h₀ : Heap} {L : Addr} {m : Str → Option Value} {s : Shared} {Q E : Value → Shared → Prop}
    (S1 : Below A₀ base outer h₀ ∧ Fr h₀ L s.heap m ∧ (Mine.hd.heap_39 w.params).In h₀ ∧ News h₀ L s.heap news ∧ Top Mine.hd.view_39 loose mean mg mb h₀ ∧ cs.kind = .function) (C : CallC w f args news k Post) (S2 : dp + k < recursionLimit ∧ un + 8 * k < cLine)
    (ret : ∀ (r : Value) (news' : List (Addr × Obj)) (h' : Heap) (tk' : Nat), Post r news' → Fr h₀ L h' m → News h₀ L h' news' → Q r { s with heap := h', toks := tk' }) :
    wpAny (model PySem.Challenge.rw_sq0032_01.row.prog w) (ktrTop dp un gd cn cs L a ccd cl outer) (call (.ref f) args) Q E s :=
  C.use S1.1 S1.2.1 S1.2.2.1 S1.2.2.2.1 S1.2.2.2.2.1 S1.2.2.2.2.2 S2.1 S2.2 ret
local macro_rules | `(tactic| k_all) => `(tactic| assumption)
local macro_rules | `(tactic| walk_at "call ref") => `(tactic| k_extra "Q call ref")

theorem words_C2_0 : True := by
  k_with_none
  k_with "PROJ" => first | exact h9.1 | exact h9 | exact h9.2.1 | exact h9.2 | exact h9.2.2.1 | exact h9.2.2 | exact h9.2.2.2.1 | exact h9.2.2.2 | exact h9.2.2.2.2.1 | exact h9.2.2.2.2 | exact h9.2.2.2.2.2.1 | exact h9.2.2.2.2.2 | exact h9.2.2.2.2.2.2.1 | exact h9.2.2.2.2.2.2 | exact h9.2.2.2.2.2.2.2.1 | exact h9.2.2.2.2.2.2.2 | exact h9.2.2.2.2.2.2.2.2.1 | exact h9.2.2.2.2.2.2.2.2 | exact h9.2.2.2.2.2.2.2.2.2.1 | exact h9.2.2.2.2.2.2.2.2.2 | exact h9.2.2.2.2.2.2.2.2.2.2.1 | exact h9.2.2.2.2.2.2.2.2.2.2 | exact h9.2.2.2.2.2.2.2.2.2.2.2.1 | exact h9.2.2.2.2.2.2.2.2.2.2.2 | exact h9.2.2.2.2.2.2.2.2.2.2.2.2.1 | exact h9.2.2.2.2.2.2.2.2.2.2.2.2 | exact h9.2.2.2.2.2.2.2.2.2.2.2.2.2.1 | exact h9.2.2.2.2.2.2.2.2.2.2.2.2.2 | exact h9.2.2.2.2.2.2.2.2.2.2.2.2.2.2.1 | exact h9.2.2.2.2.2.2.2.2.2.2.2.2.2.2 | exact h9.2.2.2.2.2.2.2.2.2.2.2.2.2.2.2.1 | exact h9.2.2.2.2.2.2.2.2.2.2.2.2.2.2.2 | exact h9.2.2.2.2.2.2.2.2.2.2.2.2.2.2.2.2.1 | exact h9.2.2.2.2.2.2.2.2.2.2.2.2.2.2.2.2 | exact h9.2.2.2.2.2.2.2.2.2.2.2.2.2.2.2.2.2.1 | exact h9.2.2.2.2.2.2.2.2.2.2.2.2.2.2.2.2.2 | exact h9.2.2.2.2.2.2.2.2.2.2.2.2.2.2.2.2.2.2.1 | exact h9.2.2.2.2.2.2.2.2.2.2.2.2.2.2.2.2.2.2 | exact h9.2.2.2.2.2.2.2.2.2.2.2.2.2.2.2.2.2.2.2.1 | exact h9.2.2.2.2.2.2.2.2.2.2.2.2.2.2.2.2.2.2.2 | exact h9.2.2.2.2.2.2.2.2.2.2.2.2.2.2.2.2.2.2.2.2.1 | exact h9.2.2.2.2.2.2.2.2.2.2.2.2.2.2.2.2.2.2.2.2 | exact h9.2.2.2.2.2.2.2.2.2.2.2.2.2.2.2.2.2.2.2.2.2.1 | exact h9.2.2.2.2.2.2.2.2.2.2.2.2.2.2.2.2.2.2.2.2.2 | exact h9.2.2.2.2.2.2.2.2.2.2.2.2.2.2.2.2.2.2.2.2.2.2.1 | exact h9.2.2.2.2.2.2.2.2.2.2.2.2.2.2.2.2.2.2.2.2.2.2 | exact h9.2.2.2.2.2.2.2.2.2.2.2.2.2.2.2.2.2.2.2.2.2.2.2.1 | exact h9.2.2.2.2.2.2.2.2.2.2.2.2.2.2.2.2.2.2.2.2.2.2.2 | exact h9.2.2.2.2.2.2.2.2.2.2.2.2.2.2.2.2.2.2.2.2.2.2.2.2.1 | exact h9.2.2.2.2.2.2.2.2.2.2.2.2.2.2.2.2.2.2.2.2.2.2.2.2
  k_with "NE" => ((try refine neN ?_); (try dsimp only); first
    | assumption
    | exact Ne.symm (by assumption)
    | exact Nat.ne_of_lt (by assumption)
    | exact Nat.ne_of_gt (by assumption)
    | exact off_ne1 _
    | exact Ne.symm (off_ne1 _)
    | exact off_ne2 _
    | exact Ne.symm (off_ne2 _)
    | exact off_ne3 _
    | exact Ne.symm (off_ne3 _)
    | exact off_ne4 _
    | exact Ne.symm (off_ne4 _)
    | exact off_ne5 _
    | exact Ne.symm (off_ne5 _)
    | (refine succ_ne ?_; k_extra "NE")
    | (refine ne_cr (by assumption) ?_; intro h9; k_extra "PROJ")
    | (refine ne_cl (by assumption) ?_; intro h9; k_extra "PROJ")
    | (refine lt_cr (by assumption) ?_; intro h9; k_extra "PROJ")
    | (refine lt_cl (by assumption) ?_; intro h9; k_extra "PROJ")
    | (refine lt_off1 ?_; first | assumption | (refine lt_c (by assumption) ?_; intro h9; k_extra "PROJ"))
    | (refine Ne.symm (lt_off1 ?_); first | assumption | (refine lt_c (by assumption) ?_; intro h9; k_extra "PROJ"))
    | (refine lt_off2 ?_; first | assumption | (refine lt_c (by assumption) ?_; intro h9; k_extra "PROJ"))
    | (refine Ne.symm (lt_off2 ?_); first | assumption | (refine lt_c (by assumption) ?_; intro h9; k_extra "PROJ"))
    | (refine lt_off3 ?_; first | assumption | (refine lt_c (by assumption) ?_; intro h9; k_extra "PROJ"))
    | (refine Ne.symm (lt_off3 ?_); first | assumption | (refine lt_c (by assumption) ?_; intro h9; k_extra "PROJ"))
    | (refine lt_off4 ?_; first | assumption | (refine lt_c (by assumption) ?_; intro h9; k_extra "PROJ"))
    | (refine Ne.symm (lt_off4 ?_); first | assumption | (refine lt_c (by assumption) ?_; intro h9; k_extra "PROJ"))
    | (refine lt_off5 ?_; first | assumption | (refine lt_c (by assumption) ?_; intro h9; k_extra "PROJ"))
    | (refine Ne.symm (lt_off5 ?_); first | assumption | (refine lt_c (by assumption) ?_; intro h9; k_extra "PROJ")))
  k_with "Q call ref" => (k_here; (with_reducible show wpAny _ _ (call (Value.ref 317) [Value.ref _, Value.int _ _] _) _ _ _); k_dflt ( apply CallC.go; (case S1 => walk_at "h:S1"); (case C => (apply take_spec; (first | (case U => k_updF) | (· (k_updF))); (first | (case hH => k_asm) | (· (k_asm))); (first | (case hB => omega) | (· (omega))); (first | (case hm => first | decide | omega) | (· (first | decide | omega))); (first | (case hmb => first | decide | omega) | (· (first | decide | omega))))); (case S2 => walk_at "h:S2"); k_whole); intro r9 news9 h9 tk9 p9 F9 N9; obtain ⟨k9, t9, o9, e9, a9, b9, c9, n9⟩ := p9; subst e9; subst n9; (try dsimp only at N9); (try k_sweep); (try dsimp only); (try k_fold))
  trivial
theorem HeapIs.mono {B B' : Int} {o : Obj} (h : HeapIs B o) (e : B ≤ B') : HeapIs B' o := by
  obtain ⟨x, y, tx, ty, n, r, a, b, c⟩ := h
  exact ⟨x, y, tx, ty, n, r, a, b, by omega⟩
theorem span_spec (w : World) (d : Addr) (o : Obj) (B : Int) (news : List (Addr × Obj)) (g : Obj → List (Addr × Obj)) (U : UpdF d o news g) (hH : HeapIs B o) (hB : B < 900) :
    CallC w 324 [.ref d] news 2 (fun r news' => ∃ o', SizeV r ∧ HeapIs (B + 2) o' ∧ news' = g o') := by
  w_on
  unfold CallC
  k_fill
  intro loose mean mg mb dp un gd cn cs a ccd cl outer A₀ base h₀ L m s Q E B' F X N₀ T hk hd hu ret
  obtain ⟨rest, N, hn, back⟩ := upd_in U N₀
  clear N₀ U
  refine wpAny_call ?_
  k_dflt cell_enter
  k_steps
  all_goals (refine' ret _ (g _) _ _ ⟨_, ?S, ?H, rfl⟩ ?F (back _ _ ?N); (case N => k_asm); (case F => k_asm); (case H => exact HeapIs.mono (by assumption) (by omega)); (case S => first | exact .inl rfl | exact .inr ⟨_, _, rfl, by omega, by omega⟩))
end Mine
end

section
open PySem PySem.W PyProof.Rows
namespace Mine
local macro_rules | `(tactic| k_ne) => `(tactic| first | k_extra "NE" | (refine neN ?_; (try dsimp only); omega))
local macro_rules | `(tactic| walk_at "h:S1") => `(tactic| (refine' ⟨?B, ?F, ?X, ?N, ?T, ?K⟩; (case B => k_asm); (case F => k_asm); (case X => k_asm); (case N => k_asm); (case T => k_asm); (case K => first | exact rfl | assumption)))
local macro_rules | `(tactic| walk_at "h:S2") => `(tactic| (refine' ⟨?d, ?u⟩; (case d => ktr_room); (case u => ktr_units)))
local macro_rules | `(tactic| ktr_units) => `(tactic| first | exact units3 (by assumption) (by decide) | (have hcL9 := cLine_is; (simp only [units_under_make, units_in1, units_deeper, Around.mark_units, units_caller] at *); (try dsimp only [ktrTop] at *); omega))
local macro_rules | `(tactic| k_room) => `(tactic| ktr_room)
local macro_rules | `(tactic| k_all) => `(tactic| assumption)
theorem cdim_spec (w : World) (v : Int) (t : Tok) (news : List (Addr × Obj)) (h1 : -100 ≤ v) (h2 : v ≤ 100) :
    CallC w 103 [.int v t] news 2 (fun r news' => r = .int v t ∧ news' = news) := by
  w_on
  unfold CallC
  k_fill
  intro loose mean mg mb dp un gd cn cs a ccd cl outer A₀ base h₀ L m s Q E B' F X N T hk hd hu ret
  refine wpAny_call ?_
  k_dflt cell_enter
  k_steps
  exact ret _ _ _ _ ⟨rfl, rfl⟩ (by k_asm) (by k_asm)
local macro_rules | `(tactic| walk_at "call ref") => `(tactic| k_extra "Q call ref")
theorem words_C3_0 : True := by
  k_with_none
  k_with "PROJ" => first | exact h9.1 | exact h9 | exact h9.2.1 | exact h9.2 | exact h9.2.2.1 | exact h9.2.2 | exact h9.2.2.2.1 | exact h9.2.2.2 | exact h9.2.2.2.2.1 | exact h9.2.2.2.2 | exact h9.2.2.2.2.2.1 | exact h9.2.2.2.2.2 | exact h9.2.2.2.2.2.2.1 | exact h9.2.2.2.2.2.2 | exact h9.2.2.2.2.2.2.2.1 | exact h9.2.2.2.2.2.2.2 | exact h9.2.2.2.2.2.2.2.2.1 | exact h9.2.2.2.2.2.2.2.2 | exact h9.2.2.2.2.2.2.2.2.2.1 | exact h9.2.2.2.2.2.2.2.2.2 | exact h9.2.2.2.2.2.2.2.2.2.2.1 | exact h9.2.2.2.2.2.2.2.2.2.2 | exact h9.2.2.2.2.2.2.2.2.2.2.2.1 | exact h9.2.2.2.2.2.2.2.2.2.2.2 | exact h9.2.2.2.2.2.2.2.2.2.2.2.2.1 | exact h9.2.2.2.2.2.2.2.2.2.2.2.2 | exact h9.2.2.2.2.2.2.2.2.2.2.2.2.2.1 | exact h9.2.2.2.2.2.2.2.2.2.2.2.2.2 | exact h9.2.2.2.2.2.2.2.2.2.2.2.2.2.2.1 | exact h9.2.2.2.2.2.2.2.2.2.2.2.2.2.2 | exact h9.2.2.2.2.2.2.2.2.2.2.2.2.2.2.2.1 | exact h9.2.2.2.2.2.2.2.2.2.2.2.2.2.2.2 | exact h9.2.2.2.2.2.2.2.2.2.2.2.2.2.2.2.2.1 | exact h9.2.2.2.2.2.2.2.2.2.2.2.2.2.2.2.2 | exact h9.2.2.2.2.2.2.2.2.2.2.2.2.2.2.2.2.2.1 | exact h9.2.2.2.2.2.2.2.2.2.2.2.2.2.2.2.2.2 | exact h9.2.2.2.2.2.2.2.2.2.2.2.2.2.2.2.2.2.2.1 | exact h9.2.2.2.2.2.2.2.2.2.2.2.2.2.2.2.2.2.2 | exact h9.2.2.2.2.2.2.2.2.2.2.2.2.2.2.2.2.2.2.2.1 | exact h9.2.2.2.2.2.2.2.2.2.2.2.2.2.2.2.2.2.2.2 | exact h9.2.2.2.2.2.2.2.2.2.2.2.2.2.2.2.2.2.2.2.2.1 | exact h9.2.2.2.2.2.2.2.2.2.2.2.2.2.2.2.2.2.2.2.2 | exact h9.2.2.2.2.2.2.2.2.2.2.2.2.2.2.2.2.2.2.2.2.2.1 | exact h9.2.2.2.2.2.2.2.2.2.2.2.2.2.2.2.2.2.2.2.2.2 | exact h9.2.2.2.2.2.2.2.2.2.2.2.2.2.2.2.2.2.2.2.2.2.2.1 | exact h9.2.2.2.2.2.2.2.2.2.2.2.2.2.2.2.2.2.2.2.2.2.2 | exact h9.2.2.2.2.2.2.2.2.2.2.2.2.2.2.2.2.2.2.2.2.2.2.2.1 | exact h9.2.2.2.2.2.2.2.2.2.2.2.2.2.2.2.2.2.2.2.2.2.2.2 | exact h9.2.2.2.2.2.2.2.2.2.2.2.2.2.2.2.2.2.2.2.2.2.2.2.2.1 | exact h9.2.2.2.2.2.2.2.2.2.2.2.2.2.2.2.2.2.2.2.2.2.2.2.2
  k_with "NE" => ((try refine neN ?_); (try dsimp only); first
    | assumption
    | exact Ne.symm (by assumption)
    | exact Nat.ne_of_lt (by assumption)
    | exact Nat.ne_of_gt (by assumption)
    | exact off_ne1 _
    | exact Ne.symm (off_ne1 _)
    | exact off_ne2 _
    | exact Ne.symm (off_ne2 _)
    | exact off_ne3 _
    | exact Ne.symm (off_ne3 _)
    | exact off_ne4 _
    | exact Ne.symm (off_ne4 _)
    | exact off_ne5 _
    | exact Ne.symm (off_ne5 _)
    | (refine succ_ne ?_; k_extra "NE")
    | (refine ne_cr (by assumption) ?_; intro h9; k_extra "PROJ")
    | (refine ne_cl (by assumption) ?_; intro h9; k_extra "PROJ")
    | (refine lt_cr (by assumption) ?_; intro h9; k_extra "PROJ")
    | (refine lt_cl (by assumption) ?_; intro h9; k_extra "PROJ")
    | (refine lt_off1 ?_; first | assumption | (refine lt_c (by assumption) ?_; intro h9; k_extra "PROJ"))
    | (refine Ne.symm (lt_off1 ?_); first | assumption | (refine lt_c (by assumption) ?_; intro h9; k_extra "PROJ"))
    | (refine lt_off2 ?_; first | assumption | (refine lt_c (by assumption) ?_; intro h9; k_extra "PROJ"))
    | (refine Ne.symm (lt_off2 ?_); first | assumption | (refine lt_c (by assumption) ?_; intro h9; k_extra "PROJ"))
    | (refine lt_off3 ?_; first | assumption | (refine lt_c (by assumption) ?_; intro h9; k_extra "PROJ"))
    | (refine Ne.symm (lt_off3 ?_); first | assumption | (refine lt_c (by assumption) ?_; intro h9; k_extra "PROJ"))
    | (refine lt_off4 ?_; first | assumption | (refine lt_c (by assumption) ?_; intro h9; k_extra "PROJ"))
    | (refine Ne.symm (lt_off4 ?_); first | assumption | (refine lt_c (by assumption) ?_; intro h9; k_extra "PROJ"))
    | (refine lt_off5 ?_; first | assumption | (refine lt_c (by assumption) ?_; intro h9; k_extra "PROJ"))
    | (refine Ne.symm (lt_off5 ?_); first | assumption | (refine lt_c (by assumption) ?_; intro h9; k_extra "PROJ")))
  k_with "Q call ref" => (k_here; (with_reducible show wpAny _ _ (call (Value.ref 103) [Value.int _ _] _) _ _ _); k_dflt (apply CallC.go; (case S1 => walk_at "h:S1"); (case C => (apply cdim_spec; (first | (case h1 => first | decide | omega) | (· (first | decide | omega))); (first | (case h2 => first | decide | omega) | (· (first | decide | omega))))); (case S2 => walk_at "h:S2"); k_whole); intro r9 news9 h9 tk9 p9 F9 N9; obtain ⟨e9, n9⟩ := p9; subst e9; subst n9; (try k_sweep); (try dsimp only); (try k_fold))
  trivial
abbrev ent (P : Params) (k : String) (t : Tok) (v : Value) : DictEntry := ⟨PyData.keyHash P (Str.ofString k), .str (Str.ofString k) t, v⟩
def BoxD (P : Params) (k wd ht dp : Int) (o : Obj) : Prop := ∃ (t0 t1 t2 t3 t4 t5 t6 t7 t8 s0 s1 s2 s3 : Tok) (v4 v5 v6 v7 v8 : Value),
  o = dictOf [ent P "kind" t0 (.int k s0), ent P "width" t1 (.int wd s1), ent P "height" t2 (.int ht s2), ent P "depth" t3 (.int dp s3), ent P "items" t4 v4, ent P "shift" t5 v5, ent P "sign" t6 v6, ent P "order" t7 v7, ent P "ratio" t8 v8] 9
theorem box_spec (w : World) (k wd ht dp_ : Int) (t0 t1 t2 t3 : Tok) (il : Addr) (news : List (Addr × Obj)) (hk0 : 2 ≤ k) (hk1 : k ≤ 3) (a1 : -100 ≤ wd) (a2 : wd ≤ 100) (b1 : -100 ≤ ht) (b2 : ht ≤ 100) (c1 : -100 ≤ dp_) (c2 : dp_ ≤ 100) :
    CallC w 239 [.int k t0, .int wd t1, .int ht t2, .int dp_ t3, .ref il] news 4 (fun r news' => ∃ (x dx : Addr) (od : Obj), r = .ref x ∧ BoxD w.params k wd ht dp_ od ∧ (∀ p ∈ news, p.1 < dx) ∧ dx < x ∧ news' = (x, instObj 239 dx) :: (dx, od) :: news) := by
  w_on
  unfold CallC
  k_fill
  intro loose mean mg mb dp un gd cn cs a ccd cl outer A₀ base h₀ L m s Q E B' F X N T hk hd hu ret
  k_dflt (refine' call_cls ?k1 ?k2 ?k3 ?k4 ?k5 ?k6 ?_; (case k1 => k_asm); (case k2 => k_asm); (case k3 => k_asm); (case k4 => k_is); (case k5 => k_is); (case k6 => k_is); k_whole)
  intro x' d' h' F' N' l1 l2
  have off : ∀ p ∈ news, p.1 ≠ d' := fun p hp => Nat.ne_of_lt (l1 p hp)
  k_lt2 l2
  k_dflt cell_enter
  k_steps
  (with_reducible rename News _ _ _ _ => kN)
  exact ret _ _ _ _ ⟨x', d', _, rfl, ⟨_, _, _, _, _, _, _, _, _, _, _, _, _, _, _, _, _, _, rfl⟩, l1, l2, rfl⟩ (by k_asm) (fun p hp => kN p (List.mem_cons_of_mem _ hp))
end Mine
end

section
open PySem PySem.W PyProof.Rows
namespace Mine
local macro_rules | `(tactic| k_ne) => `(tactic| first | k_extra "NE" | (refine neN ?_; (try dsimp only); omega))
local macro_rules | `(tactic| walk_at "h:S1") => `(tactic| (refine' ⟨?B, ?F, ?X, ?N, ?T, ?K⟩; (case B => k_asm); (case F => k_asm); (case X => k_asm); (case N => k_asm); (case T => k_asm); (case K => first | exact rfl | assumption)))
local macro_rules | `(tactic| walk_at "h:S2") => `(tactic| (refine' ⟨?d, ?u⟩; (case d => ktr_room); (case u => ktr_units)))
local macro_rules | `(tactic| ktr_units) => `(tactic| first | exact units3 (by assumption) (by decide) | (have hcL9 := cLine_is; (simp only [units_under_make, units_in1, units_deeper, Around.mark_units, units_caller] at *); (try dsimp only [ktrTop] at *); omega))
local macro_rules | `(tactic| k_room) => `(tactic| ktr_room)
local macro_rules | `(tactic| k_all) => `(tactic| assumption)
local macro_rules | `(tactic| walk_at "call ref") => `(tactic| k_extra "Q call ref")

theorem words_C4_0 : True := by
  k_with_none
  k_with "PROJ" => first | exact h9.1 | exact h9 | exact h9.2.1 | exact h9.2 | exact h9.2.2.1 | exact h9.2.2 | exact h9.2.2.2.1 | exact h9.2.2.2 | exact h9.2.2.2.2.1 | exact h9.2.2.2.2 | exact h9.2.2.2.2.2.1 | exact h9.2.2.2.2.2 | exact h9.2.2.2.2.2.2.1 | exact h9.2.2.2.2.2.2 | exact h9.2.2.2.2.2.2.2.1 | exact h9.2.2.2.2.2.2.2 | exact h9.2.2.2.2.2.2.2.2.1 | exact h9.2.2.2.2.2.2.2.2 | exact h9.2.2.2.2.2.2.2.2.2.1 | exact h9.2.2.2.2.2.2.2.2.2 | exact h9.2.2.2.2.2.2.2.2.2.2.1 | exact h9.2.2.2.2.2.2.2.2.2.2 | exact h9.2.2.2.2.2.2.2.2.2.2.2.1 | exact h9.2.2.2.2.2.2.2.2.2.2.2 | exact h9.2.2.2.2.2.2.2.2.2.2.2.2.1 | exact h9.2.2.2.2.2.2.2.2.2.2.2.2 | exact h9.2.2.2.2.2.2.2.2.2.2.2.2.2.1 | exact h9.2.2.2.2.2.2.2.2.2.2.2.2.2 | exact h9.2.2.2.2.2.2.2.2.2.2.2.2.2.2.1 | exact h9.2.2.2.2.2.2.2.2.2.2.2.2.2.2 | exact h9.2.2.2.2.2.2.2.2.2.2.2.2.2.2.2.1 | exact h9.2.2.2.2.2.2.2.2.2.2.2.2.2.2.2 | exact h9.2.2.2.2.2.2.2.2.2.2.2.2.2.2.2.2.1 | exact h9.2.2.2.2.2.2.2.2.2.2.2.2.2.2.2.2 | exact h9.2.2.2.2.2.2.2.2.2.2.2.2.2.2.2.2.2.1 | exact h9.2.2.2.2.2.2.2.2.2.2.2.2.2.2.2.2.2 | exact h9.2.2.2.2.2.2.2.2.2.2.2.2.2.2.2.2.2.2.1 | exact h9.2.2.2.2.2.2.2.2.2.2.2.2.2.2.2.2.2.2 | exact h9.2.2.2.2.2.2.2.2.2.2.2.2.2.2.2.2.2.2.2.1 | exact h9.2.2.2.2.2.2.2.2.2.2.2.2.2.2.2.2.2.2.2 | exact h9.2.2.2.2.2.2.2.2.2.2.2.2.2.2.2.2.2.2.2.2.1 | exact h9.2.2.2.2.2.2.2.2.2.2.2.2.2.2.2.2.2.2.2.2 | exact h9.2.2.2.2.2.2.2.2.2.2.2.2.2.2.2.2.2.2.2.2.2.1 | exact h9.2.2.2.2.2.2.2.2.2.2.2.2.2.2.2.2.2.2.2.2.2 | exact h9.2.2.2.2.2.2.2.2.2.2.2.2.2.2.2.2.2.2.2.2.2.2.1 | exact h9.2.2.2.2.2.2.2.2.2.2.2.2.2.2.2.2.2.2.2.2.2.2 | exact h9.2.2.2.2.2.2.2.2.2.2.2.2.2.2.2.2.2.2.2.2.2.2.2.1 | exact h9.2.2.2.2.2.2.2.2.2.2.2.2.2.2.2.2.2.2.2.2.2.2.2 | exact h9.2.2.2.2.2.2.2.2.2.2.2.2.2.2.2.2.2.2.2.2.2.2.2.2.1 | exact h9.2.2.2.2.2.2.2.2.2.2.2.2.2.2.2.2.2.2.2.2.2.2.2.2
  k_with "NE" => ((try refine neN ?_); (try dsimp only); first
    | assumption
    | exact Ne.symm (by assumption)
    | exact Nat.ne_of_lt (by assumption)
    | exact Nat.ne_of_gt (by assumption)
    | exact off_ne1 _
    | exact Ne.symm (off_ne1 _)
    | exact off_ne2 _
    | exact Ne.symm (off_ne2 _)
    | exact off_ne3 _
    | exact Ne.symm (off_ne3 _)
    | exact off_ne4 _
    | exact Ne.symm (off_ne4 _)
    | exact off_ne5 _
    | exact Ne.symm (off_ne5 _)
    | (refine succ_ne ?_; k_extra "NE")
    | (refine ne_cr (by assumption) ?_; intro h9; k_extra "PROJ")
    | (refine ne_cl (by assumption) ?_; intro h9; k_extra "PROJ")
    | (refine lt_cr (by assumption) ?_; intro h9; k_extra "PROJ")
    | (refine lt_cl (by assumption) ?_; intro h9; k_extra "PROJ")
    | (refine lt_off1 ?_; first | assumption | (refine lt_c (by assumption) ?_; intro h9; k_extra "PROJ"))
    | (refine Ne.symm (lt_off1 ?_); first | assumption | (refine lt_c (by assumption) ?_; intro h9; k_extra "PROJ"))
    | (refine lt_off2 ?_; first | assumption | (refine lt_c (by assumption) ?_; intro h9; k_extra "PROJ"))
    | (refine Ne.symm (lt_off2 ?_); first | assumption | (refine lt_c (by assumption) ?_; intro h9; k_extra "PROJ"))
    | (refine lt_off3 ?_; first | assumption | (refine lt_c (by assumption) ?_; intro h9; k_extra "PROJ"))
    | (refine Ne.symm (lt_off3 ?_); first | assumption | (refine lt_c (by assumption) ?_; intro h9; k_extra "PROJ"))
    | (refine lt_off4 ?_; first | assumption | (refine lt_c (by assumption) ?_; intro h9; k_extra "PROJ"))
    | (refine Ne.symm (lt_off4 ?_); first | assumption | (refine lt_c (by assumption) ?_; intro h9; k_extra "PROJ"))
    | (refine lt_off5 ?_; first | assumption | (refine lt_c (by assumption) ?_; intro h9; k_extra "PROJ"))
    | (refine Ne.symm (lt_off5 ?_); first | assumption | (refine lt_c (by assumption) ?_; intro h9; k_extra "PROJ")))
  k_with "Q call ref" => (k_here; (with_reducible show wpAny _ _ (call (Value.ref 103) [Value.int _ _] _) _ _ _); k_dflt (apply CallC.go; (case S1 => walk_at "h:S1"); (case C => (apply cdim_spec; (first | (case h1 => first | decide | omega) | (· (first | decide | omega))); (first | (case h2 => first | decide | omega) | (· (first | decide | omega))))); (case S2 => walk_at "h:S2"); k_whole); intro r9 news9 h9 tk9 p9 F9 N9; obtain ⟨e9, n9⟩ := p9; subst e9; subst n9; (try k_sweep); (try dsimp only); (try k_fold))
  trivial
theorem off2 {d x : Addr} {a b : Obj} {news : List (Addr × Obj)} (l1 : ∀ p ∈ news, p.1 < d) (l2 : d < x) : ∀ p ∈ news, p.1 ∉ [(x, a), (d, b)].map (·.1) := fun p hp hm => by
  have z : p.1 < d := l1 p hp
  have hm' : p.1 ∈ [x, d] := hm
  rcases List.mem_cons.mp hm' with e | hm'
  · exact absurd (Nat.lt_trans z l2) (by rw [e]; exact Nat.lt_irrefl _)
  · exact absurd z (by rw [List.mem_singleton.mp hm']; exact Nat.lt_irrefl _)
theorem frame_back {h₀ g h₁ h' : Heap} {L L' : Addr} {m' : Str → Option Value} {n0 n1 rest all : List (Addr × Obj)} (N₀ : News h₀ L h₁ all) (hs : ∀ p ∈ rest, p ∈ all) (G : GSub h₁ g (n0.map (·.1))) (hd : ∀ p ∈ rest, p.1 ∉ n0.map (·.1)) (F' : Fr g L' h' m') (kN : News h₀ L h' n1) : News h₀ L h' (n1 ++ rest) := fun p hp => by
  rcases List.mem_append.mp hp with hp | hp
  · exact kN p hp
  · have z := N₀ p (hs p hp)
    exact ⟨F'.keep _ _ (G _ _ z.1 (hd p hp)), z.2⟩
local macro_rules | `(tactic| cell_enter) => `(tactic| (refine' code_defG ?k1 ?k2 ?k3 ?k4 ?k5 ?kA ?kF ?kK ?k6 ?k7 ?k8 ?k9 ?kB ?_ ?c2 ?c3 ?c4 ?c5; (case kA => exact rfl); (case kF => exact rfl); (case kK => first | exact rfl | assumption); (case k1 => k_asm); (case k2 => k_asm); (case k3 => k_asm); (case k4 => k_asm); (case k5 => k_asm); (case k6 => k_is); (case k7 => k_is); (case k8 => ktr_room); (case k9 => first | exact BindsTo.of_eq rfl | exact binds_K (by k_in) rfl (by k_is) rfl rfl rfl); (case c5 => decide); (case kB => exact locs rfl); (case c2 => exact rfl); (case c3 => exact rfl); (case c4 => exact rfl); k_whole; intro g' L' h' FG' F' N' B' X' T' kG'; (try dsimp only); (try k_lift B'); (try k_fold)))
def RuleD (P : Params) (v0 v1 v2 : Value) (o : Obj) : Prop := ∃ (t0 t1 t2 : Tok), o = dictOf [ent P "width" t0 v0, ent P "height" t1 v1, ent P "depth" t2 v2] 3
inductive JoinInt (h₀ : Heap) (L : Addr) (m : Str → Option Value) (s₀ : Shared) (S : Int → List (Addr × Obj) → Prop) : Value → Shared → Prop
  | intro (k : Int) (t : Tok) (news' : List (Addr × Obj)) (h' : Heap) (tk' : Nat) : Fr h₀ L h' m → News h₀ L h' news' → S k news' → JoinInt h₀ L m s₀ S (.int k t) { s₀ with heap := h', toks := tk' }
theorem join_int {M : Model} {A : Around} {env : Env} {E : Value → Shared → Prop} {s : Shared} {h₀ : Heap} {L : Addr} {m : Str → Option Value} {e : Expr} {Q : Value → Shared → Prop} (S : Int → List (Addr × Obj) → Prop)
    (h1 : wpAny M A (eval e env) (JoinInt h₀ L m s S) E s) (h2 : ∀ k t news' h' tk', Fr h₀ L h' m → News h₀ L h' news' → S k news' → Q (.int k t) { s with heap := h', toks := tk' }) : wpAny M A (eval e env) Q E s :=
  wpAny_mono h1 (fun v s' z => by
    obtain ⟨k, t, nw, h', tk', a, b, c⟩ := z
    exact h2 k t nw h' tk' a b c) fun _ _ z => z
inductive JoinSt (h₀ : Heap) (L : Addr) (m : Str → Option Value) (s₀ : Shared) (led : List (Addr × Obj)) : Flow → Shared → Prop
  | intro (h' : Heap) (tk' : Nat) : Fr h₀ L h' m → News h₀ L h' led → JoinSt h₀ L m s₀ led .next { s₀ with heap := h', toks := tk' }
theorem join_st {M : Model} {A : Around} {env : Env} {E : Value → Shared → Prop} {s : Shared} {h₀ : Heap} {L : Addr} {m : Str → Option Value} {c : Stmt} {Q : Flow → Shared → Prop} {led : List (Addr × Obj)} {v : Value}
    (F : Fr h₀ L s.heap m) (N : News h₀ L s.heap led) (hx : m (Str.ofString "size") = some v) (hS : SizeV v)
    (h1 : v = .none → wpAny M A (exec c env) (JoinSt h₀ L m s led) E s) (h1' : ∀ k t, v = .int k t → -5 ≤ k → k ≤ 12 → wpAny M A (exec c env) (JoinSt h₀ L m s led) E s)
    (h2 : ∀ h' tk', Fr h₀ L h' m → News h₀ L h' led → Q .next { s with heap := h', toks := tk' }) : wpAny M A (exec c env) Q E s := by
  have key : wpAny M A (exec c env) (JoinSt h₀ L m s led) E s := by
    rcases hS with e | ⟨k, t, e, a, b⟩
    · exact h1 e
    · exact h1' k t e a b
  exact wpAny_mono key (fun v s' z => by
    obtain ⟨h', tk', a, b⟩ := z
    exact h2 h' tk' a b) fun _ _ z => z
local macro_rules | `(tactic| walk_at "JoinSt") => `(tactic| (k_dflt (refine' JoinSt.intro _ _ ?F ?N; (case F => k_asm); (case N => k_asm))))
local macro_rules | `(tactic| walk_at "exec If") => `(tactic| k_extra "Q exec If")
theorem words_C4_1 : True := by
  k_with "Q exec If" => (k_here; (fail_if_success (with_reducible show wpAny _ _ _ (JoinSt _ _ _ _ _) _ _)); k_dflt (apply join_st; (case F => k_asm); (case N => k_asm); (case hx => exact rfl); (case hS => assumption); k_whole); all_goals (first | (intro e9; subst e9; (try dsimp only); (try k_fold)) | (intro k9 t9 e9 a9 b9; subst e9; (try dsimp only); (try k_fold)) | (intro h9 tk9 F9 N9; (try dsimp only); (try k_fold))))
  trivial
theorem rule_spec (w : World) (v0 v1 v2 : Value) (news : List (Addr × Obj)) (h0 : SizeV v0) (h1 : SizeV v1) (h2 : SizeV v2) :
    CallC w 260 [v0, v1, v2] news 4 (fun r news' => ∃ (x dx : Addr) (od : Obj), r = .ref x ∧ RuleD w.params v0 v1 v2 od ∧ (∀ p ∈ news, p.1 < dx) ∧ dx < x ∧ news' = (x, instObj 260 dx) :: (dx, od) :: news) := by
  w_on
  unfold CallC
  k_fill
  intro loose mean mg mb dp un gd cn cs a ccd cl outer A₀ base h₀ L m s Q E B' F X N T hk hd hu ret
  k_dflt (refine' call_cls ?k1 ?k2 ?k3 ?k4 ?k5 ?k6 ?_; (case k1 => k_asm); (case k2 => k_asm); (case k3 => k_asm); (case k4 => k_is); (case k5 => k_is); (case k6 => k_is); k_whole)
  intro x' d' h' F' N' l1 l2
  k_lt2 l2
  have N0 : News h₀ L h' [(x', instObj 260 d'), (d', dictOf [] 0)] := fun p hp => N' p (List.mem_append_left _ hp)
  have hdj := off2 (a := instObj 260 d') (b := dictOf [] 0) l1 l2
  k_dflt cell_enter
  k_steps
  ((with_reducible rename News _ _ _ _ => kN); exact ret _ _ _ _ ⟨x', d', _, rfl, ⟨_, _, _, rfl⟩, l1, l2, rfl⟩ (by k_asm) (frame_back (n1 := [(x', instObj 260 d'), (d', _)]) N' (fun p hp => List.mem_cons_of_mem _ (List.mem_cons_of_mem _ hp)) (by assumption) hdj (by k_asm) (fun p hp => kN p (List.mem_cons_of_mem _ hp))))
end Mine
end

section
open PySem PySem.W PyProof.Rows
namespace Mine
local macro_rules | `(tactic| k_ne) => `(tactic| first | k_extra "NE" | (refine neN ?_; (try dsimp only); omega))
local macro_rules | `(tactic| walk_at "h:S1") => `(tactic| (refine' ⟨?B, ?F, ?X, ?N, ?T, ?K⟩; (case B => k_asm); (case F => k_asm); (case X => k_asm); (case N => k_asm); (case T => k_asm); (case K => first | exact rfl | assumption)))
local macro_rules | `(tactic| walk_at "h:S2") => `(tactic| (refine' ⟨?d, ?u⟩; (case d => ktr_room); (case u => ktr_units)))
local macro_rules | `(tactic| ktr_units) => `(tactic| first | exact units3 (by assumption) (by decide) | (have hcL9 := cLine_is; (simp only [units_under_make, units_in1, units_deeper, Around.mark_units, units_caller] at *); (try dsimp only [ktrTop] at *); omega))
local macro_rules | `(tactic| k_room) => `(tactic| ktr_room)
local macro_rules | `(tactic| k_all) => `(tactic| assumption)
local macro_rules | `(tactic| cell_enter) => `(tactic| (refine' code_defG ?k1 ?k2 ?k3 ?k4 ?k5 ?kA ?kF ?kK ?k6 ?k7 ?k8 ?k9 ?kB ?_ ?c2 ?c3 ?c4 ?c5; (case kA => exact rfl); (case kF => exact rfl); (case kK => first | exact rfl | assumption); (case k1 => k_asm); (case k2 => k_asm); (case k3 => k_asm); (case k4 => k_asm); (case k5 => k_asm); (case k6 => k_is); (case k7 => k_is); (case k8 => ktr_room); (case k9 => first | exact BindsTo.of_eq rfl | exact binds_K (by k_in) rfl (by k_is) rfl rfl rfl); (case c5 => decide); (case kB => exact locs rfl); (case c2 => exact rfl); (case c3 => exact rfl); (case c4 => exact rfl); k_whole; intro g' L' h' FG' F' N' B' X' T' kG'; (try dsimp only); (try k_lift B'); (try k_fold)))
local macro_rules | `(tactic| walk_at "call ref") => `(tactic| k_extra "Q call ref")

theorem words_C5_0 : True := by
  k_with_none
  k_with "PROJ" => first | exact h9.1 | exact h9 | exact h9.2.1 | exact h9.2 | exact h9.2.2.1 | exact h9.2.2 | exact h9.2.2.2.1 | exact h9.2.2.2 | exact h9.2.2.2.2.1 | exact h9.2.2.2.2 | exact h9.2.2.2.2.2.1 | exact h9.2.2.2.2.2 | exact h9.2.2.2.2.2.2.1 | exact h9.2.2.2.2.2.2 | exact h9.2.2.2.2.2.2.2.1 | exact h9.2.2.2.2.2.2.2 | exact h9.2.2.2.2.2.2.2.2.1 | exact h9.2.2.2.2.2.2.2.2 | exact h9.2.2.2.2.2.2.2.2.2.1 | exact h9.2.2.2.2.2.2.2.2.2 | exact h9.2.2.2.2.2.2.2.2.2.2.1 | exact h9.2.2.2.2.2.2.2.2.2.2 | exact h9.2.2.2.2.2.2.2.2.2.2.2.1 | exact h9.2.2.2.2.2.2.2.2.2.2.2 | exact h9.2.2.2.2.2.2.2.2.2.2.2.2.1 | exact h9.2.2.2.2.2.2.2.2.2.2.2.2 | exact h9.2.2.2.2.2.2.2.2.2.2.2.2.2.1 | exact h9.2.2.2.2.2.2.2.2.2.2.2.2.2 | exact h9.2.2.2.2.2.2.2.2.2.2.2.2.2.2.1 | exact h9.2.2.2.2.2.2.2.2.2.2.2.2.2.2 | exact h9.2.2.2.2.2.2.2.2.2.2.2.2.2.2.2.1 | exact h9.2.2.2.2.2.2.2.2.2.2.2.2.2.2.2 | exact h9.2.2.2.2.2.2.2.2.2.2.2.2.2.2.2.2.1 | exact h9.2.2.2.2.2.2.2.2.2.2.2.2.2.2.2.2 | exact h9.2.2.2.2.2.2.2.2.2.2.2.2.2.2.2.2.2.1 | exact h9.2.2.2.2.2.2.2.2.2.2.2.2.2.2.2.2.2 | exact h9.2.2.2.2.2.2.2.2.2.2.2.2.2.2.2.2.2.2.1 | exact h9.2.2.2.2.2.2.2.2.2.2.2.2.2.2.2.2.2.2 | exact h9.2.2.2.2.2.2.2.2.2.2.2.2.2.2.2.2.2.2.2.1 | exact h9.2.2.2.2.2.2.2.2.2.2.2.2.2.2.2.2.2.2.2 | exact h9.2.2.2.2.2.2.2.2.2.2.2.2.2.2.2.2.2.2.2.2.1 | exact h9.2.2.2.2.2.2.2.2.2.2.2.2.2.2.2.2.2.2.2.2 | exact h9.2.2.2.2.2.2.2.2.2.2.2.2.2.2.2.2.2.2.2.2.2.1 | exact h9.2.2.2.2.2.2.2.2.2.2.2.2.2.2.2.2.2.2.2.2.2 | exact h9.2.2.2.2.2.2.2.2.2.2.2.2.2.2.2.2.2.2.2.2.2.2.1 | exact h9.2.2.2.2.2.2.2.2.2.2.2.2.2.2.2.2.2.2.2.2.2.2 | exact h9.2.2.2.2.2.2.2.2.2.2.2.2.2.2.2.2.2.2.2.2.2.2.2.1 | exact h9.2.2.2.2.2.2.2.2.2.2.2.2.2.2.2.2.2.2.2.2.2.2.2 | exact h9.2.2.2.2.2.2.2.2.2.2.2.2.2.2.2.2.2.2.2.2.2.2.2.2.1 | exact h9.2.2.2.2.2.2.2.2.2.2.2.2.2.2.2.2.2.2.2.2.2.2.2.2
  k_with "NE" => ((try refine neN ?_); (try dsimp only); first
    | assumption
    | exact Ne.symm (by assumption)
    | exact Nat.ne_of_lt (by assumption)
    | exact Nat.ne_of_gt (by assumption)
    | exact off_ne1 _
    | exact Ne.symm (off_ne1 _)
    | exact off_ne2 _
    | exact Ne.symm (off_ne2 _)
    | exact off_ne3 _
    | exact Ne.symm (off_ne3 _)
    | exact off_ne4 _
    | exact Ne.symm (off_ne4 _)
    | exact off_ne5 _
    | exact Ne.symm (off_ne5 _)
    | (refine succ_ne ?_; k_extra "NE")
    | (refine ne_cr (by assumption) ?_; intro h9; k_extra "PROJ")
    | (refine ne_cl (by assumption) ?_; intro h9; k_extra "PROJ")
    | (refine lt_cr (by assumption) ?_; intro h9; k_extra "PROJ")
    | (refine lt_cl (by assumption) ?_; intro h9; k_extra "PROJ")
    | (refine lt_off1 ?_; first | assumption | (refine lt_c (by assumption) ?_; intro h9; k_extra "PROJ"))
    | (refine Ne.symm (lt_off1 ?_); first | assumption | (refine lt_c (by assumption) ?_; intro h9; k_extra "PROJ"))
    | (refine lt_off2 ?_; first | assumption | (refine lt_c (by assumption) ?_; intro h9; k_extra "PROJ"))
    | (refine Ne.symm (lt_off2 ?_); first | assumption | (refine lt_c (by assumption) ?_; intro h9; k_extra "PROJ"))
    | (refine lt_off3 ?_; first | assumption | (refine lt_c (by assumption) ?_; intro h9; k_extra "PROJ"))
    | (refine Ne.symm (lt_off3 ?_); first | assumption | (refine lt_c (by assumption) ?_; intro h9; k_extra "PROJ"))
    | (refine lt_off4 ?_; first | assumption | (refine lt_c (by assumption) ?_; intro h9; k_extra "PROJ"))
    | (refine Ne.symm (lt_off4 ?_); first | assumption | (refine lt_c (by assumption) ?_; intro h9; k_extra "PROJ"))
    | (refine lt_off5 ?_; first | assumption | (refine lt_c (by assumption) ?_; intro h9; k_extra "PROJ"))
    | (refine Ne.symm (lt_off5 ?_); first | assumption | (refine lt_c (by assumption) ?_; intro h9; k_extra "PROJ")))
  k_with "Q call ref" => (k_here; (with_reducible show wpAny _ _ (call (Value.ref 103) [Value.int _ _] _) _ _ _); k_dflt (apply CallC.go; (case S1 => walk_at "h:S1"); (case C => (apply cdim_spec; (first | (case h1 => first | decide | omega) | (· (first | decide | omega))); (first | (case h2 => first | decide | omega) | (· (first | decide | omega))))); (case S2 => walk_at "h:S2"); k_whole); intro r9 news9 h9 tk9 p9 F9 N9; obtain ⟨e9, n9⟩ := p9; subst e9; subst n9; (try k_sweep); (try dsimp only); (try k_fold))
  trivial
theorem glue_spec (w : World) (news : List (Addr × Obj)) :
    CallC w 206 [] news 4 (fun r news' => ∃ (x : Addr), r = .ref x ∧ news' = news) := by
  w_on
  unfold CallC
  k_fill
  intro loose mean mg mb dp un gd cn cs a ccd cl outer A₀ base h₀ L m s Q E B' F X N T hk hd hu ret
  k_dflt (refine' call_cls ?k1 ?k2 ?k3 ?k4 ?k5 ?k6 ?_; (case k1 => k_asm); (case k2 => k_asm); (case k3 => k_asm); (case k4 => k_is); (case k5 => k_is); (case k6 => k_is); k_whole)
  intro x' d' h' F' N' l1 l2
  k_lt2 l2
  have N0 : News h₀ L h' [(x', instObj 206 d'), (d', dictOf [] 0)] := fun p hp => N' p (List.mem_append_left _ hp)
  have hdj := off2 (a := instObj 206 d') (b := dictOf [] 0) l1 l2
  k_dflt cell_enter
  k_steps
  all_goals exact ret _ _ _ _ ⟨x', rfl, rfl⟩ (by k_asm) (frame_back (n1 := []) N' (fun p hp => List.mem_cons_of_mem _ (List.mem_cons_of_mem _ hp)) (by assumption) hdj (by k_asm) (fun p hp => nomatch hp))

theorem frame_keep {h₀ g h₁ h' : Heap} {L L' : Addr} {m' : Str → Option Value} {adr : List Addr} {n1 n2 rest all : List (Addr × Obj)} (N₀ : News h₀ L h₁ all) (hs : ∀ p ∈ rest, p ∈ all) (G : GSub h₁ g adr) (F' : Fr g L' h' m') (kN : News h₀ L h' n2) (h1 : ∀ p ∈ n1, p ∈ n2)
    (hq : ∀ p ∈ rest, p.1 ∈ adr → ∃ o, (p.1, o) ∈ all ∧ (p.1, o) ∈ n2) : News h₀ L h' (n1 ++ rest) := fun p hp => by
  rcases List.mem_append.mp hp with hp | hp
  · exact kN p (h1 p hp)
  · have z := N₀ p (hs p hp)
    by_cases hm : p.1 ∈ adr
    · obtain ⟨o, ho, hn⟩ := hq p hp hm
      have z2 := N₀ _ ho
      have e : some p.2 = some o := z.1.symm.trans z2.1
      have y := kN _ hn
      exact ⟨by rw [e]; exact y.1, z.2⟩
    · exact ⟨F'.keep _ _ (G _ _ z.1 hm), z.2⟩
theorem quad {x d a b : Addr} {oa ob : Obj} {news all n2 : List (Addr × Obj)} (l1 : ∀ p ∈ news, p.1 < d) (l2 : d < x) (ha : (a, oa) ∈ all) (hb : (b, ob) ∈ all) (ha2 : (a, oa) ∈ n2) (hb2 : (b, ob) ∈ n2) :
    ∀ p ∈ news, p.1 ∈ [x, d, a, b] → ∃ o, (p.1, o) ∈ all ∧ (p.1, o) ∈ n2 := fun p hp hm => by
  have z : p.1 < d := l1 p hp
  rcases List.mem_cons.mp hm with e | hm
  · exact absurd (Nat.lt_trans z l2) (by rw [e]; exact Nat.lt_irrefl _)
  rcases List.mem_cons.mp hm with e | hm
  · exact absurd z (by rw [e]; exact Nat.lt_irrefl _)
  rcases List.mem_cons.mp hm with e | hm
  · rw [e]; exact ⟨_, ha, ha2⟩
  · rw [List.mem_singleton.mp hm]; exact ⟨_, hb, hb2⟩
def SkipD (P : Params) (so : Int) (lv : Value) (o : Obj) : Prop := ∃ (t0 t1 t2 s1 : Tok) (gv : Value), o = dictOf [ent P "glue" t0 gv, ent P "sort" t1 (.int so s1), ent P "leader" t2 lv] 3
theorem skipB_spec (w : World) (gl lx ldx : Addr) (so : Int) (t : Tok) (lod : Obj) (k wd ht dp_ : Int) (news : List (Addr × Obj)) (hs1 : 1 ≤ so) (hs3 : so ≤ 3) (m1 : (lx, instObj 239 ldx) ∈ news) (m2 : (ldx, lod) ∈ news) (hB : BoxD w.params k wd ht dp_ lod) (hk2 : 2 ≤ k) (hk3 : k ≤ 3) :
    CallC w 282 [.ref gl, .int so t, .ref lx] news 4 (fun r news' => ∃ (x dx : Addr) (od : Obj), r = .ref x ∧ SkipD w.params so (.ref lx) od ∧ (∀ p ∈ news, p.1 < dx) ∧ dx < x ∧ news' = (x, instObj 282 dx) :: (dx, od) :: news) := by
  w_on
  unfold CallC
  k_fill
  intro loose mean mg mb dp un gd cn cs a ccd cl outer A₀ base h₀ L m s Q E B' F X N T hk hd hu ret
  obtain ⟨t0, t1, t2, t3, t4, t5, t6, t7, t8, s0, s1, s2, s3, v4, v5, v6, v7, v8, rfl⟩ := hB
  k_dflt (refine' call_cls ?k1 ?k2 ?k3 ?k4 ?k5 ?k6 ?_; (case k1 => k_asm); (case k2 => k_asm); (case k3 => k_asm); (case k4 => k_is); (case k5 => k_is); (case k6 => k_is); k_whole)
  intro x' d' h' F' N' l1 l2
  k_lt2 l2
  have N0 : News h₀ L h' [(x', instObj 282 d'), (d', dictOf [] 0), (lx, instObj 239 ldx), (ldx, _)] := fun p hp => by
    rcases List.mem_cons.mp hp with e | hp
    · exact N' p (e ▸ .head _)
    rcases List.mem_cons.mp hp with e | hp
    · exact N' p (e ▸ .tail _ (.head _))
    rcases List.mem_cons.mp hp with e | hp
    · exact N' p (e ▸ .tail _ (.tail _ m1))
    · exact N' p (List.mem_singleton.mp hp ▸ .tail _ (.tail _ m2))
  have a1 : lx < d' := l1 _ m1
  have a2 : ldx < d' := l1 _ m2
  k_lt2 a1
  k_lt2 a2
  k_dflt cell_enter
  k_steps
  · exfalso; rename_i hbad; revert hbad; rw [decide_eq_true hs3]; decide
  (with_reducible rename News _ _ _ _ => kN)
  exact ret _ _ _ _ ⟨x', d', _, rfl, ⟨_, _, _, _, _, rfl⟩, l1, l2, rfl⟩ (by k_asm) (frame_keep (n1 := [(x', instObj 282 d'), (d', _)]) N' (fun p hp => List.mem_cons_of_mem _ (List.mem_cons_of_mem _ hp)) (by assumption) (by k_asm) kN
    (List.forall_mem_cons.mpr ⟨by k_mem, List.forall_mem_cons.mpr ⟨by k_mem, List.forall_mem_nil _⟩⟩) (quad l1 l2 (.tail _ (.tail _ m1)) (.tail _ (.tail _ m2)) (by k_mem) (by k_mem)))

theorem skipR_spec (w : World) (gl lx ldx : Addr) (so : Int) (t : Tok) (lod : Obj) (v0 v1 v2 : Value) (news : List (Addr × Obj)) (hs1 : 1 ≤ so) (hs3 : so ≤ 3) (m1 : (lx, instObj 260 ldx) ∈ news) (m2 : (ldx, lod) ∈ news) (hB : RuleD w.params v0 v1 v2 lod) :
    CallC w 282 [.ref gl, .int so t, .ref lx] news 4 (fun r news' => ∃ (x dx : Addr) (od : Obj), r = .ref x ∧ SkipD w.params so (.ref lx) od ∧ (∀ p ∈ news, p.1 < dx) ∧ dx < x ∧ news' = (x, instObj 282 dx) :: (dx, od) :: news) := by
  w_on
  unfold CallC
  k_fill
  intro loose mean mg mb dp un gd cn cs a ccd cl outer A₀ base h₀ L m s Q E B' F X N T hk hd hu ret
  obtain ⟨t0, t1, t2, rfl⟩ := hB
  k_dflt (refine' call_cls ?k1 ?k2 ?k3 ?k4 ?k5 ?k6 ?_; (case k1 => k_asm); (case k2 => k_asm); (case k3 => k_asm); (case k4 => k_is); (case k5 => k_is); (case k6 => k_is); k_whole)
  intro x' d' h' F' N' l1 l2
  k_lt2 l2
  have N0 : News h₀ L h' [(x', instObj 282 d'), (d', dictOf [] 0), (lx, instObj 260 ldx), (ldx, _)] := fun p hp => by
    rcases List.mem_cons.mp hp with e | hp
    · exact N' p (e ▸ .head _)
    rcases List.mem_cons.mp hp with e | hp
    · exact N' p (e ▸ .tail _ (.head _))
    rcases List.mem_cons.mp hp with e | hp
    · exact N' p (e ▸ .tail _ (.tail _ m1))
    · exact N' p (List.mem_singleton.mp hp ▸ .tail _ (.tail _ m2))
  have a1 : lx < d' := l1 _ m1
  have a2 : ldx < d' := l1 _ m2
  k_lt2 a1
  k_lt2 a2
  k_dflt cell_enter
  k_steps
  · exfalso; rename_i hbad; revert hbad; rw [decide_eq_true hs3]; decide
  (with_reducible rename News _ _ _ _ => kN)
  exact ret _ _ _ _ ⟨x', d', _, rfl, ⟨_, _, _, _, _, rfl⟩, l1, l2, rfl⟩ (by k_asm) (frame_keep (n1 := [(x', instObj 282 d'), (d', _)]) N' (fun p hp => List.mem_cons_of_mem _ (List.mem_cons_of_mem _ hp)) (by assumption) (by k_asm) kN
    (List.forall_mem_cons.mpr ⟨by k_mem, List.forall_mem_cons.mpr ⟨by k_mem, List.forall_mem_nil _⟩⟩) (quad l1 l2 (.tail _ (.tail _ m1)) (.tail _ (.tail _ m2)) (by k_mem) (by k_mem)))
end Mine
end

section
open PySem PySem.W PyProof.Rows
namespace Mine
local macro_rules | `(tactic| k_ne) => `(tactic| first | k_extra "NE" | (refine neN ?_; (try dsimp only); omega))
local macro_rules | `(tactic| walk_at "h:S1") => `(tactic| (refine' ⟨?B, ?F, ?X, ?N, ?T, ?K⟩; (case B => k_asm); (case F => k_asm); (case X => k_asm); (case N => k_asm); (case T => k_asm); (case K => first | exact rfl | assumption)))
local macro_rules | `(tactic| walk_at "h:S2") => `(tactic| (refine' ⟨?d, ?u⟩; (case d => ktr_room); (case u => ktr_units)))
open PySem.Calls PySem.Spec
/-- a def with cells is entered; what stands in the heap beside the ledger is told of (GSub), so that it can be carried over the call -/
theorem cells_enterG {prog : Program} {w : World} {A₀ A : Around} {s : Shared} {base h₀ : Heap} {outer : List Env} {L : Addr} {m mg mb : Str → Option Value} {env : Env} {news : List (Addr × Obj)} {K : Frag} {p : Program} {loose : List Str} {mean : ExcName → Option Value}
    {R : Result → Shared → Prop} {name qual : Str} {params : Arguments} {body : List Stmt} {scope : Scope} {dV kV doc pm cdv ct oc : Value} {an od : Option Addr} {osl : Array (Option Value)} {f : Addr} {args : Args} {binds : List (Str × Value)}
    (B : Below A₀ base outer h₀) (F : Fr h₀ L s.heap m) (X₀ : K.In h₀) (N : News h₀ L s.heap news) (T : Top p loose mean mg mb h₀) (hA : A.frames = some (env :: outer)) (hf : env.frame = some L) (hke : env.scope.kind = .function)
    (ho : K.lookup f = some ⟨oc, od, .func (fnOf name qual params body scope dV kV doc pm an cdv ct), osl⟩) (hcd : codeIn K cdv qual = true) (hroom : A.depth < recursionLimit)
    (hbind : BindsTo s (fnOf name qual params body scope dV kV doc pm an cdv ct) args binds) (hkind : (binds.all fun y => scope.names.lookup y.1 == some .local || scope.names.lookup y.1 == some .cell) = true)
    (hnd : ((cellsFrom 0 scope.names []).map (·.1)).Nodup)
    (h : ∀ g L' h₁ tk cells, Fr h₀ L g m → Fr g L' h₁ (bindL (envOfC qual scope L' f cdv).kindOf binds fun _ => none) → News g L' h₁ (cells ++ news) →
      CellsAre (bindC (envOfC qual scope L' f cdv).kindOf binds fun _ => none) (cellsFrom (L' + 1) scope.names []) cells → Below A base (env :: outer) g → K.In g → Top p loose mean mg mb g → (∀ q ∈ news, q.1 < L') → GSub s.heap g (news.map (·.1)) →
      wpAny (model prog w) (A.deeper (envOfC qual scope L' f cdv)) (execs body (envOfC qual scope L' f cdv))
        (fun fl s' => LeaveK h₀ L m g R (match fl with | .ret v => v | _ => .none) s')
        (fun e s' => wpAny (model prog w) (A.deeper (envOfC qual scope L' f cdv)) (leaving (envOfC qual scope L' f cdv) e) (fun _ s'' => R (.error e) s'') (fun e' s'' => R (.error e') s'') s')
        { s with heap := h₁, toks := tk })
    (hco : scope.isCoroutine = false) (hgen : scope.isGenerator = false) (hk : scope.kind = .function) : codeAny (model prog w) A (.call (.ref f) args) R s := by
  have ground := groundX (R := R) B F N hA hf hke
  have hfn := (X₀.keeps F.keep) _ _ ho
  refine codeAny_call_function hroom hfn rfl hco hgen rfl (codeRec_of (X₀.keeps F.keep) hcd) (hbind _ _ _ _ ?_)
  refine wpAny_newFunctionEnv_cells hk (kindsX hkind _) fun env' he s' x => ?_
  subst he
  have keep₁ := x.toInCall.keep
  refine ⟨(T.nolimit.keeps F.keep).keeps keep₁, codeAny_func ?_⟩
  obtain ⟨h₁, tk, rfl, _⟩ := x.done
  have laid := Cl.news (h₀ := s.heap) (Nat.le_refl _) (cm := _) (cs := cellsFrom (s.heap.objs.size + 1) scope.names []) fun n c hm =>
    ⟨x.cell n c (lookup_of_mem_nodup (cellsFrom_names scope.names 0 (s.heap.objs.size + 1) [] [] rfl ▸ hnd) hm), x.above n c hm⟩
  obtain ⟨cells, NC, Y⟩ := laid
  have inner : Fr (hideAll s.heap (news.map (·.1))) s.heap.objs.size h₁ _ := ⟨x.toInCall.ns, fun b o e => keep₁ b o (of_hideAll _ e), Nat.le_of_eq (hideAll_size _ _)⟩
  have led : News (hideAll s.heap (news.map (·.1))) s.heap.objs.size h₁ (cells ++ news) := by
    intro q hq
    cases List.mem_append.mp hq with
    | inl hc =>
      have z := NC q hc
      refine ⟨z.1, z.2.1, ?_⟩
      cases e : (hideAll s.heap (news.map (·.1))).get? q.1 with
      | none => rfl
      | some o => have y := of_hideAll _ e; rw [z.2.2] at y; cases y
    | inr hc => exact ⟨keep₁ _ _ (N q hc).1, Nat.ne_of_lt (Heap.lt_size (N q hc).1), hideAll_none _ (List.mem_map_of_mem hc)⟩
  exact wpAny_mono (h _ s.heap.objs.size h₁ tk cells ground.1 inner led Y ground.2.1 (X₀.keeps ground.2.2.1) (T.keeps ground.2.2.1) (fun q hq => Heap.lt_size (N q hq).1) (fun b o e n => hideAll_get _ e n))
    (fun fl s' hl => ground.2.2.2 _ _ hl) fun _ _ y => y
end Mine
end

section
open PySem PySem.W PyProof.Rows
namespace Mine
local macro_rules | `(tactic| k_ne) => `(tactic| first | k_extra "NE" | (refine neN ?_; (try dsimp only); omega))
local macro_rules | `(tactic| walk_at "h:S1") => `(tactic| (refine' ⟨?B, ?F, ?X, ?N, ?T, ?K⟩; (case B => k_asm); (case F => k_asm); (case X => k_asm); (case N => k_asm); (case T => k_asm); (case K => first | exact rfl | assumption)))
local macro_rules | `(tactic| walk_at "h:S2") => `(tactic| (refine' ⟨?d, ?u⟩; (case d => ktr_room); (case u => ktr_units)))
local macro_rules | `(tactic| ktr_units) => `(tactic| first | exact units3 (by assumption) (by decide) | (have hcL9 := cLine_is; (simp only [units_under_make, units_in1, units_deeper, Around.mark_units, units_caller] at *); (try dsimp only [ktrTop] at *); omega))
local macro_rules | `(tactic| k_room) => `(tactic| ktr_room)
local macro_rules | `(tactic| k_all) => `(tactic| assumption)
local macro_rules | `(tactic| cell_enter) => `(tactic| (refine' code_defG ?k1 ?k2 ?k3 ?k4 ?k5 ?kA ?kF ?kK ?k6 ?k7 ?k8 ?k9 ?kB ?_ ?c2 ?c3 ?c4 ?c5; (case kA => exact rfl); (case kF => exact rfl); (case kK => first | exact rfl | assumption); (case k1 => k_asm); (case k2 => k_asm); (case k3 => k_asm); (case k4 => k_asm); (case k5 => k_asm); (case k6 => k_is); (case k7 => k_is); (case k8 => ktr_room); (case k9 => first | exact BindsTo.of_eq rfl | exact binds_K (by k_in) rfl (by k_is) rfl rfl rfl); (case c5 => decide); (case kB => exact locs rfl); (case c2 => exact rfl); (case c3 => exact rfl); (case c4 => exact rfl); k_whole; intro g' L' h' FG' F' N' B' X' T' kG'; (try dsimp only); (try k_lift B'); (try k_fold)))

theorem cells5 {cm : Str → Option Value} {n1 n2 n3 n4 n5 : Str} {c1 c2 c3 c4 c5 : Addr} {cells : List (Addr × Obj)} (x : CellsAre cm [(n1, c1), (n2, c2), (n3, c3), (n4, c4), (n5, c5)] cells) :
    ∃ o1 o2 o3 o4 o5, cells = [(c1, o1), (c2, o2), (c3, o3), (c4, o4), (c5, o5)] ∧ o1.data = .cell (cm n1) ∧ o2.data = .cell (cm n2) ∧ o3.data = .cell (cm n3) ∧ o4.data = .cell (cm n4) ∧ o5.data = .cell (cm n5) := by
  cases x with | cons h1 x => cases x with | cons h2 x => cases x with | cons h3 x => cases x with | cons h4 x => obtain ⟨o5, rfl, h5⟩ := x.one; exact ⟨_, _, _, _, o5, rfl, h1, h2, h3, h4, h5⟩
def plBetw (sz W : Int) : Int := (sz.fmod W).fdiv (sz.fdiv W + 1)
def plCnt (so bg sz ed W : Int) : Nat := if so = 1 then ((bg + sz - (ed - (ed - bg).fdiv W * W)).fdiv W).toNat else (sz.fdiv W).toNat
def plFirst (so bg sz ed W : Int) : Int := if so = 1 then ed - (ed - bg).fdiv W * W else if so = 2 then bg + (sz.fmod W).fdiv 2 else bg + (sz.fmod W - (sz.fdiv W - 1) * plBetw sz W).fdiv 2
def plStep (so sz W : Int) : Int := if so = 3 then W + plBetw sz W else W
def places (so bg sz ed W : Int) : List Int := if W ≤ 0 ∨ sz ≤ 0 then [] else (rangeKs 0 (plCnt so bg sz ed W)).map fun k => plFirst so bg sz ed W + plStep so sz W * k

theorem pl1 {bg sz ed W : Int} (hW : 0 < W) (hz : 0 < sz) : places 1 bg sz ed W = List.map (fun k' => ed - (ed - bg).fdiv W * W + W * k') (rangeKs 0 ((if (bg + sz - (ed - (ed - bg).fdiv W * W)).fdiv W > 0 then (bg + sz - (ed - (ed - bg).fdiv W * W)).fdiv W else 0) - 0).toNat) := by
  unfold places plCnt plFirst plStep
  rw [if_neg (by omega), if_pos rfl, if_pos rfl, if_neg (by decide)]
  congr 2
  split <;> omega
theorem pl2 {bg sz ed W : Int} (hW : 0 < W) (hz : 0 < sz) : places 2 bg sz ed W = List.map (fun k' => bg + (sz.fmod W).fdiv 2 + W * k') (rangeKs 0 (sz.fdiv W - 0).toNat) := by
  unfold places plCnt plFirst plStep
  rw [if_neg (by omega)]
  simp only [Int.reduceEq, reduceIte, Int.sub_zero]
theorem pl3 {bg sz ed W : Int} (hW : 0 < W) (hz : 0 < sz) : places 3 bg sz ed W = List.map (fun k' => bg + (sz.fmod W - (sz.fdiv W - 1) * (sz.fmod W).fdiv (sz.fdiv W + 1)).fdiv 2 + (W + (sz.fmod W).fdiv (sz.fdiv W + 1)) * k') (rangeKs 0 (sz.fdiv W - 0).toNat) := by
  unfold places plCnt plFirst plStep plBetw
  rw [if_neg (by omega)]
  simp only [Int.reduceEq, reduceIte, Int.sub_zero]
theorem quad4 {a b c d : Addr} {oa ob oc od : Obj} {news n2 : List (Addr × Obj)} (ha : (a, oa) ∈ news) (hb : (b, ob) ∈ news) (hc : (c, oc) ∈ news) (hd : (d, od) ∈ news) (ha2 : (a, oa) ∈ n2) (hb2 : (b, ob) ∈ n2) (hc2 : (c, oc) ∈ n2) (hd2 : (d, od) ∈ n2) :
    ∀ p ∈ news, p.1 ∈ [a, b, c, d] → ∃ o, (p.1, o) ∈ news ∧ (p.1, o) ∈ n2 := fun p hp hm => by
  rcases List.mem_cons.mp hm with e | hm
  · rw [e]; exact ⟨_, ha, ha2⟩
  rcases List.mem_cons.mp hm with e | hm
  · rw [e]; exact ⟨_, hb, hb2⟩
  rcases List.mem_cons.mp hm with e | hm
  · rw [e]; exact ⟨_, hc, hc2⟩
  · rw [List.mem_singleton.mp hm]; exact ⟨_, hd, hd2⟩
theorem if_f {α : Type} {up : Bool} {x y : α} (h : up = false) : (if up = true then x else y) = y := by subst h; rfl
theorem join_wide {M : Model} {A : Around} {env : Env} {E : Value → Shared → Prop} {s : Shared} {h₀ : Heap} {L : Addr} {m : Str → Option Value} {e : Expr} {Q : Value → Shared → Prop} {led : List (Addr × Obj)} {up : Bool} {W x y : Int}
    (_ : Fr h₀ L s.heap m) (_ : News h₀ L s.heap led) (hW : W = if up = true then x else y)
    (h1 : wpAny M A (eval e env) (JoinInt h₀ L m s (fun k nw => k = (if up = true then x else y) ∧ nw = led)) E s)
    (h2 : ∀ t h' tk', Fr h₀ L h' m → News h₀ L h' led → Q (.int W t) { s with heap := h', toks := tk' }) : wpAny M A (eval e env) Q E s :=
  join_int _ h1 fun k t nw h' tk' a b c => by
    obtain ⟨c, rfl⟩ := c
    obtain rfl : k = W := c.trans hW.symm
    exact h2 t h' tk' a b
local macro_rules | `(tactic| walk_at "JoinInt") => `(tactic| (k_dflt (refine' JoinInt.intro _ _ _ _ _ ?F ?N ?S; (case F => k_asm); (case N => k_asm); (case S => (refine ⟨?_, rfl⟩; first | exact (if_pos (by assumption)).symm | exact (if_f (by assumption)).symm)))))
local macro_rules | `(tactic| walk_at "eval IfExp") => `(tactic| k_extra "Q eval IfExp")
theorem words_C6_0 : True := by
  k_with_none
  k_with "PROJ" => first | exact h9.1 | exact h9 | exact h9.2.1 | exact h9.2 | exact h9.2.2.1 | exact h9.2.2 | exact h9.2.2.2.1 | exact h9.2.2.2 | exact h9.2.2.2.2.1 | exact h9.2.2.2.2 | exact h9.2.2.2.2.2.1 | exact h9.2.2.2.2.2 | exact h9.2.2.2.2.2.2.1 | exact h9.2.2.2.2.2.2 | exact h9.2.2.2.2.2.2.2.1 | exact h9.2.2.2.2.2.2.2 | exact h9.2.2.2.2.2.2.2.2.1 | exact h9.2.2.2.2.2.2.2.2 | exact h9.2.2.2.2.2.2.2.2.2.1 | exact h9.2.2.2.2.2.2.2.2.2 | exact h9.2.2.2.2.2.2.2.2.2.2.1 | exact h9.2.2.2.2.2.2.2.2.2.2 | exact h9.2.2.2.2.2.2.2.2.2.2.2.1 | exact h9.2.2.2.2.2.2.2.2.2.2.2 | exact h9.2.2.2.2.2.2.2.2.2.2.2.2.1 | exact h9.2.2.2.2.2.2.2.2.2.2.2.2 | exact h9.2.2.2.2.2.2.2.2.2.2.2.2.2.1 | exact h9.2.2.2.2.2.2.2.2.2.2.2.2.2 | exact h9.2.2.2.2.2.2.2.2.2.2.2.2.2.2.1 | exact h9.2.2.2.2.2.2.2.2.2.2.2.2.2.2 | exact h9.2.2.2.2.2.2.2.2.2.2.2.2.2.2.2.1 | exact h9.2.2.2.2.2.2.2.2.2.2.2.2.2.2.2 | exact h9.2.2.2.2.2.2.2.2.2.2.2.2.2.2.2.2.1 | exact h9.2.2.2.2.2.2.2.2.2.2.2.2.2.2.2.2 | exact h9.2.2.2.2.2.2.2.2.2.2.2.2.2.2.2.2.2.1 | exact h9.2.2.2.2.2.2.2.2.2.2.2.2.2.2.2.2.2 | exact h9.2.2.2.2.2.2.2.2.2.2.2.2.2.2.2.2.2.2.1 | exact h9.2.2.2.2.2.2.2.2.2.2.2.2.2.2.2.2.2.2 | exact h9.2.2.2.2.2.2.2.2.2.2.2.2.2.2.2.2.2.2.2.1 | exact h9.2.2.2.2.2.2.2.2.2.2.2.2.2.2.2.2.2.2.2 | exact h9.2.2.2.2.2.2.2.2.2.2.2.2.2.2.2.2.2.2.2.2.1 | exact h9.2.2.2.2.2.2.2.2.2.2.2.2.2.2.2.2.2.2.2.2 | exact h9.2.2.2.2.2.2.2.2.2.2.2.2.2.2.2.2.2.2.2.2.2.1 | exact h9.2.2.2.2.2.2.2.2.2.2.2.2.2.2.2.2.2.2.2.2.2 | exact h9.2.2.2.2.2.2.2.2.2.2.2.2.2.2.2.2.2.2.2.2.2.2.1 | exact h9.2.2.2.2.2.2.2.2.2.2.2.2.2.2.2.2.2.2.2.2.2.2 | exact h9.2.2.2.2.2.2.2.2.2.2.2.2.2.2.2.2.2.2.2.2.2.2.2.1 | exact h9.2.2.2.2.2.2.2.2.2.2.2.2.2.2.2.2.2.2.2.2.2.2.2 | exact h9.2.2.2.2.2.2.2.2.2.2.2.2.2.2.2.2.2.2.2.2.2.2.2.2.1 | exact h9.2.2.2.2.2.2.2.2.2.2.2.2.2.2.2.2.2.2.2.2.2.2.2.2
  k_with "NE" => ((try refine neN ?_); (try dsimp only); first
    | assumption
    | exact Ne.symm (by assumption)
    | exact Nat.ne_of_lt (by assumption)
    | exact Nat.ne_of_gt (by assumption)
    | exact off_ne1 _
    | exact Ne.symm (off_ne1 _)
    | exact off_ne2 _
    | exact Ne.symm (off_ne2 _)
    | exact off_ne3 _
    | exact Ne.symm (off_ne3 _)
    | exact off_ne4 _
    | exact Ne.symm (off_ne4 _)
    | exact off_ne5 _
    | exact Ne.symm (off_ne5 _)
    | (refine succ_ne ?_; k_extra "NE")
    | (refine ne_cr (by assumption) ?_; intro h9; k_extra "PROJ")
    | (refine ne_cl (by assumption) ?_; intro h9; k_extra "PROJ")
    | (refine lt_cr (by assumption) ?_; intro h9; k_extra "PROJ")
    | (refine lt_cl (by assumption) ?_; intro h9; k_extra "PROJ")
    | (refine lt_off1 ?_; first | assumption | (refine lt_c (by assumption) ?_; intro h9; k_extra "PROJ"))
    | (refine Ne.symm (lt_off1 ?_); first | assumption | (refine lt_c (by assumption) ?_; intro h9; k_extra "PROJ"))
    | (refine lt_off2 ?_; first | assumption | (refine lt_c (by assumption) ?_; intro h9; k_extra "PROJ"))
    | (refine Ne.symm (lt_off2 ?_); first | assumption | (refine lt_c (by assumption) ?_; intro h9; k_extra "PROJ"))
    | (refine lt_off3 ?_; first | assumption | (refine lt_c (by assumption) ?_; intro h9; k_extra "PROJ"))
    | (refine Ne.symm (lt_off3 ?_); first | assumption | (refine lt_c (by assumption) ?_; intro h9; k_extra "PROJ"))
    | (refine lt_off4 ?_; first | assumption | (refine lt_c (by assumption) ?_; intro h9; k_extra "PROJ"))
    | (refine Ne.symm (lt_off4 ?_); first | assumption | (refine lt_c (by assumption) ?_; intro h9; k_extra "PROJ"))
    | (refine lt_off5 ?_; first | assumption | (refine lt_c (by assumption) ?_; intro h9; k_extra "PROJ"))
    | (refine Ne.symm (lt_off5 ?_); first | assumption | (refine lt_c (by assumption) ?_; intro h9; k_extra "PROJ")))
  k_with "Q eval IfExp" => (k_here; (with_reducible show wpAny _ _ (eval (Expr.IfExp (Expr.Name _ _) (Expr.BinOp _ _ _ _) _ _) _) _ _ _); (fail_if_success (with_reducible show wpAny _ _ _ (JoinInt _ _ _ _ _) _ _)); k_dflt (apply join_wide; (case _ => k_asm); (case _ => k_asm); (case hW => assumption); k_whole); all_goals (try (intro t9 h9 tk9 F9 N9; (try dsimp only); (try k_fold))))
  trivial
theorem placesP_spec (w : World) (sk dsk lx ldx : Addr) (so : Int) (sod lod : Obj) (k wd ht dp_ : Int) (bg sz ed : Int) (tb ts te : Tok) (up : Bool) (W : Int) (news : List (Addr × Obj)) (hs1 : 1 ≤ so) (hs3 : so ≤ 3)
    (q1 : (sk, instObj 282 dsk) ∈ news) (q2 : (dsk, sod) ∈ news) (m1 : (lx, instObj 239 ldx) ∈ news) (m2 : (ldx, lod) ∈ news) (hS : SkipD w.params so (.ref lx) sod) (hB : BoxD w.params k wd ht dp_ lod) (hk4 : ¬ k = 4)
    (hWe : W = if up then ht + dp_ else wd) (hW : 0 < W) (hW2 : W ≤ 200) (hz : 0 < sz) (hz2 : sz ≤ 100) (z1 : -100 ≤ bg) (z2 : bg ≤ 100) (z5 : -100 ≤ ed) (z6 : ed ≤ 100)
    (c1 : 0 ≤ sz.fdiv W) (c2 : sz.fdiv W ≤ 100) (c3 : (bg + sz - (ed - (ed - bg).fdiv W * W)).fdiv W ≤ 1000) (c4 : 0 ≤ sz.fmod W) (c5 : sz.fmod W ≤ 200) (c6 : 0 ≤ (sz.fmod W).fdiv (sz.fdiv W + 1)) (c7 : (sz.fmod W).fdiv (sz.fdiv W + 1) ≤ 200) :
    CallC w 291 [.ref sk, .int bg tb, .int sz ts, .int ed te, .bool up] news 4 (fun r news' => ∃ (l : Addr) (vs : List Value) (n : Nat), r = .ref l ∧ IntsAre vs (places so bg sz ed W) ∧ news' = (l, listOf vs.toArray n) :: news) := by
  w_on
  unfold CallC
  k_fill
  intro loose mean mg mb dp un gd cn cs a ccd cl outer A₀ base h₀ L m s Q E B' F X N T hk hd hu ret
  obtain ⟨t0, t1, t2, t3, t4, t5, t6, t7, t8, s0, s1, s2, s3, v4, v5, v6, v7, v8, rfl⟩ := hB
  obtain ⟨t10, t11, t12, s11, gv, rfl⟩ := hS
  have N0 : News h₀ L s.heap [(sk, instObj 282 dsk), (dsk, _), (lx, instObj 239 ldx), (ldx, _)] := fun p hp => by
    rcases List.mem_cons.mp hp with e | hp
    · exact N p (e ▸ q1)
    rcases List.mem_cons.mp hp with e | hp
    · exact N p (e ▸ q2)
    rcases List.mem_cons.mp hp with e | hp
    · exact N p (e ▸ m1)
    · exact N p (List.mem_singleton.mp hp ▸ m2)
  have hW' : ¬ W ≤ 0 := by omega
  have hz' : ¬ sz ≤ 0 := by omega
  have c2' : ¬ sz.fdiv W > 2000 := by omega
  have c1' : ¬ sz.fdiv W + 1 = 0 := by omega
  all_goals (
    refine wpAny_call ?_
    k_dflt (refine' cells_enterG ?k1 ?k2 ?k3 ?k4 ?k5 ?kA ?kF ?kK ?k6 ?k7 ?k8 ?k9 ?kB ?kD ?_ ?c2 ?c3 ?c4; (case kA => exact rfl); (case kF => exact rfl); (case kK => assumption); (case k1 => k_asm); (case k2 => k_asm); (case k3 => k_asm); (case k4 => k_asm); (case k5 => k_asm); (case k6 => k_is); (case k7 => k_is); (case k8 => ktr_room); (case k9 => exact BindsTo.of_eq rfl); (case kB => exact rfl); (case kD => decide +kernel); (case c2 => exact rfl); (case c3 => exact rfl); (case c4 => exact rfl); k_whole)
    intro g' L' h' tk' cells' FG' F' N' Y' B' X' T' l1 kG'
    k_lt l1
    have hY := cells5 Y'
    obtain ⟨o1, o2, o3, o4, o5, hE', d1, d2, d3, d4, d5⟩ := hY
    subst hE'
    clear Y'
    simp only [List.cons_append, List.nil_append] at N'
    (try dsimp only)
    (try k_fold)
    k_steps
    · exact absurd (by assumption) hk4
    all_goals ((with_reducible rename News _ _ _ _ => kN); rename IntsAre _ _ => hI)
    all_goals refine ret _ _ _ _ ⟨_, _, _, rfl, ?_, rfl⟩ (by k_asm) (frame_keep (n1 := [(_, listOf _ _)]) N (fun p hp => hp) (by assumption) (by k_asm) kN (List.forall_mem_cons.mpr ⟨by k_mem, List.forall_mem_nil _⟩) (quad4 q1 q2 m1 m2 (by k_mem) (by k_mem) (by k_mem) (by k_mem)))
    · rw [(show so = 1 by omega), pl1 hW hz]; exact hI
    · rw [(show so = 2 by omega), pl2 hW hz]; exact hI
    · rw [(show so = 3 by omega), pl3 hW hz]; exact hI)
end Mine
end

section
open PySem PySem.W PyProof.Rows
namespace Mine
local macro_rules | `(tactic| k_ne) => `(tactic| first | k_extra "NE" | (refine neN ?_; (try dsimp only); omega))
local macro_rules | `(tactic| walk_at "h:S1") => `(tactic| (refine' ⟨?B, ?F, ?X, ?N, ?T, ?K⟩; (case B => k_asm); (case F => k_asm); (case X => k_asm); (case N => k_asm); (case T => k_asm); (case K => first | exact rfl | assumption)))
local macro_rules | `(tactic| walk_at "h:S2") => `(tactic| (refine' ⟨?d, ?u⟩; (case d => ktr_room); (case u => ktr_units)))
local macro_rules | `(tactic| ktr_units) => `(tactic| first | exact units3 (by assumption) (by decide) | (have hcL9 := cLine_is; (simp only [units_under_make, units_in1, units_deeper, Around.mark_units, units_caller] at *); (try dsimp only [ktrTop] at *); omega))
local macro_rules | `(tactic| k_room) => `(tactic| ktr_room)
local macro_rules | `(tactic| k_all) => `(tactic| assumption)
local macro_rules | `(tactic| cell_enter) => `(tactic| (refine' code_defG ?k1 ?k2 ?k3 ?k4 ?k5 ?kA ?kF ?kK ?k6 ?k7 ?k8 ?k9 ?kB ?_ ?c2 ?c3 ?c4 ?c5; (case kA => exact rfl); (case kF => exact rfl); (case kK => first | exact rfl | assumption); (case k1 => k_asm); (case k2 => k_asm); (case k3 => k_asm); (case k4 => k_asm); (case k5 => k_asm); (case k6 => k_is); (case k7 => k_is); (case k8 => ktr_room); (case k9 => first | exact BindsTo.of_eq rfl | exact binds_K (by k_in) rfl (by k_is) rfl rfl rfl); (case c5 => decide); (case kB => exact locs rfl); (case c2 => exact rfl); (case c3 => exact rfl); (case c4 => exact rfl); k_whole; intro g' L' h' FG' F' N' B' X' T' kG'; (try dsimp only); (try k_lift B'); (try k_fold)))

local macro_rules | `(tactic| walk_at "JoinInt") => `(tactic| (k_dflt (refine' JoinInt.intro _ _ _ _ _ ?F ?N ?S; (case F => k_asm); (case N => k_asm); (case S => (refine ⟨?_, rfl⟩; first | exact (if_pos (by assumption)).symm | exact (if_f (by assumption)).symm)))))
local macro_rules | `(tactic| walk_at "eval IfExp") => `(tactic| k_extra "Q eval IfExp")
theorem words_C7_0 : True := by
  k_with_none
  k_with "PROJ" => first | exact h9.1 | exact h9 | exact h9.2.1 | exact h9.2 | exact h9.2.2.1 | exact h9.2.2 | exact h9.2.2.2.1 | exact h9.2.2.2 | exact h9.2.2.2.2.1 | exact h9.2.2.2.2 | exact h9.2.2.2.2.2.1 | exact h9.2.2.2.2.2 | exact h9.2.2.2.2.2.2.1 | exact h9.2.2.2.2.2.2 | exact h9.2.2.2.2.2.2.2.1 | exact h9.2.2.2.2.2.2.2 | exact h9.2.2.2.2.2.2.2.2.1 | exact h9.2.2.2.2.2.2.2.2 | exact h9.2.2.2.2.2.2.2.2.2.1 | exact h9.2.2.2.2.2.2.2.2.2 | exact h9.2.2.2.2.2.2.2.2.2.2.1 | exact h9.2.2.2.2.2.2.2.2.2.2 | exact h9.2.2.2.2.2.2.2.2.2.2.2.1 | exact h9.2.2.2.2.2.2.2.2.2.2.2 | exact h9.2.2.2.2.2.2.2.2.2.2.2.2.1 | exact h9.2.2.2.2.2.2.2.2.2.2.2.2 | exact h9.2.2.2.2.2.2.2.2.2.2.2.2.2.1 | exact h9.2.2.2.2.2.2.2.2.2.2.2.2.2 | exact h9.2.2.2.2.2.2.2.2.2.2.2.2.2.2.1 | exact h9.2.2.2.2.2.2.2.2.2.2.2.2.2.2 | exact h9.2.2.2.2.2.2.2.2.2.2.2.2.2.2.2.1 | exact h9.2.2.2.2.2.2.2.2.2.2.2.2.2.2.2 | exact h9.2.2.2.2.2.2.2.2.2.2.2.2.2.2.2.2.1 | exact h9.2.2.2.2.2.2.2.2.2.2.2.2.2.2.2.2 | exact h9.2.2.2.2.2.2.2.2.2.2.2.2.2.2.2.2.2.1 | exact h9.2.2.2.2.2.2.2.2.2.2.2.2.2.2.2.2.2 | exact h9.2.2.2.2.2.2.2.2.2.2.2.2.2.2.2.2.2.2.1 | exact h9.2.2.2.2.2.2.2.2.2.2.2.2.2.2.2.2.2.2 | exact h9.2.2.2.2.2.2.2.2.2.2.2.2.2.2.2.2.2.2.2.1 | exact h9.2.2.2.2.2.2.2.2.2.2.2.2.2.2.2.2.2.2.2 | exact h9.2.2.2.2.2.2.2.2.2.2.2.2.2.2.2.2.2.2.2.2.1 | exact h9.2.2.2.2.2.2.2.2.2.2.2.2.2.2.2.2.2.2.2.2 | exact h9.2.2.2.2.2.2.2.2.2.2.2.2.2.2.2.2.2.2.2.2.2.1 | exact h9.2.2.2.2.2.2.2.2.2.2.2.2.2.2.2.2.2.2.2.2.2 | exact h9.2.2.2.2.2.2.2.2.2.2.2.2.2.2.2.2.2.2.2.2.2.2.1 | exact h9.2.2.2.2.2.2.2.2.2.2.2.2.2.2.2.2.2.2.2.2.2.2 | exact h9.2.2.2.2.2.2.2.2.2.2.2.2.2.2.2.2.2.2.2.2.2.2.2.1 | exact h9.2.2.2.2.2.2.2.2.2.2.2.2.2.2.2.2.2.2.2.2.2.2.2 | exact h9.2.2.2.2.2.2.2.2.2.2.2.2.2.2.2.2.2.2.2.2.2.2.2.2.1 | exact h9.2.2.2.2.2.2.2.2.2.2.2.2.2.2.2.2.2.2.2.2.2.2.2.2
  k_with "NE" => ((try refine neN ?_); (try dsimp only); first
    | assumption
    | exact Ne.symm (by assumption)
    | exact Nat.ne_of_lt (by assumption)
    | exact Nat.ne_of_gt (by assumption)
    | exact off_ne1 _
    | exact Ne.symm (off_ne1 _)
    | exact off_ne2 _
    | exact Ne.symm (off_ne2 _)
    | exact off_ne3 _
    | exact Ne.symm (off_ne3 _)
    | exact off_ne4 _
    | exact Ne.symm (off_ne4 _)
    | exact off_ne5 _
    | exact Ne.symm (off_ne5 _)
    | (refine succ_ne ?_; k_extra "NE")
    | (refine ne_cr (by assumption) ?_; intro h9; k_extra "PROJ")
    | (refine ne_cl (by assumption) ?_; intro h9; k_extra "PROJ")
    | (refine lt_cr (by assumption) ?_; intro h9; k_extra "PROJ")
    | (refine lt_cl (by assumption) ?_; intro h9; k_extra "PROJ")
    | (refine lt_off1 ?_; first | assumption | (refine lt_c (by assumption) ?_; intro h9; k_extra "PROJ"))
    | (refine Ne.symm (lt_off1 ?_); first | assumption | (refine lt_c (by assumption) ?_; intro h9; k_extra "PROJ"))
    | (refine lt_off2 ?_; first | assumption | (refine lt_c (by assumption) ?_; intro h9; k_extra "PROJ"))
    | (refine Ne.symm (lt_off2 ?_); first | assumption | (refine lt_c (by assumption) ?_; intro h9; k_extra "PROJ"))
    | (refine lt_off3 ?_; first | assumption | (refine lt_c (by assumption) ?_; intro h9; k_extra "PROJ"))
    | (refine Ne.symm (lt_off3 ?_); first | assumption | (refine lt_c (by assumption) ?_; intro h9; k_extra "PROJ"))
    | (refine lt_off4 ?_; first | assumption | (refine lt_c (by assumption) ?_; intro h9; k_extra "PROJ"))
    | (refine Ne.symm (lt_off4 ?_); first | assumption | (refine lt_c (by assumption) ?_; intro h9; k_extra "PROJ"))
    | (refine lt_off5 ?_; first | assumption | (refine lt_c (by assumption) ?_; intro h9; k_extra "PROJ"))
    | (refine Ne.symm (lt_off5 ?_); first | assumption | (refine lt_c (by assumption) ?_; intro h9; k_extra "PROJ")))
  k_with "Q eval IfExp" => (k_here; (with_reducible show wpAny _ _ (eval (Expr.IfExp (Expr.Name _ _) (Expr.BinOp _ _ _ _) _ _) _) _ _ _); (fail_if_success (with_reducible show wpAny _ _ _ (JoinInt _ _ _ _ _) _ _)); k_dflt (apply join_wide; (case _ => k_asm); (case _ => k_asm); (case hW => assumption); k_whole); all_goals (try (intro t9 h9 tk9 F9 N9; (try dsimp only); (try k_fold))))
  trivial
theorem placesZ_spec (w : World) (sk dsk lx ldx : Addr) (so : Int) (sod lod : Obj) (k wd ht dp_ : Int) (bg sz ed : Int) (tb ts te : Tok) (up : Bool) (W : Int) (news : List (Addr × Obj))
    (q1 : (sk, instObj 282 dsk) ∈ news) (q2 : (dsk, sod) ∈ news) (m1 : (lx, instObj 239 ldx) ∈ news) (m2 : (ldx, lod) ∈ news) (hS : SkipD w.params so (.ref lx) sod) (hB : BoxD w.params k wd ht dp_ lod) (hk4 : ¬ k = 4)
    (hWe : W = if up then ht + dp_ else wd) (hW : W ≤ 0 ∨ sz ≤ 0) :
    CallC w 291 [.ref sk, .int bg tb, .int sz ts, .int ed te, .bool up] news 4 (fun r news' => ∃ (l : Addr) (vs : List Value) (n : Nat), r = .ref l ∧ IntsAre vs [] ∧ news' = (l, listOf vs.toArray n) :: news) := by
  w_on
  unfold CallC
  k_fill
  intro loose mean mg mb dp un gd cn cs a ccd cl outer A₀ base h₀ L m s Q E B' F X N T hk hd hu ret
  obtain ⟨t0, t1, t2, t3, t4, t5, t6, t7, t8, s0, s1, s2, s3, v4, v5, v6, v7, v8, rfl⟩ := hB
  obtain ⟨t10, t11, t12, s11, gv, rfl⟩ := hS
  have N0 : News h₀ L s.heap [(sk, instObj 282 dsk), (dsk, _), (lx, instObj 239 ldx), (ldx, _)] := fun p hp => by
    rcases List.mem_cons.mp hp with e | hp
    · exact N p (e ▸ q1)
    rcases List.mem_cons.mp hp with e | hp
    · exact N p (e ▸ q2)
    rcases List.mem_cons.mp hp with e | hp
    · exact N p (e ▸ m1)
    · exact N p (List.mem_singleton.mp hp ▸ m2)
  rcases hW with hW | hW
  all_goals (
    refine wpAny_call ?_
    k_dflt (refine' cells_enterG ?k1 ?k2 ?k3 ?k4 ?k5 ?kA ?kF ?kK ?k6 ?k7 ?k8 ?k9 ?kB ?kD ?_ ?c2 ?c3 ?c4; (case kA => exact rfl); (case kF => exact rfl); (case kK => assumption); (case k1 => k_asm); (case k2 => k_asm); (case k3 => k_asm); (case k4 => k_asm); (case k5 => k_asm); (case k6 => k_is); (case k7 => k_is); (case k8 => ktr_room); (case k9 => exact BindsTo.of_eq rfl); (case kB => exact rfl); (case kD => decide +kernel); (case c2 => exact rfl); (case c3 => exact rfl); (case c4 => exact rfl); k_whole)
    intro g' L' h' tk' cells' FG' F' N' Y' B' X' T' l1 kG'
    k_lt l1
    have hY := cells5 Y'
    obtain ⟨o1, o2, o3, o4, o5, hE', d1, d2, d3, d4, d5⟩ := hY
    subst hE'
    clear Y'
    simp only [List.cons_append, List.nil_append] at N'
    (try dsimp only)
    (try k_fold)
    k_steps)
  all_goals ((with_reducible rename News _ _ _ _ => kN); exact ret _ _ _ _ ⟨_, [], 0, rfl, .nil, rfl⟩ (by k_asm) (frame_keep (n1 := [(_, listOf [].toArray 0)]) N (fun p hp => hp) (by assumption) (by k_asm) kN (List.forall_mem_cons.mpr ⟨by k_mem, List.forall_mem_nil _⟩) (quad4 q1 q2 m1 m2 (by k_mem) (by k_mem) (by k_mem) (by k_mem))))

theorem CallC.mono {w : World} {f : Addr} {args : List Value} {news : List (Addr × Obj)} {k : Nat} {P P' : Value → List (Addr × Obj) → Prop} (C : CallC w f args news k P) (h : ∀ r n, P r n → P' r n) : CallC w f args news k P' := by
  intro loose mean mg mb dp un gd cn cs a ccd cl outer A₀ base h₀ L m s Q E B F X N T hk hd hu ret
  exact C.use B F X N T hk hd hu fun r n h' tk' p => ret r n h' tk' (h r n p)
theorem pl0 {so bg sz ed W : Int} (h : W ≤ 0 ∨ sz ≤ 0) : places so bg sz ed W = [] := by unfold places; rw [if_pos h]
theorem pl_first_ge {bg ed W : Int} (hW : 0 < W) : bg ≤ ed - (ed - bg).fdiv W * W := by
  rw [Int.fdiv_eq_ediv_of_nonneg _ (by omega)]
  have := Int.ediv_mul_le (ed - bg) (show W ≠ 0 by omega)
  omega
theorem fd_le2 {x W : Int} (hW : 0 < W) (h : x ≤ 1000) : x.fdiv W ≤ 1000 := by
  rw [Int.fdiv_eq_ediv_of_nonneg _ (by omega)]
  have h1 : x / W ≤ 1000 / W := Int.ediv_le_ediv hW h
  have h2 : 1000 / W ≤ 1000 := Int.ediv_le_self _ (by omega)
  omega
theorem fd_le3 {x W b : Int} (hW : 0 < W) (h0 : 0 ≤ x) (h : x ≤ b) : x.fdiv W ≤ b := by
  rw [Int.fdiv_eq_ediv_of_nonneg _ (by omega)]
  have h2 : x / W ≤ x := Int.ediv_le_self _ h0
  omega
theorem placesB_spec (w : World) (sk dsk lx ldx : Addr) (so : Int) (sod lod : Obj) (k wd ht dp_ : Int) (bg sz ed : Int) (tb ts te : Tok) (up : Bool) (W : Int) (news : List (Addr × Obj)) (hs1 : 1 ≤ so) (hs3 : so ≤ 3)
    (q1 : (sk, instObj 282 dsk) ∈ news) (q2 : (dsk, sod) ∈ news) (m1 : (lx, instObj 239 ldx) ∈ news) (m2 : (ldx, lod) ∈ news) (hS : SkipD w.params so (.ref lx) sod) (hB : BoxD w.params k wd ht dp_ lod) (hk4 : ¬ k = 4)
    (hWe : W = if up then ht + dp_ else wd) (hW2 : W ≤ 200) (hz2 : W ≤ 0 ∨ sz ≤ 100) (z1 : -100 ≤ bg) (z2 : bg ≤ 100) (z5 : -100 ≤ ed) (z6 : ed ≤ 100) :
    CallC w 291 [.ref sk, .int bg tb, .int sz ts, .int ed te, .bool up] news 4 (fun r news' => ∃ (l : Addr) (vs : List Value) (n : Nat), r = .ref l ∧ IntsAre vs (places so bg sz ed W) ∧ news' = (l, listOf vs.toArray n) :: news) := by
  by_cases hz : W ≤ 0 ∨ sz ≤ 0
  · rw [pl0 hz]
    exact placesZ_spec w sk dsk lx ldx so sod lod k wd ht dp_ bg sz ed tb ts te up W news q1 q2 m1 m2 hS hB hk4 hWe hz
  · have hW : 0 < W := by omega
    have hs : 0 < sz := by omega
    have hs2 : sz ≤ 100 := by omega
    have c1 : 0 ≤ sz.fdiv W := fd_lo (by omega) hW
    have c2 : sz.fdiv W ≤ 100 := fd_le3 hW (by omega) hs2
    have c4 : 0 ≤ sz.fmod W := fm_lo hW
    have c5 : sz.fmod W ≤ 200 := by have := fm_hi (x := sz) hW; omega
    have c3 := fd_le2 (x := bg + sz - (ed - (ed - bg).fdiv W * W)) hW (by have := pl_first_ge (bg := bg) (ed := ed) hW; omega)
    exact placesP_spec w sk dsk lx ldx so sod lod k wd ht dp_ bg sz ed tb ts te up W news hs1 hs3 q1 q2 m1 m2 hS hB hk4 hWe hW hW2 hs hs2 z1 z2 z5 z6 c1 c2 c3 c4 c5 (fd_lo c4 (by omega)) (fd_le3 (by omega) c4 c5)
end Mine
end

section
open PySem PySem.W PyProof.Rows
namespace Mine
local macro_rules | `(tactic| k_ne) => `(tactic| first | k_extra "NE" | (refine neN ?_; (try dsimp only); omega))
local macro_rules | `(tactic| walk_at "h:S1") => `(tactic| (refine' ⟨?B, ?F, ?X, ?N, ?T, ?K⟩; (case B => k_asm); (case F => k_asm); (case X => k_asm); (case N => k_asm); (case T => k_asm); (case K => first | exact rfl | assumption)))
local macro_rules | `(tactic| walk_at "h:S2") => `(tactic| (refine' ⟨?d, ?u⟩; (case d => ktr_room); (case u => ktr_units)))
local macro_rules | `(tactic| ktr_units) => `(tactic| first | exact units3 (by assumption) (by decide) | (have hcL9 := cLine_is; (simp only [units_under_make, units_in1, units_deeper, Around.mark_units, units_caller] at *); (try dsimp only [ktrTop] at *); omega))
local macro_rules | `(tactic| k_room) => `(tactic| ktr_room)
local macro_rules | `(tactic| k_all) => `(tactic| assumption)
local macro_rules | `(tactic| walk_at "call ref") => `(tactic| k_extra "Q call ref")

local macro_rules | `(tactic| walk_at "eval ListComp Tuple cons") => `(tactic| k_extra "Q eval ListComp Tuple cons")
theorem words_C8_0 : True := by
  k_with_none
  k_with "PROJ" => first | exact h9.1 | exact h9 | exact h9.2.1 | exact h9.2 | exact h9.2.2.1 | exact h9.2.2 | exact h9.2.2.2.1 | exact h9.2.2.2 | exact h9.2.2.2.2.1 | exact h9.2.2.2.2 | exact h9.2.2.2.2.2.1 | exact h9.2.2.2.2.2 | exact h9.2.2.2.2.2.2.1 | exact h9.2.2.2.2.2.2 | exact h9.2.2.2.2.2.2.2.1 | exact h9.2.2.2.2.2.2.2 | exact h9.2.2.2.2.2.2.2.2.1 | exact h9.2.2.2.2.2.2.2.2 | exact h9.2.2.2.2.2.2.2.2.2.1 | exact h9.2.2.2.2.2.2.2.2.2 | exact h9.2.2.2.2.2.2.2.2.2.2.1 | exact h9.2.2.2.2.2.2.2.2.2.2 | exact h9.2.2.2.2.2.2.2.2.2.2.2.1 | exact h9.2.2.2.2.2.2.2.2.2.2.2 | exact h9.2.2.2.2.2.2.2.2.2.2.2.2.1 | exact h9.2.2.2.2.2.2.2.2.2.2.2.2 | exact h9.2.2.2.2.2.2.2.2.2.2.2.2.2.1 | exact h9.2.2.2.2.2.2.2.2.2.2.2.2.2 | exact h9.2.2.2.2.2.2.2.2.2.2.2.2.2.2.1 | exact h9.2.2.2.2.2.2.2.2.2.2.2.2.2.2 | exact h9.2.2.2.2.2.2.2.2.2.2.2.2.2.2.2.1 | exact h9.2.2.2.2.2.2.2.2.2.2.2.2.2.2.2 | exact h9.2.2.2.2.2.2.2.2.2.2.2.2.2.2.2.2.1 | exact h9.2.2.2.2.2.2.2.2.2.2.2.2.2.2.2.2 | exact h9.2.2.2.2.2.2.2.2.2.2.2.2.2.2.2.2.2.1 | exact h9.2.2.2.2.2.2.2.2.2.2.2.2.2.2.2.2.2 | exact h9.2.2.2.2.2.2.2.2.2.2.2.2.2.2.2.2.2.2.1 | exact h9.2.2.2.2.2.2.2.2.2.2.2.2.2.2.2.2.2.2 | exact h9.2.2.2.2.2.2.2.2.2.2.2.2.2.2.2.2.2.2.2.1 | exact h9.2.2.2.2.2.2.2.2.2.2.2.2.2.2.2.2.2.2.2 | exact h9.2.2.2.2.2.2.2.2.2.2.2.2.2.2.2.2.2.2.2.2.1 | exact h9.2.2.2.2.2.2.2.2.2.2.2.2.2.2.2.2.2.2.2.2 | exact h9.2.2.2.2.2.2.2.2.2.2.2.2.2.2.2.2.2.2.2.2.2.1 | exact h9.2.2.2.2.2.2.2.2.2.2.2.2.2.2.2.2.2.2.2.2.2 | exact h9.2.2.2.2.2.2.2.2.2.2.2.2.2.2.2.2.2.2.2.2.2.2.1 | exact h9.2.2.2.2.2.2.2.2.2.2.2.2.2.2.2.2.2.2.2.2.2.2 | exact h9.2.2.2.2.2.2.2.2.2.2.2.2.2.2.2.2.2.2.2.2.2.2.2.1 | exact h9.2.2.2.2.2.2.2.2.2.2.2.2.2.2.2.2.2.2.2.2.2.2.2 | exact h9.2.2.2.2.2.2.2.2.2.2.2.2.2.2.2.2.2.2.2.2.2.2.2.2.1 | exact h9.2.2.2.2.2.2.2.2.2.2.2.2.2.2.2.2.2.2.2.2.2.2.2.2
  k_with "NE" => ((try refine neN ?_); (try dsimp only); first
    | assumption
    | exact Ne.symm (by assumption)
    | exact Nat.ne_of_lt (by assumption)
    | exact Nat.ne_of_gt (by assumption)
    | exact off_ne1 _
    | exact Ne.symm (off_ne1 _)
    | exact off_ne2 _
    | exact Ne.symm (off_ne2 _)
    | exact off_ne3 _
    | exact Ne.symm (off_ne3 _)
    | exact off_ne4 _
    | exact Ne.symm (off_ne4 _)
    | exact off_ne5 _
    | exact Ne.symm (off_ne5 _)
    | (refine succ_ne ?_; k_extra "NE")
    | (refine ne_cr (by assumption) ?_; intro h9; k_extra "PROJ")
    | (refine ne_cl (by assumption) ?_; intro h9; k_extra "PROJ")
    | (refine lt_cr (by assumption) ?_; intro h9; k_extra "PROJ")
    | (refine lt_cl (by assumption) ?_; intro h9; k_extra "PROJ")
    | (refine lt_off1 ?_; first | assumption | (refine lt_c (by assumption) ?_; intro h9; k_extra "PROJ"))
    | (refine Ne.symm (lt_off1 ?_); first | assumption | (refine lt_c (by assumption) ?_; intro h9; k_extra "PROJ"))
    | (refine lt_off2 ?_; first | assumption | (refine lt_c (by assumption) ?_; intro h9; k_extra "PROJ"))
    | (refine Ne.symm (lt_off2 ?_); first | assumption | (refine lt_c (by assumption) ?_; intro h9; k_extra "PROJ"))
    | (refine lt_off3 ?_; first | assumption | (refine lt_c (by assumption) ?_; intro h9; k_extra "PROJ"))
    | (refine Ne.symm (lt_off3 ?_); first | assumption | (refine lt_c (by assumption) ?_; intro h9; k_extra "PROJ"))
    | (refine lt_off4 ?_; first | assumption | (refine lt_c (by assumption) ?_; intro h9; k_extra "PROJ"))
    | (refine Ne.symm (lt_off4 ?_); first | assumption | (refine lt_c (by assumption) ?_; intro h9; k_extra "PROJ"))
    | (refine lt_off5 ?_; first | assumption | (refine lt_c (by assumption) ?_; intro h9; k_extra "PROJ"))
    | (refine Ne.symm (lt_off5 ?_); first | assumption | (refine lt_c (by assumption) ?_; intro h9; k_extra "PROJ")))
  k_with "Q call ref" => (k_here; (with_reducible show wpAny _ _ (call (Value.ref 291) [Value.ref _, Value.int _ _, Value.int _ _, Value.int _ _, Value.bool _] _) _ _ _); k_dflt (apply CallC.go; (case S1 => walk_at "h:S1"); (case C => (apply placesB_spec; (first | (case q1 => k_mem) | (· (k_mem))); (first | (case q2 => k_mem) | (· (k_mem))); (first | (case hS => assumption) | (· (assumption))); (first | (case m1 => k_mem) | (· (k_mem))); (first | (case m2 => k_mem) | (· (k_mem))); (first | (case hB => assumption) | (· (assumption))); (first | (case hs1 => assumption) | (· (assumption))); (first | (case hs3 => assumption) | (· (assumption))); (first | (case hk4 => assumption) | (· (assumption))); (first | (case hWe => assumption) | (· (assumption))); (first | (case hW2 => assumption) | (· (assumption))); (first | (case hz2 => assumption) | (· (assumption))); (first | (case z1 => assumption) | (· (assumption))); (first | (case z2 => assumption) | (· (assumption))); (first | (case z5 => assumption) | (· (assumption))); (first | (case z6 => assumption) | (· (assumption))))); (case S2 => walk_at "h:S2"); k_whole); intro r9 news9 h9 tk9 p9 F9 N9; obtain ⟨l9, vs9, n9, e9, i9, m9⟩ := p9; subst e9; subst m9; (try k_sweep); (try dsimp only); (try k_fold))
  k_with "Q eval ListComp Tuple cons" => (k_here; k_dflt (refine LCg.ListComp_U (F₀ := by k_asm) (by with_unfolding_all rfl) (by decide) (by rfl) (by decide) (by rfl) ?_))
  trivial
section
variable {prog : Program} {w : World} {A : Around} {h₀ : Heap} {L : Addr} {m : Str → Option Value} {env : Env} {elt : Expr} {x : Str} {scope : Scope} {cl : List (Str × Addr)} {s : Shared} {S : List (Addr × Obj) → Prop} {P : Nat → Value → Prop} {Fin : List Value → List (Addr × Obj) → Prop}
theorem compEnd_mono {s₁ s₂ : Shared} {I C D : Addr} {oI oC oD : Obj} {r r' : Value → List (Addr × Obj) → Prop} {y : Value} (h : LCg.CompEnd h₀ L m s₁ I oI C oC D oD S r y s₂) (k : ∀ n, r y n → r' y n) : LCg.CompEnd h₀ L m s₁ I oI C oC D oD S r' y s₂ := by
  obtain ⟨h', tk, news', e, F, N, o, hS, q⟩ := h
  exact ⟨h', tk, news', e, F, N, o, hS, k _ q⟩
theorem comp_inv (Inv : Nat → List Value → List (Addr × Obj) → Prop) (n : Nat)
    (step : ∀ i ys news, i < n → Inv i ys news → ∀ v I oI C oC D m₂ h tk (E' : Value → Shared → Prop), P i v → LCg.NsObj oC m₂ → m₂ x = some v → Fr h₀ L h m → News h₀ L h ((I, oI) :: (C, oC) :: (D, LCg.lst ys) :: news) → LCg.Off3 I C D news → ((@Ne Nat I C) ∧ (@Ne Nat I D) ∧ (@Ne Nat C D)) →
      wpAny (model prog w) A (eval elt (compEnvC scope cl C env)) (LCg.CompEnd h₀ L m { s with heap := h, toks := tk } I oI C oC D (LCg.lst ys) S (fun y news' => Inv (i + 1) (ys ++ [y]) news')) E' { s with heap := h, toks := tk })
    (fin : ∀ ys news, Inv n ys news → Fin ys news) : ∀ (k i : Nat) (ys : List Value) (news : List (Addr × Obj)), i + k = n → Inv i ys news → LCg.CompRest prog w A h₀ L m env elt x scope cl s S P Fin k i ys news := by
  intro k
  induction k with
  | zero => intro i ys news e hi; exact LCg.CompRest.zero (fin ys news (by rw [← e]; exact hi))
  | succ k ih =>
    intro i ys news e hi
    refine LCg.CompRest.succ ?_
    intro v I oI C oC D m₂ h tk E' hv hC hx F N off ne
    exact wpAny_mono (step i ys news (by omega) hi v I oI C oC D m₂ h tk E' hv hC hx F N off ne) (fun y s₂ hq => compEnd_mono hq fun nw r => ih (i + 1) _ nw (by omega) r) fun _ _ q => q
end
abbrev tupObj (vs : List Value) : Obj := { cls := .type "tuple", data := .seq vs.toArray }
/-- values that are references to objects of the ledger tl, each of which bears its item -/
inductive RefsAre {α : Type} (El : α → Obj → Prop) (tl : List (Addr × Obj)) : List Value → List α → Prop
  | nil : RefsAre El tl [] []
  | cons {T : Addr} {o : Obj} {k : α} {vs : List Value} {ks : List α} : (T, o) ∈ tl → El k o → RefsAre El tl vs ks → RefsAre El tl (.ref T :: vs) (k :: ks)
theorem RefsAre.grow {α : Type} {El : α → Obj → Prop} {tl tl' : List (Addr × Obj)} (h : ∀ p ∈ tl, p ∈ tl') : ∀ {vs : List Value} {ks : List α}, RefsAre El tl vs ks → RefsAre El tl' vs ks
  | _, _, .nil => .nil
  | _, _, .cons a b c => .cons (h _ a) b (c.grow h)
theorem RefsAre.snoc {α : Type} {El : α → Obj → Prop} {tl : List (Addr × Obj)} {T : Addr} {o : Obj} {k : α} (hm : (T, o) ∈ tl) (he : El k o) : ∀ {vs : List Value} {ks : List α}, RefsAre El tl vs ks → RefsAre El tl (vs ++ [.ref T]) (ks ++ [k])
  | _, _, .nil => .cons hm he .nil
  | _, _, .cons a b c => .cons a b (c.snoc hm he)
theorem RefsAre.length {α : Type} {El : α → Obj → Prop} {tl : List (Addr × Obj)} : ∀ {vs : List Value} {ks : List α}, RefsAre El tl vs ks → vs.length = ks.length
  | _, _, .nil => rfl
  | _, _, .cons _ _ c => congrArg (· + 1) c.length
def NewEl (h₀ : Heap) (L : Addr) (m : Str → Option Value) (s₁ : Shared) (P : Obj → Prop) (led : List (Addr × Obj)) (y : Value) (s₂ : Shared) : Prop :=
  ∃ (T : Addr) (o : Obj) (h' : Heap) (tk : Nat), y = .ref T ∧ P o ∧ s₂ = { s₁ with heap := h', toks := tk } ∧ Fr h₀ L h' m ∧ News h₀ L h' ((T, o) :: led) ∧ ∀ p ∈ led, p.1 < T
section
variable {prog : Program} {w : World} {A : Around} {h₀ : Heap} {L : Addr} {m : Str → Option Value} {env : Env} {elt : Expr} {x : Str} {scope : Scope} {cl : List (Str × Addr)} {s : Shared} {S : List (Addr × Obj) → Prop} {Fin : List Value → List (Addr × Obj) → Prop}
theorem newEl_end {P : Obj → Prop} {base tl : List (Addr × Obj)} {I C D : Addr} {oI oC : Obj} {ys : List Value} {s₁ : Shared} {y : Value} {s₂ : Shared} {r : Value → List (Addr × Obj) → Prop} (hS : ∀ tl, S (base ++ tl)) (off : LCg.Off3 I C D (base ++ tl))
    (h : NewEl h₀ L m s₁ P ((I, oI) :: (C, oC) :: (D, LCg.lst ys) :: (base ++ tl)) y s₂) (k : ∀ T o, P o → y = .ref T → r (.ref T) (base ++ (tl ++ [(T, o)]))) : LCg.CompEnd h₀ L m s₁ I oI C oC D (LCg.lst ys) S r y s₂ := by
  obtain ⟨T, o, h', tk, rfl, po, e, F, N, lt⟩ := h
  refine ⟨h', tk, base ++ (tl ++ [(T, o)]), e, F, fun p hp => N p ?_, ?_, hS _, k T o po rfl⟩
  · rcases List.mem_cons.mp hp with e | hp
    · exact e ▸ .tail _ (.head _)
    rcases List.mem_cons.mp hp with e | hp
    · exact e ▸ .tail _ (.tail _ (.head _))
    rcases List.mem_cons.mp hp with e | hp
    · exact e ▸ .tail _ (.tail _ (.tail _ (.head _)))
    rcases List.mem_append.mp hp with hp | hp
    · exact .tail _ (.tail _ (.tail _ (.tail _ (List.mem_append.mpr (.inl hp)))))
    rcases List.mem_append.mp hp with hp | hp
    · exact .tail _ (.tail _ (.tail _ (.tail _ (List.mem_append.mpr (.inr hp)))))
    · exact List.mem_singleton.mp hp ▸ .head _
  · refine LCg.Off3.of fun p hp => ?_
    have o3 := off.mem
    rcases List.mem_append.mp hp with hp | hp
    · exact o3 p (List.mem_append.mpr (.inl hp))
    rcases List.mem_append.mp hp with hp | hp
    · exact o3 p (List.mem_append.mpr (.inr hp))
    · rw [List.mem_singleton.mp hp]
      exact ⟨Ne.symm (Nat.ne_of_lt (lt _ (.head _))), Ne.symm (Nat.ne_of_lt (lt _ (.tail _ (.head _)))), Ne.symm (Nat.ne_of_lt (lt _ (.tail _ (.tail _ (.head _)))))⟩
theorem comp_refs {El : Int → Obj → Prop} {vs : List Value} {ps : List Int} {base : List (Addr × Obj)} (hI : IntsAre vs ps) (hS : ∀ tl, S (base ++ tl))
    (step : ∀ k t I oI C oC D m₂ ys tl h tk (E' : Value → Shared → Prop), k ∈ ps → LCg.NsObj oC m₂ → m₂ x = some (.int k t) → Fr h₀ L h m → News h₀ L h ((I, oI) :: (C, oC) :: (D, LCg.lst ys) :: (base ++ tl)) →
      wpAny (model prog w) A (eval elt (compEnvC scope cl C env)) (NewEl h₀ L m { s with heap := h, toks := tk } (El k) ((I, oI) :: (C, oC) :: (D, LCg.lst ys) :: (base ++ tl))) E' { s with heap := h, toks := tk })
    (fin : ∀ ys tl, RefsAre El tl ys ps → Fin ys (base ++ tl)) : LCg.CompRest prog w A h₀ L m env elt x scope cl s S (fun i v => vs.toArray[i]? = some v) Fin vs.toArray.size 0 [] base := by
  refine comp_inv (fun i ys nw => ∃ tl, nw = base ++ tl ∧ RefsAre El tl ys (ps.take i)) vs.toArray.size ?_ ?_ _ 0 [] base (Nat.zero_add _) ⟨[], (List.append_nil _).symm, .nil⟩
  · rintro i ys nw hi ⟨tl, rfl, R⟩ v I oI C oC D m₂ h tk E' hv hC hx F N off ne
    obtain ⟨k, t, rfl, hk⟩ := IntsAre.at hI i v (by simpa using hv)
    refine wpAny_mono (step k t I oI C oC D m₂ ys tl h tk E' (List.mem_of_getElem? hk) hC hx F N) (fun y s₂ hq => newEl_end hS off hq fun T o po e => ?_) fun _ _ q => q
    refine ⟨tl ++ [(T, o)], rfl, ?_⟩
    rw [List.take_add_one, hk]
    exact (R.grow fun p hp => List.mem_append.mpr (.inl hp)).snoc (List.mem_append.mpr (.inr (.head _))) po
  · rintro ys nw ⟨tl, rfl, R⟩
    rw [List.size_toArray, hI.length, List.take_length] at R
    exact fin ys tl R
end
def PairEl (lx : Addr) (p : Int) (o : Obj) : Prop := ∃ t, o = tupObj [.int p t, .ref lx]
theorem places_len {so bg sz ed W : Int} (hz2 : W ≤ 0 ∨ sz ≤ 100) : (places so bg sz ed W).length ≤ 1000 := by
  unfold places
  split
  · simp
  · rename_i h
    have hW : 0 < W := by omega
    rw [List.length_map, rangeKs_length]
    unfold plCnt
    have c2 : sz.fdiv W ≤ 100 := fd_le3 hW (by omega) (by omega)
    have c3 := fd_le2 (x := bg + sz - (ed - (ed - bg).fdiv W * W)) hW (by have := pl_first_ge (bg := bg) (ed := ed) hW; omega)
    split <;> omega

theorem leadersB_spec (w : World) (sk dsk lx ldx : Addr) (so : Int) (sod lod : Obj) (k wd ht dp_ : Int) (bg sz ed : Int) (tb ts te : Tok) (up : Bool) (W : Int) (news : List (Addr × Obj)) (hs1 : 1 ≤ so) (hs3 : so ≤ 3)
    (q1 : (sk, instObj 282 dsk) ∈ news) (q2 : (dsk, sod) ∈ news) (m1 : (lx, instObj 239 ldx) ∈ news) (m2 : (ldx, lod) ∈ news) (hS : SkipD w.params so (.ref lx) sod) (hB : BoxD w.params k wd ht dp_ lod) (hk4 : ¬ k = 4)
    (hWe : W = if up then ht + dp_ else wd) (hW2 : W ≤ 200) (hz2 : W ≤ 0 ∨ sz ≤ 100) (z1 : -100 ≤ bg) (z2 : bg ≤ 100) (z5 : -100 ≤ ed) (z6 : ed ≤ 100) :
    CallC w 303 [.ref sk, .int bg tb, .int sz ts, .int ed te, .bool up] news 6 (fun r news' => ∃ (l : Addr) (vs : List Value) (n : Nat) (tl : List (Addr × Obj)), r = .ref l ∧ RefsAre (PairEl lx) tl vs (places so bg sz ed W) ∧ news' = (l, listOf vs.toArray n) :: (tl ++ news)) := by
  w_on
  unfold CallC
  k_fill
  intro loose mean mg mb dp un gd cn cs a ccd cl outer A₀ base h₀ L m s Q E B' F X N T hk hd hu ret
  have hB0 := hB
  have hS0 := hS
  obtain ⟨t0, t1, t2, t3, t4, t5, t6, t7, t8, s0, s1, s2, s3, v4, v5, v6, v7, v8, rfl⟩ := hB
  obtain ⟨t10, t11, t12, s11, gv, rfl⟩ := hS
  have N0 : News h₀ L s.heap [(sk, instObj 282 dsk), (dsk, _), (lx, instObj 239 ldx), (ldx, _)] := fun p hp => by
    rcases List.mem_cons.mp hp with e | hp
    · exact N p (e ▸ q1)
    rcases List.mem_cons.mp hp with e | hp
    · exact N p (e ▸ q2)
    rcases List.mem_cons.mp hp with e | hp
    · exact N p (e ▸ m1)
    · exact N p (List.mem_singleton.mp hp ▸ m2)
  refine wpAny_call ?_
  k_dflt (refine' cells_enterG ?k1 ?k2 ?k3 ?k4 ?k5 ?kA ?kF ?kK ?k6 ?k7 ?k8 ?k9 ?kB ?kD ?_ ?c2 ?c3 ?c4; (case kA => exact rfl); (case kF => exact rfl); (case kK => assumption); (case k1 => k_asm); (case k2 => k_asm); (case k3 => k_asm); (case k4 => k_asm); (case k5 => k_asm); (case k6 => k_is); (case k7 => k_is); (case k8 => ktr_room); (case k9 => exact BindsTo.of_eq rfl); (case kB => exact rfl); (case kD => decide +kernel); (case c2 => exact rfl); (case c3 => exact rfl); (case c4 => exact rfl); k_whole)
  intro g' L' h' tk' cells' FG' F' N' Y' B' X' T' l1 kG'
  k_lt l1
  have hY := CellsAre.one Y'
  obtain ⟨o1, hE', d1⟩ := hY
  subst hE'
  clear Y'
  simp only [List.cons_append, List.nil_append] at N'
  (try dsimp only)
  (try k_fold)
  k_steps
  · (with_reducible rename News _ _ _ _ => kN)
    refine ret _ _ _ _ ⟨_, [], 0, [], rfl, ?_, rfl⟩ (by k_asm) (frame_keep (n1 := [(_, listOf [].toArray 0)]) N (fun p hp => hp) (by assumption) (by k_asm) kN (List.forall_mem_cons.mpr ⟨by k_mem, List.forall_mem_nil _⟩) (quad4 q1 q2 m1 m2 (by k_mem) (by k_mem) (by k_mem) (by k_mem)))
    rw [pl0 (.inr (by assumption))]
    exact .nil
  · exact absurd (by assumption) hk4
  rename IntsAre _ _ => hI
  (with_reducible rename News _ _ _ _ => N9)
  (with_reducible rename Fr _ _ _ _ => F9)
  refine LCg.CompSrc.ledger (by rfl) F9 N9 (.head _) (by rw [List.size_toArray, hI.length, sizeLine_eq]; have := places_len (so := so) (bg := bg) (ed := ed) hz2; omega) ?_
  intro g9
  refine comp_refs (El := PairEl lx) hI (fun tl => .inr ⟨_, List.mem_append.mpr (.inl (.head _)), rfl, _, rfl⟩) ?_ ?_
  · intro k9 t9 I9 oI9 C9 oC9 D9 m9 ys9 tl9 h9 tk9 E9 hk9 hC9 hx9 F9 N9
    (try dsimp only)
    simp only [List.cons_append, List.nil_append] at N9
    k_steps
    exact ⟨_, _, _, _, rfl, ⟨_, rfl⟩, rfl, by k_asm, by k_asm, ktn_ltOf (by assumption)⟩
  · intro ys tl R
    k_steps
    (with_reducible rename News _ _ _ _ => kN)
    refine ret _ _ _ _ ⟨_, _, _, tl, rfl, R, rfl⟩ (by k_asm) (frame_keep (n1 := (_, listOf _ _) :: tl) N (fun p hp => hp) (by assumption) (by k_asm) kN (List.forall_mem_cons.mpr ⟨by k_mem, fun p hp => ?_⟩) (quad4 q1 q2 m1 m2 (by k_mem) (by k_mem) (by k_mem) (by k_mem)))
    repeat (first | exact hp | refine List.Mem.tail _ ?_)
end Mine
end

section
open PySem PySem.W PyProof.Rows
namespace Mine
local macro_rules | `(tactic| k_ne) => `(tactic| first | k_extra "NE" | (refine neN ?_; (try dsimp only); omega))
local macro_rules | `(tactic| walk_at "h:S1") => `(tactic| (refine' ⟨?B, ?F, ?X, ?N, ?T, ?K⟩; (case B => k_asm); (case F => k_asm); (case X => k_asm); (case N => k_asm); (case T => k_asm); (case K => first | exact rfl | assumption)))
local macro_rules | `(tactic| walk_at "h:S2") => `(tactic| (refine' ⟨?d, ?u⟩; (case d => ktr_room); (case u => ktr_units)))
local macro_rules | `(tactic| ktr_units) => `(tactic| first | exact units3 (by assumption) (by decide) | (have hcL9 := cLine_is; (simp only [units_under_make, units_in1, units_deeper, Around.mark_units, units_caller] at *); (try dsimp only [ktrTop] at *); omega))
local macro_rules | `(tactic| k_room) => `(tactic| ktr_room)
local macro_rules | `(tactic| k_all) => `(tactic| assumption)
local macro_rules | `(tactic| cell_enter) => `(tactic| (refine' code_defG ?k1 ?k2 ?k3 ?k4 ?k5 ?kA ?kF ?kK ?k6 ?k7 ?k8 ?k9 ?kB ?_ ?c2 ?c3 ?c4 ?c5; (case kA => exact rfl); (case kF => exact rfl); (case kK => first | exact rfl | assumption); (case k1 => k_asm); (case k2 => k_asm); (case k3 => k_asm); (case k4 => k_asm); (case k5 => k_asm); (case k6 => k_is); (case k7 => k_is); (case k8 => ktr_room); (case k9 => first | exact BindsTo.of_eq rfl | exact binds_K (by k_in) rfl (by k_is) rfl rfl rfl); (case c5 => decide); (case kB => exact locs rfl); (case c2 => exact rfl); (case c3 => exact rfl); (case c4 => exact rfl); k_whole; intro g' L' h' FG' F' N' B' X' T' kG'; (try dsimp only); (try k_lift B'); (try k_fold)))

theorem placesR_spec (w : World) (sk dsk lx ldx : Addr) (so : Int) (sod lod : Obj) (v0 v1 v2 : Value) (bg sz ed : Int) (tb ts te : Tok) (up : Bool) (news : List (Addr × Obj))
    (q1 : (sk, instObj 282 dsk) ∈ news) (q2 : (dsk, sod) ∈ news) (m1 : (lx, instObj 260 ldx) ∈ news) (m2 : (ldx, lod) ∈ news) (hS : SkipD w.params so (.ref lx) sod) (hB : RuleD w.params v0 v1 v2 lod) :
    CallC w 291 [.ref sk, .int bg tb, .int sz ts, .int ed te, .bool up] news 4 (fun r news' => ∃ (l : Addr) (vs : List Value) (n : Nat), r = .ref l ∧ IntsAre vs [] ∧ news' = (l, listOf vs.toArray n) :: news) := by
  w_on
  unfold CallC
  k_fill
  intro loose mean mg mb dp un gd cn cs a ccd cl outer A₀ base h₀ L m s Q E B' F X N T hk hd hu ret
  obtain ⟨t0, t1, t2, rfl⟩ := hB
  obtain ⟨t10, t11, t12, s11, gv, rfl⟩ := hS
  have N0 : News h₀ L s.heap [(sk, instObj 282 dsk), (dsk, _), (lx, instObj 260 ldx), (ldx, _)] := fun p hp => by
    rcases List.mem_cons.mp hp with e | hp
    · exact N p (e ▸ q1)
    rcases List.mem_cons.mp hp with e | hp
    · exact N p (e ▸ q2)
    rcases List.mem_cons.mp hp with e | hp
    · exact N p (e ▸ m1)
    · exact N p (List.mem_singleton.mp hp ▸ m2)
  refine wpAny_call ?_
  k_dflt (refine' cells_enterG ?k1 ?k2 ?k3 ?k4 ?k5 ?kA ?kF ?kK ?k6 ?k7 ?k8 ?k9 ?kB ?kD ?_ ?c2 ?c3 ?c4; (case kA => exact rfl); (case kF => exact rfl); (case kK => assumption); (case k1 => k_asm); (case k2 => k_asm); (case k3 => k_asm); (case k4 => k_asm); (case k5 => k_asm); (case k6 => k_is); (case k7 => k_is); (case k8 => ktr_room); (case k9 => exact BindsTo.of_eq rfl); (case kB => exact rfl); (case kD => decide +kernel); (case c2 => exact rfl); (case c3 => exact rfl); (case c4 => exact rfl); k_whole)
  intro g' L' h' tk' cells' FG' F' N' Y' B' X' T' l1 kG'
  k_lt l1
  have hY := cells5 Y'
  obtain ⟨o1, o2, o3, o4, o5, hE', d1, d2, d3, d4, d5⟩ := hY
  subst hE'
  clear Y'
  simp only [List.cons_append, List.nil_append] at N'
  (try dsimp only)
  (try k_fold)
  k_steps
  (with_reducible rename News _ _ _ _ => kN)
  exact ret _ _ _ _ ⟨_, [], 0, rfl, .nil, rfl⟩ (by k_asm) (frame_keep (n1 := [(_, listOf [].toArray 0)]) N (fun p hp => hp) (by assumption) (by k_asm) kN (List.forall_mem_cons.mpr ⟨by k_mem, List.forall_mem_nil _⟩) (quad4 q1 q2 m1 m2 (by k_mem) (by k_mem) (by k_mem) (by k_mem)))

theorem leadersR_spec (w : World) (sk dsk lx ldx : Addr) (so : Int) (sod lod : Obj) (v0 v1 v2 : Value) (bg sz ed : Int) (tb ts te : Tok) (up : Bool) (news : List (Addr × Obj))
    (q1 : (sk, instObj 282 dsk) ∈ news) (q2 : (dsk, sod) ∈ news) (m1 : (lx, instObj 260 ldx) ∈ news) (m2 : (ldx, lod) ∈ news) (hS : SkipD w.params so (.ref lx) sod) (hB : RuleD w.params v0 v1 v2 lod) :
    CallC w 303 [.ref sk, .int bg tb, .int sz ts, .int ed te, .bool up] news 6 (fun r news' => ∃ (l : Addr) (vs : List Value) (n : Nat) (tl : List (Addr × Obj)), r = .ref l ∧ RefsAre (PairEl lx) tl vs (if sz ≤ 0 then [] else [bg]) ∧ news' = (l, listOf vs.toArray n) :: (tl ++ news)) := by
  w_on
  unfold CallC
  k_fill
  intro loose mean mg mb dp un gd cn cs a ccd cl outer A₀ base h₀ L m s Q E B' F X N T hk hd hu ret
  obtain ⟨t0, t1, t2, rfl⟩ := hB
  obtain ⟨t10, t11, t12, s11, gv, rfl⟩ := hS
  have N0 : News h₀ L s.heap [(sk, instObj 282 dsk), (dsk, _), (lx, instObj 260 ldx), (ldx, _)] := fun p hp => by
    rcases List.mem_cons.mp hp with e | hp
    · exact N p (e ▸ q1)
    rcases List.mem_cons.mp hp with e | hp
    · exact N p (e ▸ q2)
    rcases List.mem_cons.mp hp with e | hp
    · exact N p (e ▸ m1)
    · exact N p (List.mem_singleton.mp hp ▸ m2)
  refine wpAny_call ?_
  k_dflt (refine' cells_enterG ?k1 ?k2 ?k3 ?k4 ?k5 ?kA ?kF ?kK ?k6 ?k7 ?k8 ?k9 ?kB ?kD ?_ ?c2 ?c3 ?c4; (case kA => exact rfl); (case kF => exact rfl); (case kK => assumption); (case k1 => k_asm); (case k2 => k_asm); (case k3 => k_asm); (case k4 => k_asm); (case k5 => k_asm); (case k6 => k_is); (case k7 => k_is); (case k8 => ktr_room); (case k9 => exact BindsTo.of_eq rfl); (case kB => exact rfl); (case kD => decide +kernel); (case c2 => exact rfl); (case c3 => exact rfl); (case c4 => exact rfl); k_whole)
  intro g' L' h' tk' cells' FG' F' N' Y' B' X' T' l1 kG'
  k_lt l1
  have hY := CellsAre.one Y'
  obtain ⟨o1, hE', d1⟩ := hY
  subst hE'
  clear Y'
  simp only [List.cons_append, List.nil_append] at N'
  (try dsimp only)
  (try k_fold)
  k_steps
  all_goals (with_reducible rename News _ _ _ _ => kN)
  · refine ret _ _ _ _ ⟨_, [], 0, [], rfl, ?_, rfl⟩ (by k_asm) (frame_keep (n1 := [(_, listOf [].toArray 0)]) N (fun p hp => hp) (by assumption) (by k_asm) kN (List.forall_mem_cons.mpr ⟨by k_mem, List.forall_mem_nil _⟩) (quad4 q1 q2 m1 m2 (by k_mem) (by k_mem) (by k_mem) (by k_mem)))
    rw [if_pos (by assumption)]
    exact .nil
  · have kN2 := frame_keep (n1 := [(_, listOf [.ref _].toArray 0), (_, tupObj [.int bg tb, .ref lx])]) N (fun p hp => hp) (by assumption) (by k_asm) kN (List.forall_mem_cons.mpr ⟨by k_mem, List.forall_mem_cons.mpr ⟨by k_mem, List.forall_mem_nil _⟩⟩) (quad4 q1 q2 m1 m2 (by k_mem) (by k_mem) (by k_mem) (by k_mem))
    refine (fun hp => ret _ _ _ _ hp (by k_asm) kN2) ⟨_, [.ref _], 0, [(_, _)], rfl, ?_, rfl⟩
    rw [if_neg (by assumption)]
    exact .cons (.head _) ⟨_, rfl⟩ .nil

def IsOr (v : Value) (d a : Int) : Prop := (v = .none ∧ a = d) ∨ ∃ t, v = .int a t
theorem join_or {M : Model} {A : Around} {env : Env} {E : Value → Shared → Prop} {s : Shared} {h₀ : Heap} {L : Addr} {m : Str → Option Value} {e : Expr} {Q : Value → Shared → Prop} {led : List (Addr × Obj)} {v : Value} {d : Int} (hS : SizeV v)
    (h1 : v = .none → wpAny M A (eval e env) (JoinInt h₀ L m s (fun y nw => IsOr v d y ∧ nw = led)) E s) (h1' : ∀ k t, v = .int k t → wpAny M A (eval e env) (JoinInt h₀ L m s (fun y nw => IsOr v d y ∧ nw = led)) E s)
    (h2 : ∀ k t h' tk', IsOr v d k → Fr h₀ L h' m → News h₀ L h' led → Q (.int k t) { s with heap := h', toks := tk' }) : wpAny M A (eval e env) Q E s := by
  have key : wpAny M A (eval e env) (JoinInt h₀ L m s (fun y nw => IsOr v d y ∧ nw = led)) E s := by
    rcases hS with e | ⟨k, t, e, _, _⟩
    · exact h1 e
    · exact h1' k t e
  exact join_int _ key fun k t nw h' tk' a b c => by
    obtain ⟨c, rfl⟩ := c
    exact h2 k t h' tk' c a b
theorem join_ow {M : Model} {A : Around} {env : Env} {E : Value → Shared → Prop} {s : Shared} {h₀ : Heap} {L lx bx : Addr} {m : Str → Option Value} {e : Expr} {Q : Value → Shared → Prop} {led : List (Addr × Obj)} {P : Params} {v0 v1 v2 : Value} {t0 t1 t2 b0 b1 b2 b3 b4 b5 b6 b7 : Tok} {k wd ht dp_ : Int} {more : List DictEntry} {n : Nat}
    (_ : Fr h₀ L s.heap m) (_ : News h₀ L s.heap led) (_ : (lx, dictOf [ent P "width" t0 v0, ent P "height" t1 v1, ent P "depth" t2 v2] 3) ∈ led) (_ : (bx, dictOf (ent P "kind" b0 (.int k b1) :: ent P "width" b2 (.int wd b3) :: ent P "height" b4 (.int ht b5) :: ent P "depth" b6 (.int dp_ b7) :: more) n) ∈ led) (hS : SizeV v0)
    (h1 : v0 = .none → wpAny M A (eval e env) (JoinInt h₀ L m s (fun y nw => IsOr v0 (if k = 2 then 0 else wd) y ∧ nw = led)) E s) (h1' : ∀ k' t, v0 = .int k' t → wpAny M A (eval e env) (JoinInt h₀ L m s (fun y nw => IsOr v0 (if k = 2 then 0 else wd) y ∧ nw = led)) E s)
    (h2 : ∀ k' t h' tk', IsOr v0 (if k = 2 then 0 else wd) k' → Fr h₀ L h' m → News h₀ L h' led → Q (.int k' t) { s with heap := h', toks := tk' }) : wpAny M A (eval e env) Q E s := join_or hS h1 h1' h2
local macro_rules | `(tactic| walk_at "eval IfExp") => `(tactic| k_extra "Q eval IfExp")
theorem words_C9_0 : True := by
  k_with_none
  k_with "PROJ" => first | exact h9.1 | exact h9 | exact h9.2.1 | exact h9.2 | exact h9.2.2.1 | exact h9.2.2 | exact h9.2.2.2.1 | exact h9.2.2.2 | exact h9.2.2.2.2.1 | exact h9.2.2.2.2 | exact h9.2.2.2.2.2.1 | exact h9.2.2.2.2.2 | exact h9.2.2.2.2.2.2.1 | exact h9.2.2.2.2.2.2 | exact h9.2.2.2.2.2.2.2.1 | exact h9.2.2.2.2.2.2.2 | exact h9.2.2.2.2.2.2.2.2.1 | exact h9.2.2.2.2.2.2.2.2 | exact h9.2.2.2.2.2.2.2.2.2.1 | exact h9.2.2.2.2.2.2.2.2.2 | exact h9.2.2.2.2.2.2.2.2.2.2.1 | exact h9.2.2.2.2.2.2.2.2.2.2 | exact h9.2.2.2.2.2.2.2.2.2.2.2.1 | exact h9.2.2.2.2.2.2.2.2.2.2.2 | exact h9.2.2.2.2.2.2.2.2.2.2.2.2.1 | exact h9.2.2.2.2.2.2.2.2.2.2.2.2 | exact h9.2.2.2.2.2.2.2.2.2.2.2.2.2.1 | exact h9.2.2.2.2.2.2.2.2.2.2.2.2.2 | exact h9.2.2.2.2.2.2.2.2.2.2.2.2.2.2.1 | exact h9.2.2.2.2.2.2.2.2.2.2.2.2.2.2 | exact h9.2.2.2.2.2.2.2.2.2.2.2.2.2.2.2.1 | exact h9.2.2.2.2.2.2.2.2.2.2.2.2.2.2.2 | exact h9.2.2.2.2.2.2.2.2.2.2.2.2.2.2.2.2.1 | exact h9.2.2.2.2.2.2.2.2.2.2.2.2.2.2.2.2 | exact h9.2.2.2.2.2.2.2.2.2.2.2.2.2.2.2.2.2.1 | exact h9.2.2.2.2.2.2.2.2.2.2.2.2.2.2.2.2.2 | exact h9.2.2.2.2.2.2.2.2.2.2.2.2.2.2.2.2.2.2.1 | exact h9.2.2.2.2.2.2.2.2.2.2.2.2.2.2.2.2.2.2 | exact h9.2.2.2.2.2.2.2.2.2.2.2.2.2.2.2.2.2.2.2.1 | exact h9.2.2.2.2.2.2.2.2.2.2.2.2.2.2.2.2.2.2.2 | exact h9.2.2.2.2.2.2.2.2.2.2.2.2.2.2.2.2.2.2.2.2.1 | exact h9.2.2.2.2.2.2.2.2.2.2.2.2.2.2.2.2.2.2.2.2 | exact h9.2.2.2.2.2.2.2.2.2.2.2.2.2.2.2.2.2.2.2.2.2.1 | exact h9.2.2.2.2.2.2.2.2.2.2.2.2.2.2.2.2.2.2.2.2.2 | exact h9.2.2.2.2.2.2.2.2.2.2.2.2.2.2.2.2.2.2.2.2.2.2.1 | exact h9.2.2.2.2.2.2.2.2.2.2.2.2.2.2.2.2.2.2.2.2.2.2 | exact h9.2.2.2.2.2.2.2.2.2.2.2.2.2.2.2.2.2.2.2.2.2.2.2.1 | exact h9.2.2.2.2.2.2.2.2.2.2.2.2.2.2.2.2.2.2.2.2.2.2.2 | exact h9.2.2.2.2.2.2.2.2.2.2.2.2.2.2.2.2.2.2.2.2.2.2.2.2.1 | exact h9.2.2.2.2.2.2.2.2.2.2.2.2.2.2.2.2.2.2.2.2.2.2.2.2
  k_with "NE" => ((try refine neN ?_); (try dsimp only); first
    | assumption
    | exact Ne.symm (by assumption)
    | exact Nat.ne_of_lt (by assumption)
    | exact Nat.ne_of_gt (by assumption)
    | exact off_ne1 _
    | exact Ne.symm (off_ne1 _)
    | exact off_ne2 _
    | exact Ne.symm (off_ne2 _)
    | exact off_ne3 _
    | exact Ne.symm (off_ne3 _)
    | exact off_ne4 _
    | exact Ne.symm (off_ne4 _)
    | exact off_ne5 _
    | exact Ne.symm (off_ne5 _)
    | (refine succ_ne ?_; k_extra "NE")
    | (refine ne_cr (by assumption) ?_; intro h9; k_extra "PROJ")
    | (refine ne_cl (by assumption) ?_; intro h9; k_extra "PROJ")
    | (refine lt_cr (by assumption) ?_; intro h9; k_extra "PROJ")
    | (refine lt_cl (by assumption) ?_; intro h9; k_extra "PROJ")
    | (refine lt_off1 ?_; first | assumption | (refine lt_c (by assumption) ?_; intro h9; k_extra "PROJ"))
    | (refine Ne.symm (lt_off1 ?_); first | assumption | (refine lt_c (by assumption) ?_; intro h9; k_extra "PROJ"))
    | (refine lt_off2 ?_; first | assumption | (refine lt_c (by assumption) ?_; intro h9; k_extra "PROJ"))
    | (refine Ne.symm (lt_off2 ?_); first | assumption | (refine lt_c (by assumption) ?_; intro h9; k_extra "PROJ"))
    | (refine lt_off3 ?_; first | assumption | (refine lt_c (by assumption) ?_; intro h9; k_extra "PROJ"))
    | (refine Ne.symm (lt_off3 ?_); first | assumption | (refine lt_c (by assumption) ?_; intro h9; k_extra "PROJ"))
    | (refine lt_off4 ?_; first | assumption | (refine lt_c (by assumption) ?_; intro h9; k_extra "PROJ"))
    | (refine Ne.symm (lt_off4 ?_); first | assumption | (refine lt_c (by assumption) ?_; intro h9; k_extra "PROJ"))
    | (refine lt_off5 ?_; first | assumption | (refine lt_c (by assumption) ?_; intro h9; k_extra "PROJ"))
    | (refine Ne.symm (lt_off5 ?_); first | assumption | (refine lt_c (by assumption) ?_; intro h9; k_extra "PROJ")))
  k_with "Q eval IfExp" => (k_here; (with_reducible show wpAny _ _ (eval (Expr.IfExp (Expr.Compare (Expr.Attribute _ (Str.ofString "width") _) _ _ _) _ _ _) _) _ _ _); (fail_if_success (with_reducible show wpAny _ _ _ (JoinInt _ _ _ _ _) _ _)); k_dflt (apply join_ow; (case _ => k_asm); (case _ => k_asm); (case _ => k_mem); (case _ => k_mem); (case hS => assumption); k_whole); all_goals (first | (intro e9; subst e9; (try dsimp only); (try k_fold)) | (intro k9 t9 e9; subst e9; (try dsimp only); (try k_fold)) | (intro k9 t9 h9 tk9 c9 F9 N9; (try dsimp only); (try k_fold))))
  trivial
theorem join_oh {M : Model} {A : Around} {env : Env} {E : Value → Shared → Prop} {s : Shared} {h₀ : Heap} {L lx bx : Addr} {m : Str → Option Value} {e : Expr} {Q : Value → Shared → Prop} {led : List (Addr × Obj)} {P : Params} {v0 v1 v2 : Value} {t0 t1 t2 b0 b1 b2 b3 b4 b5 b6 b7 : Tok} {k wd ht dp_ : Int} {more : List DictEntry} {n : Nat}
    (_ : Fr h₀ L s.heap m) (_ : News h₀ L s.heap led) (_ : (lx, dictOf [ent P "width" t0 v0, ent P "height" t1 v1, ent P "depth" t2 v2] 3) ∈ led) (_ : (bx, dictOf (ent P "kind" b0 (.int k b1) :: ent P "width" b2 (.int wd b3) :: ent P "height" b4 (.int ht b5) :: ent P "depth" b6 (.int dp_ b7) :: more) n) ∈ led) (hS : SizeV v1)
    (h1 : v1 = .none → wpAny M A (eval e env) (JoinInt h₀ L m s (fun y nw => IsOr v1 (if k = 2 then ht else 0) y ∧ nw = led)) E s) (h1' : ∀ k' t, v1 = .int k' t → wpAny M A (eval e env) (JoinInt h₀ L m s (fun y nw => IsOr v1 (if k = 2 then ht else 0) y ∧ nw = led)) E s)
    (h2 : ∀ k' t h' tk', IsOr v1 (if k = 2 then ht else 0) k' → Fr h₀ L h' m → News h₀ L h' led → Q (.int k' t) { s with heap := h', toks := tk' }) : wpAny M A (eval e env) Q E s := join_or hS h1 h1' h2
theorem words_C9_1 : True := by
  k_with "Q eval IfExp" => (k_here; (with_reducible show wpAny _ _ (eval (Expr.IfExp (Expr.Compare (Expr.Attribute _ (Str.ofString "height") _) _ _ _) _ _ _) _) _ _ _); (fail_if_success (with_reducible show wpAny _ _ _ (JoinInt _ _ _ _ _) _ _)); k_dflt (apply join_oh; (case _ => k_asm); (case _ => k_asm); (case _ => k_mem); (case _ => k_mem); (case hS => assumption); k_whole); all_goals (first | (intro e9; subst e9; (try dsimp only); (try k_fold)) | (intro k9 t9 e9; subst e9; (try dsimp only); (try k_fold)) | (intro k9 t9 h9 tk9 c9 F9 N9; (try dsimp only); (try k_fold))))
  trivial
theorem join_od {M : Model} {A : Around} {env : Env} {E : Value → Shared → Prop} {s : Shared} {h₀ : Heap} {L lx bx : Addr} {m : Str → Option Value} {e : Expr} {Q : Value → Shared → Prop} {led : List (Addr × Obj)} {P : Params} {v0 v1 v2 : Value} {t0 t1 t2 b0 b1 b2 b3 b4 b5 b6 b7 : Tok} {k wd ht dp_ : Int} {more : List DictEntry} {n : Nat}
    (_ : Fr h₀ L s.heap m) (_ : News h₀ L s.heap led) (_ : (lx, dictOf [ent P "width" t0 v0, ent P "height" t1 v1, ent P "depth" t2 v2] 3) ∈ led) (_ : (bx, dictOf (ent P "kind" b0 (.int k b1) :: ent P "width" b2 (.int wd b3) :: ent P "height" b4 (.int ht b5) :: ent P "depth" b6 (.int dp_ b7) :: more) n) ∈ led) (hS : SizeV v2)
    (h1 : v2 = .none → wpAny M A (eval e env) (JoinInt h₀ L m s (fun y nw => IsOr v2 (if k = 2 then dp_ else 0) y ∧ nw = led)) E s) (h1' : ∀ k' t, v2 = .int k' t → wpAny M A (eval e env) (JoinInt h₀ L m s (fun y nw => IsOr v2 (if k = 2 then dp_ else 0) y ∧ nw = led)) E s)
    (h2 : ∀ k' t h' tk', IsOr v2 (if k = 2 then dp_ else 0) k' → Fr h₀ L h' m → News h₀ L h' led → Q (.int k' t) { s with heap := h', toks := tk' }) : wpAny M A (eval e env) Q E s := join_or hS h1 h1' h2
local macro_rules | `(tactic| walk_at "JoinInt") => `(tactic| (k_dflt (refine' JoinInt.intro _ _ _ _ _ ?F ?N ?S; (case F => k_asm); (case N => k_asm); (case S => (refine ⟨?_, rfl⟩; first | exact .inr ⟨_, rfl⟩ | exact .inl ⟨rfl, (if_pos (by assumption)).symm⟩ | exact .inl ⟨rfl, (if_neg (by assumption)).symm⟩)))))
theorem words_C9_2 : True := by
  k_with "Q eval IfExp" => (k_here; (with_reducible show wpAny _ _ (eval (Expr.IfExp (Expr.Compare (Expr.Attribute _ (Str.ofString "depth") _) _ _ _) _ _ _) _) _ _ _); (fail_if_success (with_reducible show wpAny _ _ _ (JoinInt _ _ _ _ _) _ _)); k_dflt (apply join_od; (case _ => k_asm); (case _ => k_asm); (case _ => k_mem); (case _ => k_mem); (case hS => assumption); k_whole); all_goals (first | (intro e9; subst e9; (try dsimp only); (try k_fold)) | (intro k9 t9 e9; subst e9; (try dsimp only); (try k_fold)) | (intro k9 t9 h9 tk9 c9 F9 N9; (try dsimp only); (try k_fold))))
  trivial
theorem rsizes_spec (w : World) (lx ldx bx bdx : Addr) (lod bod : Obj) (v0 v1 v2 : Value) (k wd ht dp_ : Int) (news : List (Addr × Obj)) (h0 : SizeV v0) (h1 : SizeV v1) (h2 : SizeV v2)
    (q1 : (bx, instObj 239 bdx) ∈ news) (q2 : (bdx, bod) ∈ news) (m1 : (lx, instObj 260 ldx) ∈ news) (m2 : (ldx, lod) ∈ news) (hS : BoxD w.params k wd ht dp_ bod) (hB : RuleD w.params v0 v1 v2 lod) :
    CallC w 298 [.ref lx, .ref bx] news 4 (fun r news' => ∃ (T : Addr) (a b c : Int) (ta tb tc : Tok), r = .ref T ∧ IsOr v0 (if k = 2 then 0 else wd) a ∧ IsOr v1 (if k = 2 then ht else 0) b ∧ IsOr v2 (if k = 2 then dp_ else 0) c ∧ news' = (T, tupObj [.int a ta, .int b tb, .int c tc]) :: news) := by
  w_on
  unfold CallC
  k_fill
  intro loose mean mg mb dp un gd cn cs a ccd cl outer A₀ base h₀ L m s Q E B' F X N T hk hd hu ret
  obtain ⟨t0, t1, t2, rfl⟩ := hB
  obtain ⟨t3, t4, t5, t6, t7, t8, t9, t10, t11, s0, s1, s2, s3, v4, v5, v6, v7, v8, rfl⟩ := hS
  have N0 : News h₀ L s.heap [(bx, instObj 239 bdx), (bdx, _), (lx, instObj 260 ldx), (ldx, _)] := fun p hp => by
    rcases List.mem_cons.mp hp with e | hp
    · exact N p (e ▸ q1)
    rcases List.mem_cons.mp hp with e | hp
    · exact N p (e ▸ q2)
    rcases List.mem_cons.mp hp with e | hp
    · exact N p (e ▸ m1)
    · exact N p (List.mem_singleton.mp hp ▸ m2)
  refine wpAny_call ?_
  k_dflt cell_enter
  k_steps
  all_goals (with_reducible rename News _ _ _ _ => kN)
  all_goals exact ret _ _ _ _ ⟨_, _, _, _, _, _, _, rfl, by assumption, by assumption, by assumption, rfl⟩ (by k_asm) (frame_keep (n1 := [(_, tupObj [.int _ _, .int _ _, .int _ _])]) N (fun p hp => hp) (by assumption) (by k_asm) kN (List.forall_mem_cons.mpr ⟨by k_mem, List.forall_mem_nil _⟩) (quad4 q1 q2 m1 m2 (by k_mem) (by k_mem) (by k_mem) (by k_mem)))
end Mine
end

section
open PySem PySem.W PyProof.Rows
namespace Mine
local macro_rules | `(tactic| k_ne) => `(tactic| first | k_extra "NE" | (refine neN ?_; (try dsimp only); omega))
local macro_rules | `(tactic| walk_at "h:S1") => `(tactic| (refine' ⟨?B, ?F, ?X, ?N, ?T, ?K⟩; (case B => k_asm); (case F => k_asm); (case X => k_asm); (case N => k_asm); (case T => k_asm); (case K => first | exact rfl | assumption)))
local macro_rules | `(tactic| walk_at "h:S2") => `(tactic| (refine' ⟨?d, ?u⟩; (case d => ktr_room); (case u => ktr_units)))
local macro_rules | `(tactic| ktr_units) => `(tactic| first | exact units3 (by assumption) (by decide) | (have hcL9 := cLine_is; (simp only [units_under_make, units_in1, units_deeper, Around.mark_units, units_caller] at *); (try dsimp only [ktrTop] at *); omega))
local macro_rules | `(tactic| k_room) => `(tactic| ktr_room)
local macro_rules | `(tactic| k_all) => `(tactic| assumption)

theorem ixA {k : Int} (h : 0 ≤ k) : 0 ≤ k + 1 := by omega
theorem ixB {k : Int} {n : Nat} (h0 : 0 ≤ k) (h : k < 0 + (((n : Int) - 1 - 0).toNat : Int)) : k + 1 < (n : Int) := by omega
theorem ixC {k : Int} {n : Nat} (h0 : 0 ≤ k) (h : k < 0 + (((n : Int) - 1 - 0).toNat : Int)) : k < (n : Int) := by omega
theorem ixD {k : Int} {n : Nat} (h : k < (n : Int)) (hn : n ≤ 1000) : k < 2 ^ 63 := by omega
theorem fr_eq {h₀ h : Heap} {L : Addr} {m m' : Str → Option Value} (F : Fr h₀ L h m) (e : ∀ z, m z = m' z) : Fr h₀ L h m' := by
  have q : m = m' := funext e
  subst q
  exact F
def OneStep (h₀ : Heap) (L : Addr) (s : Shared) (x : Str) (m : Str → Option Value) (news : List (Addr × Obj)) (P : Int → Prop) (μ : Int → Nat) (k : Int) (f : Flow) (s₃ : Shared) : Prop :=
  f = .next ∧ ∃ k' t' h' tk', s₃ = { s with heap := h', toks := tk' } ∧ Fr h₀ L h' (fun z => if z = x then some (.int k' t') else m z) ∧ News h₀ L h' news ∧ P k' ∧ μ k' < μ k
theorem while_one {prog : Program} {w : World} {A : Around} {E : Value → Shared → Prop} {Q : Flow → Shared → Prop} {s : Shared} {env : Env} {h₀ : Heap} {L : Addr} {test : Expr} {body : List Stmt} {pos : Pos} {m : Str → Option Value} {news : List (Addr × Obj)} (x : Str) (P : Int → Prop) (μ : Int → Nat) {k0 : Int} {t0 : Tok}
    (F : Fr h₀ L s.heap m) (N : News h₀ L s.heap news) (hx : m x = some (.int k0 t0)) (hp : P k0)
    (turn : ∀ k t h tk, P k → Fr h₀ L h (fun z => if z = x then some (.int k t) else m z) → News h₀ L h news →
      wpAny (model prog w) A (isTrue test env (eval test env)) (fun b s₂ => if b = true then wpAny (model prog w) A (execs body env) (OneStep h₀ L s x m news P μ k) E s₂ else Q .next s₂) E { s with heap := h, toks := tk })
    (hE : PassesOwn (model prog w) A env E) :
    wpAny (model prog w) A (exec (.While test body [] pos) env) Q E s := by
  refine While_inv2 (fun n m₁ nx => ∃ k t, m₁ = (fun z => if z = x then some (.int k t) else m z) ∧ nx = news ∧ P k ∧ μ k = n) F N ⟨k0, t0, funext fun z => ?_, rfl, hp, rfl⟩ ?_ hE
  · by_cases hz : z = x
    · rw [if_pos hz, hz, hx]
    · rw [if_neg hz]
  · rintro n m₁ nx h tk F₁ N₁ ⟨k, t, rfl, rfl, hP, rfl⟩
    refine wpAny_mono (turn k t h tk hP F₁ N₁) (fun b s₂ q => ?_) fun _ _ e => e
    cases b with
    | false => simpa using q
    | true =>
      simp only [if_true] at q ⊢
      refine wpAny_mono q (fun f s₃ r => ?_) fun _ _ e => e
      obtain ⟨rfl, k', t', h', tk', rfl, F', N', hP', hm⟩ := r
      exact ⟨h', tk', _, nx, μ k', rfl, F', N', hm, k', t', rfl, rfl, hP', rfl⟩
open PyProof.V PySem.Spec in
/-- where a comprehension that copies a range comes to -/
def RangeSrc (h₀ : Heap) (L : Addr) (m : Str → Option Value) (Q : Value → Shared → Prop) (xv : Value) (s₁ : Shared) : Prop :=
  ∃ (news : List (Addr × Obj)) (r : Addr) (a b c : Int) (t u v : Tok) (n : Nat), xv = .ref r ∧ IsRange s₁.heap r a b c t u v ∧ Builtin.Range.small a b c = true ∧ Builtin.Range.rangeSize a b c = (n : Int) ∧ n ≤ sizeLine ∧ Fr h₀ L s₁.heap m ∧ News h₀ L s₁.heap news ∧
    ∀ D (ys : List Value) h' tk, Fr h₀ L h' m → News h₀ L h' news → h'.IsList D ys.toArray → CarriedAll ys ((rangeInts a c n).map PyData.int) → Q (.ref D) { s₁ with heap := h', toks := tk }
section
variable {prog : Program} {w : World} {A : Around} {E : Value → Shared → Prop} {s : Shared} {h₀ : Heap} {L : Addr} {m : Str → Option Value} {env : Env}
theorem comp_range_id {iter : Expr} {x : Str} {px px' : Pos} {scope : Scope} {cl : List (Str × Addr)} {pos : Pos} {Q : Value → Shared → Prop} (_F : Fr h₀ L s.heap m)
    (hh : A.handled = none) (hclos : closureFor scope env = pure cl) (hcell : ∀ y ∈ scope.names, y.2 ≠ .cell) (hkind : scope.kind = .function)
    (hnames : ∀ y ∈ scope.names, y.2 = .local → scope.names.lookup y.1 = some .local) (hx : scope.names.lookup x = some .local) (hd : (x == ("__debug__" : Str)) = false)
    (hl : ∀ C, (compEnvC scope cl C env).kindOf x = some .local) (h : wpAny (model prog w) A (eval iter env) (RangeSrc h₀ L m Q) E s)
    (hs : ∀ x, foldedSetIterable iter env x = pure x) :
    wpAny (model prog w) A (eval (.ListComp (.Name x px') [⟨.Name x px, iter, [], 0⟩] scope pos) env) Q E s := by
  refine ListComp_DCr (h₀ := h₀) (L := L) (m := m) (pz := fun _ => true) (d := PyData.int) hh hclos hcell hkind hnames hx (wpAny_mono h (fun xv s₁ q => ?_) fun _ _ e => e) hs
  obtain ⟨news, r, a, b, c, t, u, v, n, rfl, hr, hsm, hn, hz, F, N, k⟩ := q
  refine ⟨news, r, a, b, c, t, u, v, n, rfl, hr, hsm, hn, hz, F, N, ?_, ?_, ?_⟩
  · intro C a' v' s₂ m₂ E' _ _ _ _ _ _
    exact wpAny_pure ⟨rfl, s₂.heap, s₂.toks, rfl, fun _ _ e => e⟩
  · intro C a' v' s₂ m₂ E' _ _ ha _ hns hm _
    obtain ⟨t', rfl⟩ := ha
    exact ldVarK hns hm ⟨.int _ _, s₂.heap, s₂.toks, rfl, fun _ _ e => e⟩ hkind (hl C) hd
  · intro D ys h' tk F' N' _ hD _ hc
    refine k D ys h' tk F' N' hD ?_
    rw [List.filter_eq_self.mpr (fun _ _ => rfl)] at hc
    exact hc
end
theorem carried_ints {ks : List Int} : ∀ {ys : List Value}, CarriedAll ys (ks.map PyData.int) → IntsAre ys ks := by
  induction ks with
  | nil => intro ys h; cases h; exact .nil
  | cons k ks ih =>
    intro ys h
    cases h with
    | cons a b => cases a with | int i t => exact .cons _ _ (ih b)
theorem ite_twice {c : Prop} [Decidable c] {α : Type} {a b d : α} : (if c then a else if c then b else d) = if c then a else d := by
  by_cases h : c
  · rw [if_pos h, if_pos h]
  · rw [if_neg h, if_neg h, if_neg h]
theorem wl1 {k ed q W : Int} (hW : 0 < W) (h : k ≤ ed - q * W) (hn : (k - ed).fmod W ≠ 0) : k + 1 ≤ ed - q * W := by
  by_cases e : k = ed - q * W
  · exfalso
    apply hn
    rw [Int.fmod_eq_emod_of_nonneg _ (by omega), show k - ed = (-q) * W by rw [Int.neg_mul]; omega]
    exact Int.mul_emod_left _ _
  · omega
theorem wl2 {k ed bg W : Int} (hW : 0 < W) (h0 : bg ≤ k) (h : k ≤ ed - (ed - bg).fdiv W * W) (hn : (k - ed).fmod W = 0) : k = ed - (ed - bg).fdiv W * W := by
  rw [Int.fmod_eq_emod_of_nonneg _ (by omega)] at hn
  rw [Int.fdiv_eq_ediv_of_nonneg _ (by omega)] at h ⊢
  have e1 := Int.emod_add_mul_ediv (k - ed) W
  have e2 := Int.emod_add_mul_ediv (ed - bg) W
  have e3 := Int.emod_lt_of_pos (ed - bg) hW
  rw [hn, Int.zero_add] at e1
  generalize (ed - bg) / W = q at *
  generalize (k - ed) / W = p at *
  generalize (ed - bg) % W = r at *
  have e4 : W * (p + q) ≤ 0 := by rw [Int.mul_add, Int.mul_comm W q]; omega
  have e5 : -W < W * (p + q) := by rw [Int.mul_add]; omega
  have e6 : p + q ≤ 0 := by
    by_cases hc : p + q ≤ 0
    · exact hc
    · have := Int.mul_le_mul_of_nonneg_left (show (1 : Int) ≤ p + q by omega) (show 0 ≤ W by omega)
      omega
  have e7 : 0 ≤ p + q := by
    by_cases hc : 0 ≤ p + q
    · exact hc
    · have := Int.mul_le_mul_of_nonneg_left (show p + q ≤ (-1 : Int) by omega) (show 0 ≤ W by omega)
      omega
  have e8 : p = -q := by omega
  rw [e8, Int.mul_neg, Int.mul_comm] at e1
  omega
theorem rs_eq {a e W : Int} (hW : 0 < W) : Builtin.Range.rangeSize a (e - W + 1) W = (((e - a).fdiv W).toNat : Int) := by
  unfold Builtin.Range.rangeSize
  rw [if_pos hW, Int.fdiv_eq_ediv_of_nonneg _ (by omega)]
  split
  · rename_i h
    rw [show e - W + 1 - a - 1 = (e - a) + (-1) * W by omega, Int.add_mul_ediv_right _ _ (by omega)]
    have : 1 ≤ (e - a) / W := (Int.le_ediv_iff_mul_le hW).mpr (by omega)
    omega
  · rename_i h
    have : (e - a) / W < 1 := (Int.ediv_lt_iff_lt_mul hW).mpr (by omega)
    omega
theorem rs_small {a b W : Int} (hW : 0 < W) (h1 : -100000 ≤ a) (h2 : a ≤ 100000) (h3 : -100000 ≤ b) (h4 : b ≤ 100000) (h5 : W ≤ 1000) {n : Nat} (hn : Builtin.Range.rangeSize a b W = (n : Int)) (hn2 : n ≤ 100000) : Builtin.Range.small a b W = true := by
  unfold Builtin.Range.small
  simp only [hn, Builtin.Range.rangeFitsLong, Bool.and_eq_true, Bool.or_eq_true, decide_eq_true_eq, beq_iff_eq]
  rw [if_pos hW]
  simp only [Bool.and_eq_true, decide_eq_true_eq]
  omega
theorem ri_eq {f W : Int} {n : Nat} : rangeInts f W n = (rangeKs 0 n).map fun k => f + W * k := by
  unfold rangeInts rangeKs
  rw [List.map_map]
  apply List.map_congr_left
  intro i _
  simp [Int.mul_comm]
theorem quad1 {a : Addr} {oa : Obj} {news n2 : List (Addr × Obj)} (ha : (a, oa) ∈ news) (ha2 : (a, oa) ∈ n2) : ∀ p ∈ news, p.1 ∈ [a] → ∃ o, (p.1, o) ∈ news ∧ (p.1, o) ∈ n2 := fun p hp hm => by
  rw [List.mem_singleton.mp hm]; exact ⟨_, ha, ha2⟩
theorem pl1' {bg sz ed W : Int} (hW : 0 < W) (hz : 0 < sz) : places 1 bg sz ed W = (rangeKs 0 ((bg + sz - (ed - (ed - bg).fdiv W * W)).fdiv W).toNat).map fun k => ed - (ed - bg).fdiv W * W + W * k := by
  unfold places plCnt plFirst plStep
  rw [if_neg (by omega), if_pos rfl, if_pos rfl, if_neg (by decide)]
theorem wpA {bg k : Int} (h : bg ≤ k) : bg ≤ k + 1 := by omega
theorem wpM {k f : Int} (h : k + 1 ≤ f) : (f - (k + 1)).toNat < (f - k).toNat := by omega
theorem wl3 {bg sz ed W k : Int} (hW : 0 < W) (hW2 : W ≤ 200) (hz : 0 < sz) (hz2 : sz ≤ 100) (z1 : -100 ≤ bg) (z2 : bg ≤ 100) (h0 : bg ≤ k) (hk : k = ed - (ed - bg).fdiv W * W) :
    Builtin.Range.small k (bg + sz - W + 1) W = true ∧ Builtin.Range.rangeSize k (bg + sz - W + 1) W = (((bg + sz - k).fdiv W).toNat : Int) ∧ ((bg + sz - k).fdiv W).toNat ≤ sizeLine := by
  have c3 := fd_le2 (x := bg + sz - k) hW (by omega)
  have hrs := rs_eq (a := k) (e := bg + sz) hW
  have e4 := Int.emod_lt_of_pos (ed - bg) hW
  have e5 := Int.emod_add_mul_ediv (ed - bg) W
  have hk' := hk
  rw [Int.fdiv_eq_ediv_of_nonneg _ (by omega), Int.mul_comm] at hk'
  refine ⟨rs_small hW (by omega) (by omega) (by omega) (by omega) (by omega) hrs (by omega), hrs, by rw [sizeLine_eq]; omega⟩
theorem isl {h₀ h : Heap} {L l : Addr} {vs : List Value} {n : Nat} {news : List (Addr × Obj)} (N : News h₀ L h news) (hm : (l, listOf vs.toArray n) ∈ news) : h.IsList l vs.toArray := ⟨_, (N _ hm).1, rfl, n, rfl⟩
theorem unA {dp un : Nat} {gd : Option (List Code)} {cn : Str} {cs : Scope} {L a : Addr} {ccd : Value} {cl : List (Str × Addr)} {outer : List Env} {env : Env} (h : un + 8 * 14 < cLine) : ((ktrTop dp un gd cn cs L a ccd cl outer).deeper env).units + 64 < cLine := by
  show un + 3 + 64 < cLine
  omega
end Mine
end

section
open PySem PySem.W PyProof.Rows
namespace Mine
local macro_rules | `(tactic| k_ne) => `(tactic| first | k_extra "NE" | (refine neN ?_; (try dsimp only); omega))
local macro_rules | `(tactic| walk_at "h:S1") => `(tactic| (refine' ⟨?B, ?F, ?X, ?N, ?T, ?K⟩; (case B => k_asm); (case F => k_asm); (case X => k_asm); (case N => k_asm); (case T => k_asm); (case K => first | exact rfl | assumption)))
local macro_rules | `(tactic| walk_at "h:S2") => `(tactic| (refine' ⟨?d, ?u⟩; (case d => ktr_room); (case u => ktr_units)))
local macro_rules | `(tactic| ktr_units) => `(tactic| first | exact units3 (by assumption) (by decide) | (have hcL9 := cLine_is; (simp only [units_under_make, units_in1, units_deeper, Around.mark_units, units_caller] at *); (try dsimp only [ktrTop] at *); omega))
local macro_rules | `(tactic| k_room) => `(tactic| ktr_room)
local macro_rules | `(tactic| k_all) => `(tactic| assumption)

local macro_rules | `(tactic| walk_at "subscriptTail Name BinOp ref int") => `(tactic| (k_here; k_dflt (refine' ksa_sub ?k1 ?k2 ?k3 ?k4 ?k5 ?k6 ?_ ?k7; (case k1 => k_asm); (case k2 => k_mem); (case k3 => with_reducible assumption); (case k4 => exact ixA (by assumption)); (case k5 => exact ixB (by assumption) (by assumption)); (case k6 => exact ixD (ixB (by assumption) (by assumption)) (by assumption)); (case k7 => with_unfolding_all rfl); k_whole); intro _))
local macro_rules | `(tactic| walk_at "subscriptTail Name Name ref int") => `(tactic| (k_here; k_dflt (refine' ksa_sub ?k1 ?k2 ?k3 ?k4 ?k5 ?k6 ?_ ?k7; (case k1 => k_asm); (case k2 => k_mem); (case k3 => with_reducible assumption); (case k4 => assumption); (case k5 => exact ixC (by assumption) (by assumption)); (case k6 => exact ixD (ixC (by assumption) (by assumption)) (by assumption)); (case k7 => with_unfolding_all rfl); k_whole); intro _))
local macro_rules | `(tactic| walk_at "eval ListComp Name cons") => `(tactic| k_extra "Q eval ListComp Name cons")
local macro_rules | `(tactic| walk_at "compareOp Eq ref ref") => `(tactic| (k_here; k_dflt (refine' ke_eq_ints ?ea ?eb ?ec ?ed ?eu ?_; (case ea => first | with_reducible assumption | exact isl (by k_asm) (by k_mem)); (case eb => first | with_reducible assumption | exact isl (by k_asm) (by k_mem)); (case ec => with_reducible assumption); (case ed => with_reducible assumption); (case eu => exact unA (by assumption)); k_whole)))
theorem words_CA_0 : True := by
  k_with_none
  k_with "PROJ" => first | exact h9.1 | exact h9 | exact h9.2.1 | exact h9.2 | exact h9.2.2.1 | exact h9.2.2 | exact h9.2.2.2.1 | exact h9.2.2.2 | exact h9.2.2.2.2.1 | exact h9.2.2.2.2 | exact h9.2.2.2.2.2.1 | exact h9.2.2.2.2.2 | exact h9.2.2.2.2.2.2.1 | exact h9.2.2.2.2.2.2 | exact h9.2.2.2.2.2.2.2.1 | exact h9.2.2.2.2.2.2.2 | exact h9.2.2.2.2.2.2.2.2.1 | exact h9.2.2.2.2.2.2.2.2 | exact h9.2.2.2.2.2.2.2.2.2.1 | exact h9.2.2.2.2.2.2.2.2.2 | exact h9.2.2.2.2.2.2.2.2.2.2.1 | exact h9.2.2.2.2.2.2.2.2.2.2 | exact h9.2.2.2.2.2.2.2.2.2.2.2.1 | exact h9.2.2.2.2.2.2.2.2.2.2.2 | exact h9.2.2.2.2.2.2.2.2.2.2.2.2.1 | exact h9.2.2.2.2.2.2.2.2.2.2.2.2 | exact h9.2.2.2.2.2.2.2.2.2.2.2.2.2.1 | exact h9.2.2.2.2.2.2.2.2.2.2.2.2.2 | exact h9.2.2.2.2.2.2.2.2.2.2.2.2.2.2.1 | exact h9.2.2.2.2.2.2.2.2.2.2.2.2.2.2 | exact h9.2.2.2.2.2.2.2.2.2.2.2.2.2.2.2.1 | exact h9.2.2.2.2.2.2.2.2.2.2.2.2.2.2.2 | exact h9.2.2.2.2.2.2.2.2.2.2.2.2.2.2.2.2.1 | exact h9.2.2.2.2.2.2.2.2.2.2.2.2.2.2.2.2 | exact h9.2.2.2.2.2.2.2.2.2.2.2.2.2.2.2.2.2.1 | exact h9.2.2.2.2.2.2.2.2.2.2.2.2.2.2.2.2.2 | exact h9.2.2.2.2.2.2.2.2.2.2.2.2.2.2.2.2.2.2.1 | exact h9.2.2.2.2.2.2.2.2.2.2.2.2.2.2.2.2.2.2 | exact h9.2.2.2.2.2.2.2.2.2.2.2.2.2.2.2.2.2.2.2.1 | exact h9.2.2.2.2.2.2.2.2.2.2.2.2.2.2.2.2.2.2.2 | exact h9.2.2.2.2.2.2.2.2.2.2.2.2.2.2.2.2.2.2.2.2.1 | exact h9.2.2.2.2.2.2.2.2.2.2.2.2.2.2.2.2.2.2.2.2 | exact h9.2.2.2.2.2.2.2.2.2.2.2.2.2.2.2.2.2.2.2.2.2.1 | exact h9.2.2.2.2.2.2.2.2.2.2.2.2.2.2.2.2.2.2.2.2.2 | exact h9.2.2.2.2.2.2.2.2.2.2.2.2.2.2.2.2.2.2.2.2.2.2.1 | exact h9.2.2.2.2.2.2.2.2.2.2.2.2.2.2.2.2.2.2.2.2.2.2 | exact h9.2.2.2.2.2.2.2.2.2.2.2.2.2.2.2.2.2.2.2.2.2.2.2.1 | exact h9.2.2.2.2.2.2.2.2.2.2.2.2.2.2.2.2.2.2.2.2.2.2.2 | exact h9.2.2.2.2.2.2.2.2.2.2.2.2.2.2.2.2.2.2.2.2.2.2.2.2.1 | exact h9.2.2.2.2.2.2.2.2.2.2.2.2.2.2.2.2.2.2.2.2.2.2.2.2
  k_with "NE" => ((try refine neN ?_); (try dsimp only); first
    | assumption
    | exact Ne.symm (by assumption)
    | exact Nat.ne_of_lt (by assumption)
    | exact Nat.ne_of_gt (by assumption)
    | exact off_ne1 _
    | exact Ne.symm (off_ne1 _)
    | exact off_ne2 _
    | exact Ne.symm (off_ne2 _)
    | exact off_ne3 _
    | exact Ne.symm (off_ne3 _)
    | exact off_ne4 _
    | exact Ne.symm (off_ne4 _)
    | exact off_ne5 _
    | exact Ne.symm (off_ne5 _)
    | (refine succ_ne ?_; k_extra "NE")
    | (refine ne_cr (by assumption) ?_; intro h9; k_extra "PROJ")
    | (refine ne_cl (by assumption) ?_; intro h9; k_extra "PROJ")
    | (refine lt_cr (by assumption) ?_; intro h9; k_extra "PROJ")
    | (refine lt_cl (by assumption) ?_; intro h9; k_extra "PROJ")
    | (refine lt_off1 ?_; first | assumption | (refine lt_c (by assumption) ?_; intro h9; k_extra "PROJ"))
    | (refine Ne.symm (lt_off1 ?_); first | assumption | (refine lt_c (by assumption) ?_; intro h9; k_extra "PROJ"))
    | (refine lt_off2 ?_; first | assumption | (refine lt_c (by assumption) ?_; intro h9; k_extra "PROJ"))
    | (refine Ne.symm (lt_off2 ?_); first | assumption | (refine lt_c (by assumption) ?_; intro h9; k_extra "PROJ"))
    | (refine lt_off3 ?_; first | assumption | (refine lt_c (by assumption) ?_; intro h9; k_extra "PROJ"))
    | (refine Ne.symm (lt_off3 ?_); first | assumption | (refine lt_c (by assumption) ?_; intro h9; k_extra "PROJ"))
    | (refine lt_off4 ?_; first | assumption | (refine lt_c (by assumption) ?_; intro h9; k_extra "PROJ"))
    | (refine Ne.symm (lt_off4 ?_); first | assumption | (refine lt_c (by assumption) ?_; intro h9; k_extra "PROJ"))
    | (refine lt_off5 ?_; first | assumption | (refine lt_c (by assumption) ?_; intro h9; k_extra "PROJ"))
    | (refine Ne.symm (lt_off5 ?_); first | assumption | (refine lt_c (by assumption) ?_; intro h9; k_extra "PROJ")))
  k_with "Q eval ListComp Name cons" => (k_here; k_dflt (apply comp_range_id; (case _F => k_asm); (case hh => exact rfl); (case hclos => with_unfolding_all rfl); (case hcell => decide); (case hkind => exact rfl); (case hnames => decide); (case hx => exact rfl); (case hd => decide); (case hl => intro _; exact rfl); (case hs => intro _; with_unfolding_all rfl); k_whole))
  trivial
theorem room1_spec (w : World) (fl : Addr) (nf : Nat) (vs : List Value) (ns : List Int) (W bg sz ed : Int) (t0 t1 t2 t3 t4 : Tok) (news : List (Addr × Obj)) (m1 : (fl, listOf vs.toArray nf) ∈ news) (hI : IntsAre vs ns) (hlen : ns.length ≤ 1000) (hns : ns = places 1 bg sz ed W)
    (hW : 0 < W) (hW2 : W ≤ 200) (hz : 0 < sz) (hz2 : sz ≤ 100) (z1 : -100 ≤ bg) (z2 : bg ≤ 100) (z5 : -100 ≤ ed) (z6 : ed ≤ 100) :
    CallC w 329 [.int 1 t0, .int W t1, .int bg t2, .int sz t3, .int ed t4, .ref fl] news 14 (fun r news' => r = .bool true ∧ news' = news) := by
  w_on
  unfold CallC
  k_fill
  intro loose mean mg mb dp un gd cn cs a ccd cl outer A₀ base h₀ L m s Q E B' F X N T hk hd hu ret
  have N0 : News h₀ L s.heap [(fl, listOf vs.toArray nf)] := fun p hp => by
    exact N p (List.mem_singleton.mp hp ▸ m1)
  refine wpAny_call ?_
  k_dflt (refine' cells_enterG ?k1 ?k2 ?k3 ?k4 ?k5 ?kA ?kF ?kK ?k6 ?k7 ?k8 ?k9 ?kB ?kD ?_ ?c2 ?c3 ?c4; (case kA => exact rfl); (case kF => exact rfl); (case kK => assumption); (case k1 => k_asm); (case k2 => k_asm); (case k3 => k_asm); (case k4 => k_asm); (case k5 => k_asm); (case k6 => k_is); (case k7 => k_is); (case k8 => ktr_room); (case k9 => exact BindsTo.of_eq rfl); (case kB => exact rfl); (case kD => decide +kernel); (case c2 => exact rfl); (case c3 => exact rfl); (case c4 => exact rfl); k_whole)
  intro g' L' h' tk' cells' FG' F' N' Y' B' X' T' l1 kG'
  k_lt l1
  have hY := CellsAre.four Y'
  obtain ⟨o1, o2, o3, o4, hE', d1, d2, d3, d4⟩ := hY
  subst hE'
  clear Y'
  simp only [List.cons_append, List.nil_append] at N'
  (try dsimp only)
  (try k_fold)
  k_with "exec While Compare cons nil" => (k_dflt (refine' while_one (Str.ofString "first") (fun k => bg ≤ k ∧ k ≤ ed - (ed - bg).fdiv W * W) (fun k => (ed - (ed - bg).fdiv W * W - k).toNat) ?wF ?wN ?wx ?wp ?wturn ?wE; (case wF => k_asm); (case wN => k_asm); (case wx => exact rfl); (case wp => exact ⟨Int.le_refl _, pl_first_ge hW⟩); (case wE => passes_own)); intro k9 t9 h9 tk9 hP9 F9 N9; (try dsimp only); (try k_fold))
  k_steps
  · have h1 := wl1 hW hP9.2 (by assumption)
    exact ⟨rfl, k9 + 1, _, _, _, rfl, fr_eq (by k_asm) (fun z => ite_twice), by k_asm, ⟨wpA hP9.1, h1⟩, wpM h1⟩
  · have hk9 := wl2 hW hP9.1 hP9.2 (by assumption)
    obtain ⟨r1, r2, r3⟩ := wl3 hW hW2 hz hz2 z1 z2 hP9.1 hk9
    refine ⟨_, _, _, _, _, _, _, _, _, rfl, by assumption, r1, r2, r3, by k_asm, by k_asm, ?_⟩
    intro D9 ys9 h10 tk10 F10 N10 hD9 hc9
    have hi9 := carried_ints hc9
    clear hc9 r1 r2 r3
    k_steps
    (with_reducible rename News _ _ _ _ => kN)
    have e9 : ns = rangeInts k9 W ((bg + sz - k9).fdiv W).toNat := by rw [ri_eq, hk9, hns, pl1' hW hz]
    rw [decide_eq_true e9]
    exact ret _ _ _ _ ⟨rfl, rfl⟩ (by k_asm) (frame_keep (n1 := []) N (fun p hp => hp) (by assumption) (by k_asm) kN (List.forall_mem_nil _) (quad1 m1 (by k_mem)))
end Mine
end

section
open PySem PySem.W PyProof.Rows
namespace Mine
local macro_rules | `(tactic| k_ne) => `(tactic| first | k_extra "NE" | (refine neN ?_; (try dsimp only); omega))
local macro_rules | `(tactic| walk_at "h:S1") => `(tactic| (refine' ⟨?B, ?F, ?X, ?N, ?T, ?K⟩; (case B => k_asm); (case F => k_asm); (case X => k_asm); (case N => k_asm); (case T => k_asm); (case K => first | exact rfl | assumption)))
local macro_rules | `(tactic| walk_at "h:S2") => `(tactic| (refine' ⟨?d, ?u⟩; (case d => ktr_room); (case u => ktr_units)))
abbrev AP (f d : Int) (n : Nat) : List Int := (rangeKs 0 n).map fun k => f + d * k
theorem ap_len (f d : Int) (n : Nat) : (AP f d n).length = n := by unfold AP; rw [List.length_map, rangeKs_length]
theorem ap_get (f d : Int) {n j : Nat} (h : j < n) : (AP f d n).getD j 0 = f + d * (j : Int) := by
  unfold AP rangeKs
  simp [List.getD, h]
theorem flat_rep {α : Type} (x : α) : ∀ m : Nat, (List.replicate m [x]).flatten = List.replicate m x
  | 0 => rfl
  | m + 1 => by rw [List.replicate_succ, List.flatten_cons, flat_rep x m, List.replicate_succ]; rfl
theorem ap_steps (f d : Int) (n : Nat) : List.map (fun k' => (AP f d n).getD (k' + 1).toNat 0 - (AP f d n).getD k'.toNat 0) (rangeKs 0 (((AP f d n).length : Int) - 1 - 0).toNat) = List.replicate (n - 1) d := by
  rw [ap_len, show ((n : Int) - 1 - 0).toNat = n - 1 by omega, List.eq_replicate_iff]
  refine ⟨by rw [List.length_map, rangeKs_length], fun b hb => ?_⟩
  obtain ⟨k, hk, rfl⟩ := List.mem_map.mp hb
  have hm := mem_rangeKs hk
  rw [ap_get f d (show (k + 1).toNat < n by omega), ap_get f d (show k.toNat < n by omega), show ((k + 1).toNat : Int) = k + 1 by omega, show ((k.toNat : Nat) : Int) = k by omega, Int.mul_add]
  omega
theorem ap_gaps (f d W : Int) (n : Nat) : List.map (fun k' => k' - W) (List.map (fun k' => (AP f d n).getD (k' + 1).toNat 0 - (AP f d n).getD k'.toNat 0) (rangeKs 0 (((AP f d n).length : Int) - 1 - 0).toNat)) = List.replicate (n - 1) (d - W) := by
  rw [ap_steps, List.map_replicate]
theorem ap_first (f d : Int) {n : Nat} (h : 0 < n) : (AP f d n).getD (Int.toNat 0) 0 = f := by
  rw [show Int.toNat 0 = 0 from rfl, ap_get f d h]; simp
theorem ap_last (f d W : Int) {n : Nat} (h : 0 < n) : ((AP f d n).map (fun k' => k' + W)).getD (-1 + (((AP f d n).map (fun k' => k' + W)).length : Int)).toNat 0 = f + d * ((n : Int) - 1) + W := by
  rw [List.length_map, ap_len, show (-1 + (n : Int)).toNat = n - 1 by omega]
  have e : ((AP f d n).map (fun k' => k' + W)).getD (n - 1) 0 = (AP f d n).getD (n - 1) 0 + W := by
    have h2 : n - 1 < (AP f d n).length := by rw [ap_len]; omega
    generalize AP f d n = l at h2
    rw [List.getD_eq_getElem?_getD, List.getElem?_map, List.getElem?_eq_getElem h2, List.getD_eq_getElem?_getD, List.getElem?_eq_getElem h2]
    rfl
  rw [e, ap_get f d (show n - 1 < n by omega), show ((n - 1 : Nat) : Int) = (n : Int) - 1 by omega]
theorem pl2' {bg sz ed W : Int} (hW : 0 < W) (hz : 0 < sz) : places 2 bg sz ed W = AP (bg + (sz.fmod W).fdiv 2) W (sz.fdiv W).toNat := by rw [pl2 hW hz, Int.sub_zero]
theorem pl3' {bg sz ed W : Int} (hW : 0 < W) (hz : 0 < sz) : places 3 bg sz ed W = AP (bg + (sz.fmod W - (sz.fdiv W - 1) * (sz.fmod W).fdiv (sz.fdiv W + 1)).fdiv 2) (W + (sz.fmod W).fdiv (sz.fdiv W + 1)) (sz.fdiv W).toNat := by rw [pl3 hW hz, Int.sub_zero]
/-- what the sorts 2 and 3 ask, of the ends -/
theorem ends2 {bg sz W q r : Int} {n : Nat} (hW : 0 < W) (hr : 0 ≤ r) (hr2 : r < W) (he : r + W * q = sz) (hn : (n : Int) = q) :
    bg ≤ bg + r.fdiv 2 ∧ bg + r.fdiv 2 ≤ bg + r.fdiv 2 + W * ((n : Int) - 1) + W ∧ bg + r.fdiv 2 + W * ((n : Int) - 1) + W ≤ bg + sz ∧
    0 ≤ bg + sz - (bg + r.fdiv 2 + W * ((n : Int) - 1) + W) - (bg + r.fdiv 2 - bg) ∧ bg + sz - (bg + r.fdiv 2 + W * ((n : Int) - 1) + W) - (bg + r.fdiv 2 - bg) ≤ 1 := by
  rw [Int.fdiv_eq_ediv_of_nonneg _ (by omega), hn, Int.mul_sub, Int.mul_one]
  have : 0 ≤ W * q := by
    have : 0 ≤ q := by omega
    exact Int.mul_nonneg (by omega) this
  omega
theorem ends3 {bg sz W q r b : Int} {n : Nat} (hW : 0 < W) (hr : 0 ≤ r) (hb : 0 ≤ b) (he : r + W * q = sz) (hn : (n : Int) = q) (hq : 1 ≤ q) (hbr : b * (q + 1) ≤ r) :
    bg ≤ bg + (r - (q - 1) * b).fdiv 2 ∧ bg + (r - (q - 1) * b).fdiv 2 ≤ bg + (r - (q - 1) * b).fdiv 2 + (W + b) * ((n : Int) - 1) + W ∧ bg + (r - (q - 1) * b).fdiv 2 + (W + b) * ((n : Int) - 1) + W ≤ bg + sz ∧
    0 ≤ bg + sz - (bg + (r - (q - 1) * b).fdiv 2 + (W + b) * ((n : Int) - 1) + W) - (bg + (r - (q - 1) * b).fdiv 2 - bg) ∧ bg + sz - (bg + (r - (q - 1) * b).fdiv 2 + (W + b) * ((n : Int) - 1) + W) - (bg + (r - (q - 1) * b).fdiv 2 - bg) ≤ 1 := by
  rw [Int.fdiv_eq_ediv_of_nonneg _ (by omega), hn]
  have h1 : (W + b) * (q - 1) + W = W * q + b * q - b := by rw [Int.mul_sub, Int.add_mul]; omega
  have h2 : (q - 1) * b = b * q - b := by rw [Int.sub_mul, Int.mul_comm]; omega
  have h3 : b * (q + 1) = b * q + b := by rw [Int.mul_add]; omega
  have h4 : 0 ≤ W * q := Int.mul_nonneg (by omega) (by omega)
  have h5 : 0 ≤ b * q := Int.mul_nonneg hb (by omega)
  have h6 : 0 ≤ b * (q - 1) := Int.mul_nonneg hb (by omega)
  rw [Int.mul_sub, Int.mul_one] at h6
  rw [h2]
  rw [h3] at hbr
  have h1' : ∀ y : Int, y + (W + b) * (q - 1) + W = y + (W * q + b * q - b) := fun y => by rw [Int.add_assoc, h1]
  rw [h1']
  omega
end Mine
end

section
open PySem PySem.W PyProof.Rows
namespace Mine
local macro_rules | `(tactic| k_ne) => `(tactic| first | k_extra "NE" | (refine neN ?_; (try dsimp only); omega))
local macro_rules | `(tactic| walk_at "h:S1") => `(tactic| (refine' ⟨?B, ?F, ?X, ?N, ?T, ?K⟩; (case B => k_asm); (case F => k_asm); (case X => k_asm); (case N => k_asm); (case T => k_asm); (case K => first | exact rfl | assumption)))
local macro_rules | `(tactic| walk_at "h:S2") => `(tactic| (refine' ⟨?d, ?u⟩; (case d => ktr_room); (case u => ktr_units)))
local macro_rules | `(tactic| ktr_units) => `(tactic| first | exact units3 (by assumption) (by decide) | (have hcL9 := cLine_is; (simp only [units_under_make, units_in1, units_deeper, Around.mark_units, units_caller] at *); (try dsimp only [ktrTop] at *); omega))
local macro_rules | `(tactic| k_room) => `(tactic| ktr_room)
local macro_rules | `(tactic| k_all) => `(tactic| assumption)

local macro_rules | `(tactic| walk_at "subscriptTail Name BinOp ref int") => `(tactic| (k_here; k_dflt (refine' ksa_sub ?k1 ?k2 ?k3 ?k4 ?k5 ?k6 ?_ ?k7; (case k1 => k_asm); (case k2 => k_mem); (case k3 => with_reducible assumption); (case k4 => exact ixA (by assumption)); (case k5 => exact ixB (by assumption) (by assumption)); (case k6 => exact ixD (ixB (by assumption) (by assumption)) (by assumption)); (case k7 => with_unfolding_all rfl); k_whole); intro _))
local macro_rules | `(tactic| walk_at "subscriptTail Name Name ref int") => `(tactic| (k_here; k_dflt (refine' ksa_sub ?k1 ?k2 ?k3 ?k4 ?k5 ?k6 ?_ ?k7; (case k1 => k_asm); (case k2 => k_mem); (case k3 => with_reducible assumption); (case k4 => assumption); (case k5 => exact ixC (by assumption) (by assumption)); (case k6 => exact ixD (ixC (by assumption) (by assumption)) (by assumption)); (case k7 => with_unfolding_all rfl); k_whole); intro _))
local macro_rules | `(tactic| walk_at "eval ListComp Name cons") => `(tactic| k_extra "Q eval ListComp Name cons")
local macro_rules | `(tactic| walk_at "compareOp Eq ref ref") => `(tactic| (k_here; k_dflt (refine' ke_eq_ints ?ea ?eb ?ec ?ed ?eu ?_; (case ea => first | with_reducible assumption | exact isl (by k_asm) (by k_mem)); (case eb => first | with_reducible assumption | exact isl (by k_asm) (by k_mem)); (case ec => with_reducible assumption); (case ed => with_reducible assumption); (case eu => exact unA (by assumption)); k_whole)))
local macro_rules | `(tactic| walk_at "testChain") => `(tactic| (k_here; k_dflt (first | refine test_link ?_ | refine test_last ?_); (try dsimp only)))
theorem words_CB_0 : True := by
  k_with_none
  k_with "PROJ" => first | exact h9.1 | exact h9 | exact h9.2.1 | exact h9.2 | exact h9.2.2.1 | exact h9.2.2 | exact h9.2.2.2.1 | exact h9.2.2.2 | exact h9.2.2.2.2.1 | exact h9.2.2.2.2 | exact h9.2.2.2.2.2.1 | exact h9.2.2.2.2.2 | exact h9.2.2.2.2.2.2.1 | exact h9.2.2.2.2.2.2 | exact h9.2.2.2.2.2.2.2.1 | exact h9.2.2.2.2.2.2.2 | exact h9.2.2.2.2.2.2.2.2.1 | exact h9.2.2.2.2.2.2.2.2 | exact h9.2.2.2.2.2.2.2.2.2.1 | exact h9.2.2.2.2.2.2.2.2.2 | exact h9.2.2.2.2.2.2.2.2.2.2.1 | exact h9.2.2.2.2.2.2.2.2.2.2 | exact h9.2.2.2.2.2.2.2.2.2.2.2.1 | exact h9.2.2.2.2.2.2.2.2.2.2.2 | exact h9.2.2.2.2.2.2.2.2.2.2.2.2.1 | exact h9.2.2.2.2.2.2.2.2.2.2.2.2 | exact h9.2.2.2.2.2.2.2.2.2.2.2.2.2.1 | exact h9.2.2.2.2.2.2.2.2.2.2.2.2.2 | exact h9.2.2.2.2.2.2.2.2.2.2.2.2.2.2.1 | exact h9.2.2.2.2.2.2.2.2.2.2.2.2.2.2 | exact h9.2.2.2.2.2.2.2.2.2.2.2.2.2.2.2.1 | exact h9.2.2.2.2.2.2.2.2.2.2.2.2.2.2.2 | exact h9.2.2.2.2.2.2.2.2.2.2.2.2.2.2.2.2.1 | exact h9.2.2.2.2.2.2.2.2.2.2.2.2.2.2.2.2 | exact h9.2.2.2.2.2.2.2.2.2.2.2.2.2.2.2.2.2.1 | exact h9.2.2.2.2.2.2.2.2.2.2.2.2.2.2.2.2.2 | exact h9.2.2.2.2.2.2.2.2.2.2.2.2.2.2.2.2.2.2.1 | exact h9.2.2.2.2.2.2.2.2.2.2.2.2.2.2.2.2.2.2 | exact h9.2.2.2.2.2.2.2.2.2.2.2.2.2.2.2.2.2.2.2.1 | exact h9.2.2.2.2.2.2.2.2.2.2.2.2.2.2.2.2.2.2.2 | exact h9.2.2.2.2.2.2.2.2.2.2.2.2.2.2.2.2.2.2.2.2.1 | exact h9.2.2.2.2.2.2.2.2.2.2.2.2.2.2.2.2.2.2.2.2 | exact h9.2.2.2.2.2.2.2.2.2.2.2.2.2.2.2.2.2.2.2.2.2.1 | exact h9.2.2.2.2.2.2.2.2.2.2.2.2.2.2.2.2.2.2.2.2.2 | exact h9.2.2.2.2.2.2.2.2.2.2.2.2.2.2.2.2.2.2.2.2.2.2.1 | exact h9.2.2.2.2.2.2.2.2.2.2.2.2.2.2.2.2.2.2.2.2.2.2 | exact h9.2.2.2.2.2.2.2.2.2.2.2.2.2.2.2.2.2.2.2.2.2.2.2.1 | exact h9.2.2.2.2.2.2.2.2.2.2.2.2.2.2.2.2.2.2.2.2.2.2.2 | exact h9.2.2.2.2.2.2.2.2.2.2.2.2.2.2.2.2.2.2.2.2.2.2.2.2.1 | exact h9.2.2.2.2.2.2.2.2.2.2.2.2.2.2.2.2.2.2.2.2.2.2.2.2
  k_with "NE" => ((try refine neN ?_); (try dsimp only); first
    | assumption
    | exact Ne.symm (by assumption)
    | exact Nat.ne_of_lt (by assumption)
    | exact Nat.ne_of_gt (by assumption)
    | exact off_ne1 _
    | exact Ne.symm (off_ne1 _)
    | exact off_ne2 _
    | exact Ne.symm (off_ne2 _)
    | exact off_ne3 _
    | exact Ne.symm (off_ne3 _)
    | exact off_ne4 _
    | exact Ne.symm (off_ne4 _)
    | exact off_ne5 _
    | exact Ne.symm (off_ne5 _)
    | (refine succ_ne ?_; k_extra "NE")
    | (refine ne_cr (by assumption) ?_; intro h9; k_extra "PROJ")
    | (refine ne_cl (by assumption) ?_; intro h9; k_extra "PROJ")
    | (refine lt_cr (by assumption) ?_; intro h9; k_extra "PROJ")
    | (refine lt_cl (by assumption) ?_; intro h9; k_extra "PROJ")
    | (refine lt_off1 ?_; first | assumption | (refine lt_c (by assumption) ?_; intro h9; k_extra "PROJ"))
    | (refine Ne.symm (lt_off1 ?_); first | assumption | (refine lt_c (by assumption) ?_; intro h9; k_extra "PROJ"))
    | (refine lt_off2 ?_; first | assumption | (refine lt_c (by assumption) ?_; intro h9; k_extra "PROJ"))
    | (refine Ne.symm (lt_off2 ?_); first | assumption | (refine lt_c (by assumption) ?_; intro h9; k_extra "PROJ"))
    | (refine lt_off3 ?_; first | assumption | (refine lt_c (by assumption) ?_; intro h9; k_extra "PROJ"))
    | (refine Ne.symm (lt_off3 ?_); first | assumption | (refine lt_c (by assumption) ?_; intro h9; k_extra "PROJ"))
    | (refine lt_off4 ?_; first | assumption | (refine lt_c (by assumption) ?_; intro h9; k_extra "PROJ"))
    | (refine Ne.symm (lt_off4 ?_); first | assumption | (refine lt_c (by assumption) ?_; intro h9; k_extra "PROJ"))
    | (refine lt_off5 ?_; first | assumption | (refine lt_c (by assumption) ?_; intro h9; k_extra "PROJ"))
    | (refine Ne.symm (lt_off5 ?_); first | assumption | (refine lt_c (by assumption) ?_; intro h9; k_extra "PROJ")))
  k_with "Q eval ListComp Name cons" => (k_here; k_dflt (apply comp_range_id; (case _F => k_asm); (case hh => exact rfl); (case hclos => with_unfolding_all rfl); (case hcell => decide); (case hkind => exact rfl); (case hnames => decide); (case hx => exact rfl); (case hd => decide); (case hl => intro _; exact rfl); (case hs => intro _; with_unfolding_all rfl); k_whole))
  trivial
theorem room2_spec (w : World) (fl : Addr) (nf : Nat) (vs : List Value) (ns : List Int) (W bg sz ed : Int) (t0 t1 t2 t3 t4 : Tok) (news : List (Addr × Obj)) (m1 : (fl, listOf vs.toArray nf) ∈ news) (hI : IntsAre vs ns) (hlen : ns.length ≤ 1000) (hns : ns = places 2 bg sz ed W)
    (hW : 0 < W) (hW2 : W ≤ 200) (hz : 0 < sz) (hz2 : sz ≤ 100) (hq : 0 < sz.fdiv W) :
    CallC w 329 [.int 2 t0, .int W t1, .int bg t2, .int sz t3, .int ed t4, .ref fl] news 14 (fun r news' => r = .bool true ∧ news' = news) := by
  w_on
  unfold CallC
  k_fill
  intro loose mean mg mb dp un gd cn cs a ccd cl outer A₀ base h₀ L m s Q E B' F X N T hk hd hu ret
  have hW0 : ¬ W = 0 := by omega
  have hn : (((sz.fdiv W).toNat : Nat) : Int) = sz.fdiv W := by omega
  have hn0 : 0 < (sz.fdiv W).toNat := by omega
  have e1 : sz.fmod W + W * sz.fdiv W = sz := by rw [Int.fmod_eq_emod_of_nonneg _ (by omega), Int.fdiv_eq_ediv_of_nonneg _ (by omega)]; exact Int.emod_add_mul_ediv _ _
  rw [pl2' hW hz] at hns
  obtain ⟨g1, g2, g3, g4, g5⟩ := ends2 (bg := bg) hW (fm_lo (x := sz) hW) (fm_hi hW) e1 hn
  have f0 : (ns.length : Int) = sz.fdiv W := by rw [hns, ap_len, hn]
  have fp : 0 < (ns.length : Int) := by rw [f0]; exact hq
  have fz : ¬ (ns.length : Int) = 0 := by omega
  have fA : bg ≤ ns.getD (Int.toNat 0) 0 := by rw [hns, ap_first _ _ hn0]; exact g1
  have fB : ns.getD (Int.toNat 0) 0 ≤ (ns.map (fun k' => k' + W)).getD (-1 + ((ns.map (fun k' => k' + W)).length : Int)).toNat 0 := by rw [hns, ap_first _ _ hn0, ap_last _ _ _ hn0]; exact g2
  have fC : (ns.map (fun k' => k' + W)).getD (-1 + ((ns.map (fun k' => k' + W)).length : Int)).toNat 0 ≤ bg + sz := by rw [hns, ap_last _ _ _ hn0]; exact g3
  have fH : 0 ≤ bg + sz - (ns.map (fun k' => k' + W)).getD (-1 + ((ns.map (fun k' => k' + W)).length : Int)).toNat 0 - (ns.getD (Int.toNat 0) 0 - bg) := by rw [hns, ap_first _ _ hn0, ap_last _ _ _ hn0]; exact g4
  have fI : bg + sz - (ns.map (fun k' => k' + W)).getD (-1 + ((ns.map (fun k' => k' + W)).length : Int)).toNat 0 - (ns.getD (Int.toNat 0) 0 - bg) ≤ 1 := by rw [hns, ap_first _ _ hn0, ap_last _ _ _ hn0]; exact g5
  have fG : List.map (fun k' => k' - W) (List.map (fun k' => ns.getD (k' + 1).toNat 0 - ns.getD k'.toNat 0) (rangeKs 0 ((ns.length : Int) - 1 - 0).toNat)) = (List.replicate (((List.map (fun k' => k' - W) (List.map (fun k' => ns.getD (k' + 1).toNat 0 - ns.getD k'.toNat 0) (rangeKs 0 ((ns.length : Int) - 1 - 0).toNat))).length : Int)).toNat [0]).flatten := by
    rw [hns, ap_gaps, flat_rep, List.length_replicate, show (((sz.fdiv W).toNat - 1 : Nat) : Int).toNat = (sz.fdiv W).toNat - 1 by omega, Int.sub_self]
  clear g1 g2 g3 g4 g5 hn hn0 e1 hns
  have N0 : News h₀ L s.heap [(fl, listOf vs.toArray nf)] := fun p hp => by
    exact N p (List.mem_singleton.mp hp ▸ m1)
  refine wpAny_call ?_
  k_dflt (refine' cells_enterG ?k1 ?k2 ?k3 ?k4 ?k5 ?kA ?kF ?kK ?k6 ?k7 ?k8 ?k9 ?kB ?kD ?_ ?c2 ?c3 ?c4; (case kA => exact rfl); (case kF => exact rfl); (case kK => assumption); (case k1 => k_asm); (case k2 => k_asm); (case k3 => k_asm); (case k4 => k_asm); (case k5 => k_asm); (case k6 => k_is); (case k7 => k_is); (case k8 => ktr_room); (case k9 => exact BindsTo.of_eq rfl); (case kB => exact rfl); (case kD => decide +kernel); (case c2 => exact rfl); (case c3 => exact rfl); (case c4 => exact rfl); k_whole)
  intro g' L' h' tk' cells' FG' F' N' Y' B' X' T' l1 kG'
  k_lt l1
  have hY := CellsAre.four Y'
  obtain ⟨o1, o2, o3, o4, hE', d1, d2, d3, d4⟩ := hY
  subst hE'
  clear Y'
  simp only [List.cons_append, List.nil_append] at N'
  (try dsimp only)
  (try k_fold)
  k_steps
  all_goals (with_reducible rename News _ _ _ _ => kN)
  all_goals first
    | exact absurd f0 (by assumption)
    | exact absurd (by assumption) fz
    | (rw [decide_eq_true (by assumption)]; exact ret _ _ _ _ ⟨rfl, rfl⟩ (by k_asm) (frame_keep (n1 := []) N (fun p hp => hp) (by assumption) (by k_asm) kN (List.forall_mem_nil _) (quad1 m1 (by k_mem))))
end Mine
end

section
open PySem PySem.W PyProof.Rows
namespace Mine
local macro_rules | `(tactic| k_ne) => `(tactic| first | k_extra "NE" | (refine neN ?_; (try dsimp only); omega))
local macro_rules | `(tactic| walk_at "h:S1") => `(tactic| (refine' ⟨?B, ?F, ?X, ?N, ?T, ?K⟩; (case B => k_asm); (case F => k_asm); (case X => k_asm); (case N => k_asm); (case T => k_asm); (case K => first | exact rfl | assumption)))
local macro_rules | `(tactic| walk_at "h:S2") => `(tactic| (refine' ⟨?d, ?u⟩; (case d => ktr_room); (case u => ktr_units)))
local macro_rules | `(tactic| ktr_units) => `(tactic| first | exact units3 (by assumption) (by decide) | (have hcL9 := cLine_is; (simp only [units_under_make, units_in1, units_deeper, Around.mark_units, units_caller] at *); (try dsimp only [ktrTop] at *); omega))
local macro_rules | `(tactic| k_room) => `(tactic| ktr_room)
local macro_rules | `(tactic| k_all) => `(tactic| assumption)

local macro_rules | `(tactic| walk_at "subscriptTail Name BinOp ref int") => `(tactic| (k_here; k_dflt (refine' ksa_sub ?k1 ?k2 ?k3 ?k4 ?k5 ?k6 ?_ ?k7; (case k1 => k_asm); (case k2 => k_mem); (case k3 => with_reducible assumption); (case k4 => exact ixA (by assumption)); (case k5 => exact ixB (by assumption) (by assumption)); (case k6 => exact ixD (ixB (by assumption) (by assumption)) (by assumption)); (case k7 => with_unfolding_all rfl); k_whole); intro _))
local macro_rules | `(tactic| walk_at "subscriptTail Name Name ref int") => `(tactic| (k_here; k_dflt (refine' ksa_sub ?k1 ?k2 ?k3 ?k4 ?k5 ?k6 ?_ ?k7; (case k1 => k_asm); (case k2 => k_mem); (case k3 => with_reducible assumption); (case k4 => assumption); (case k5 => exact ixC (by assumption) (by assumption)); (case k6 => exact ixD (ixC (by assumption) (by assumption)) (by assumption)); (case k7 => with_unfolding_all rfl); k_whole); intro _))
local macro_rules | `(tactic| walk_at "eval ListComp Name cons") => `(tactic| k_extra "Q eval ListComp Name cons")
local macro_rules | `(tactic| walk_at "compareOp Eq ref ref") => `(tactic| (k_here; k_dflt (refine' ke_eq_ints ?ea ?eb ?ec ?ed ?eu ?_; (case ea => first | with_reducible assumption | exact isl (by k_asm) (by k_mem)); (case eb => first | with_reducible assumption | exact isl (by k_asm) (by k_mem)); (case ec => with_reducible assumption); (case ed => with_reducible assumption); (case eu => exact unA (by assumption)); k_whole)))
local macro_rules | `(tactic| walk_at "testChain") => `(tactic| (k_here; k_dflt (first | refine test_link ?_ | refine test_last ?_); (try dsimp only)))
theorem words_CC_0 : True := by
  k_with_none
  k_with "PROJ" => first | exact h9.1 | exact h9 | exact h9.2.1 | exact h9.2 | exact h9.2.2.1 | exact h9.2.2 | exact h9.2.2.2.1 | exact h9.2.2.2 | exact h9.2.2.2.2.1 | exact h9.2.2.2.2 | exact h9.2.2.2.2.2.1 | exact h9.2.2.2.2.2 | exact h9.2.2.2.2.2.2.1 | exact h9.2.2.2.2.2.2 | exact h9.2.2.2.2.2.2.2.1 | exact h9.2.2.2.2.2.2.2 | exact h9.2.2.2.2.2.2.2.2.1 | exact h9.2.2.2.2.2.2.2.2 | exact h9.2.2.2.2.2.2.2.2.2.1 | exact h9.2.2.2.2.2.2.2.2.2 | exact h9.2.2.2.2.2.2.2.2.2.2.1 | exact h9.2.2.2.2.2.2.2.2.2.2 | exact h9.2.2.2.2.2.2.2.2.2.2.2.1 | exact h9.2.2.2.2.2.2.2.2.2.2.2 | exact h9.2.2.2.2.2.2.2.2.2.2.2.2.1 | exact h9.2.2.2.2.2.2.2.2.2.2.2.2 | exact h9.2.2.2.2.2.2.2.2.2.2.2.2.2.1 | exact h9.2.2.2.2.2.2.2.2.2.2.2.2.2 | exact h9.2.2.2.2.2.2.2.2.2.2.2.2.2.2.1 | exact h9.2.2.2.2.2.2.2.2.2.2.2.2.2.2 | exact h9.2.2.2.2.2.2.2.2.2.2.2.2.2.2.2.1 | exact h9.2.2.2.2.2.2.2.2.2.2.2.2.2.2.2 | exact h9.2.2.2.2.2.2.2.2.2.2.2.2.2.2.2.2.1 | exact h9.2.2.2.2.2.2.2.2.2.2.2.2.2.2.2.2 | exact h9.2.2.2.2.2.2.2.2.2.2.2.2.2.2.2.2.2.1 | exact h9.2.2.2.2.2.2.2.2.2.2.2.2.2.2.2.2.2 | exact h9.2.2.2.2.2.2.2.2.2.2.2.2.2.2.2.2.2.2.1 | exact h9.2.2.2.2.2.2.2.2.2.2.2.2.2.2.2.2.2.2 | exact h9.2.2.2.2.2.2.2.2.2.2.2.2.2.2.2.2.2.2.2.1 | exact h9.2.2.2.2.2.2.2.2.2.2.2.2.2.2.2.2.2.2.2 | exact h9.2.2.2.2.2.2.2.2.2.2.2.2.2.2.2.2.2.2.2.2.1 | exact h9.2.2.2.2.2.2.2.2.2.2.2.2.2.2.2.2.2.2.2.2 | exact h9.2.2.2.2.2.2.2.2.2.2.2.2.2.2.2.2.2.2.2.2.2.1 | exact h9.2.2.2.2.2.2.2.2.2.2.2.2.2.2.2.2.2.2.2.2.2 | exact h9.2.2.2.2.2.2.2.2.2.2.2.2.2.2.2.2.2.2.2.2.2.2.1 | exact h9.2.2.2.2.2.2.2.2.2.2.2.2.2.2.2.2.2.2.2.2.2.2 | exact h9.2.2.2.2.2.2.2.2.2.2.2.2.2.2.2.2.2.2.2.2.2.2.2.1 | exact h9.2.2.2.2.2.2.2.2.2.2.2.2.2.2.2.2.2.2.2.2.2.2.2 | exact h9.2.2.2.2.2.2.2.2.2.2.2.2.2.2.2.2.2.2.2.2.2.2.2.2.1 | exact h9.2.2.2.2.2.2.2.2.2.2.2.2.2.2.2.2.2.2.2.2.2.2.2.2
  k_with "NE" => ((try refine neN ?_); (try dsimp only); first
    | assumption
    | exact Ne.symm (by assumption)
    | exact Nat.ne_of_lt (by assumption)
    | exact Nat.ne_of_gt (by assumption)
    | exact off_ne1 _
    | exact Ne.symm (off_ne1 _)
    | exact off_ne2 _
    | exact Ne.symm (off_ne2 _)
    | exact off_ne3 _
    | exact Ne.symm (off_ne3 _)
    | exact off_ne4 _
    | exact Ne.symm (off_ne4 _)
    | exact off_ne5 _
    | exact Ne.symm (off_ne5 _)
    | (refine succ_ne ?_; k_extra "NE")
    | (refine ne_cr (by assumption) ?_; intro h9; k_extra "PROJ")
    | (refine ne_cl (by assumption) ?_; intro h9; k_extra "PROJ")
    | (refine lt_cr (by assumption) ?_; intro h9; k_extra "PROJ")
    | (refine lt_cl (by assumption) ?_; intro h9; k_extra "PROJ")
    | (refine lt_off1 ?_; first | assumption | (refine lt_c (by assumption) ?_; intro h9; k_extra "PROJ"))
    | (refine Ne.symm (lt_off1 ?_); first | assumption | (refine lt_c (by assumption) ?_; intro h9; k_extra "PROJ"))
    | (refine lt_off2 ?_; first | assumption | (refine lt_c (by assumption) ?_; intro h9; k_extra "PROJ"))
    | (refine Ne.symm (lt_off2 ?_); first | assumption | (refine lt_c (by assumption) ?_; intro h9; k_extra "PROJ"))
    | (refine lt_off3 ?_; first | assumption | (refine lt_c (by assumption) ?_; intro h9; k_extra "PROJ"))
    | (refine Ne.symm (lt_off3 ?_); first | assumption | (refine lt_c (by assumption) ?_; intro h9; k_extra "PROJ"))
    | (refine lt_off4 ?_; first | assumption | (refine lt_c (by assumption) ?_; intro h9; k_extra "PROJ"))
    | (refine Ne.symm (lt_off4 ?_); first | assumption | (refine lt_c (by assumption) ?_; intro h9; k_extra "PROJ"))
    | (refine lt_off5 ?_; first | assumption | (refine lt_c (by assumption) ?_; intro h9; k_extra "PROJ"))
    | (refine Ne.symm (lt_off5 ?_); first | assumption | (refine lt_c (by assumption) ?_; intro h9; k_extra "PROJ")))
  k_with "Q eval ListComp Name cons" => (k_here; k_dflt (apply comp_range_id; (case _F => k_asm); (case hh => exact rfl); (case hclos => with_unfolding_all rfl); (case hcell => decide); (case hkind => exact rfl); (case hnames => decide); (case hx => exact rfl); (case hd => decide); (case hl => intro _; exact rfl); (case hs => intro _; with_unfolding_all rfl); k_whole))
  trivial
theorem foldG (M sp : Int) : ∀ (ks l : List Int), ks.foldl (fun l k => if k * M ≤ sp then l ++ [k] else l) l = l ++ ks.filter (fun k => decide (k * M ≤ sp))
  | [], l => by simp
  | k :: r, l => by
    rw [List.foldl_cons, foldG M sp r]
    by_cases h : k * M ≤ sp
    · rw [if_pos h, List.filter_cons_of_pos (by simpa using h), List.append_assoc]; rfl
    · rw [if_neg h, List.filter_cons_of_neg (by simpa using h)]
theorem growsG (M sp : Int) : KPfGrows (fun l k => if k * M ≤ sp then l ++ [k] else l) := by
  intro l k
  show (if k * M ≤ sp then l ++ [k] else l).length ≤ _
  split
  · simp
  · omega
theorem rangeKs_succ (a : Int) (n : Nat) : rangeKs a (n + 1) = rangeKs a n ++ [a + (n : Int)] := by unfold rangeKs; rw [List.range_succ, List.map_append]; rfl
theorem most_len {M sp : Int} (hM : 0 < M) (hs : 0 ≤ sp) : ∀ n : Nat, (((rangeKs 1 n).filter (fun k => decide (k * M ≤ sp))).length : Int) = if (n : Int) ≤ sp.fdiv M then (n : Int) else sp.fdiv M
  | 0 => by
    have := fd_lo hs hM
    rw [if_pos (by omega)]
    rfl
  | n + 1 => by
    have ih := most_len hM hs n
    have h0 := fd_lo hs hM
    have key : (1 + (n : Int)) * M ≤ sp ↔ 1 + (n : Int) ≤ sp.fdiv M := by
      rw [Int.fdiv_eq_ediv_of_nonneg _ (by omega)]
      exact (Int.le_ediv_iff_mul_le hM).symm
    rw [rangeKs_succ, List.filter_append, List.length_append]
    by_cases h : (1 + (n : Int)) * M ≤ sp
    · rw [List.filter_cons_of_pos (by simpa using h), List.filter_nil, List.length_singleton]
      have h1 := key.mp h
      rw [if_pos (by omega)] at ih
      rw [if_pos (by omega)]
      omega
    · rw [List.filter_cons_of_neg (by simpa using h), List.filter_nil, List.length_nil]
      have h1 : ¬ (1 + (n : Int) ≤ sp.fdiv M) := fun q => h (key.mpr q)
      rw [if_neg (by omega)]
      split at ih <;> omega
theorem most_is {M sp : Int} (hM : 0 < M) (hs : 0 ≤ sp) : (((rangeKs 1 (sp + 1 - 1).toNat).filter (fun k => decide (k * M ≤ sp))).length : Int) = sp.fdiv M := by
  rw [most_len hM hs]
  have h1 : sp.fdiv M ≤ sp := fd_le3 hM hs (Int.le_refl _)
  split <;> omega
theorem sum_rep (x : Int) : ∀ m : Nat, (List.replicate m x).sum = x * (m : Int)
  | 0 => by simp
  | m + 1 => by rw [List.replicate_succ, List.sum_cons, sum_rep x m, show ((m + 1 : Nat) : Int) = (m : Int) + 1 from rfl, Int.mul_add]; omega
local macro_rules | `(tactic| walk_at "eval ListComp Name cons") => `(tactic| (k_here; k_dflt (refine' LCt.ListComp_T ?cF ?c1 ?c2 ?c3 ?c4 ?c5 ?_ ?c6; (case cF => k_asm); (case c1 => with_unfolding_all rfl); (case c2 => decide); (case c3 => exact rfl); (case c4 => decide); (case c5 => exact rfl); (case c6 => intro _; with_unfolding_all rfl); k_whole)))
theorem lenA {n : Nat} (h : n ≤ 1000) : n < 2 ^ 62 := by omega
local macro_rules | `(tactic| walk_at "call builtin:len") => `(tactic| (k_here; (with_reducible show wpAny _ _ (call (Value.builtin _) [Value.ref _]) _ _ _); k_dflt (refine' len_ints_fit ?k1 ?k2 ?k3 ?_; (case k1 => exact isl (by k_asm) (by k_mem)); (case k2 => with_reducible assumption); (case k3 => exact lenA (by assumption)); k_whole)))
local macro_rules | `(tactic| walk_at "binaryOp Mult int int") => `(tactic| (k_here; k_dflt (refine mul_int ?_ (PySem.IntMulOk.of_right (by assumption)))))
local macro_rules | `(tactic| walk_at "KPfDone") => `(tactic| k_extra "KPfDone9")
theorem room3_spec (w : World) (fl : Addr) (nf : Nat) (vs : List Value) (ns : List Int) (W bg sz ed : Int) (t0 t1 t2 t3 t4 : Tok) (news : List (Addr × Obj)) (m1 : (fl, listOf vs.toArray nf) ∈ news) (hI : IntsAre vs ns) (hlen : ns.length ≤ 1000) (hns : ns = places 3 bg sz ed W)
    (hW : 0 < W) (hW2 : W ≤ 200) (hz : 0 < sz) (hz2 : sz ≤ 100) (hq : 0 < sz.fdiv W) :
    CallC w 329 [.int 3 t0, .int W t1, .int bg t2, .int sz t3, .int ed t4, .ref fl] news 14 (fun r news' => r = .bool true ∧ news' = news) := by
  w_on
  unfold CallC
  k_fill
  intro loose mean mg mb dp un gd cn cs a ccd cl outer A₀ base h₀ L m s Q E B' F X N T hk hd hu ret
  have hW0 : ¬ W = 0 := by omega
  have hn : (((sz.fdiv W).toNat : Nat) : Int) = sz.fdiv W := by omega
  have hn0 : 0 < (sz.fdiv W).toNat := by omega
  have e1 : sz.fmod W + W * sz.fdiv W = sz := by rw [Int.fmod_eq_emod_of_nonneg _ (by omega), Int.fdiv_eq_ediv_of_nonneg _ (by omega)]; exact Int.emod_add_mul_ediv _ _
  rw [pl3' hW hz] at hns
  have hb0 : 0 ≤ (sz.fmod W).fdiv (sz.fdiv W + 1) := fd_lo (fm_lo hW) (by omega)
  have hbr : (sz.fmod W).fdiv (sz.fdiv W + 1) * (sz.fdiv W + 1) ≤ sz.fmod W := by rw [Int.fdiv_eq_ediv_of_nonneg _ (show 0 ≤ sz.fdiv W + 1 by omega)]; exact Int.ediv_mul_le _ (by omega)
  obtain ⟨g1, g2, g3, g4, g5⟩ := ends3 (bg := bg) hW (fm_lo (x := sz) hW) hb0 e1 hn (by omega) hbr
  have f0 : (ns.length : Int) = sz.fdiv W := by rw [hns, ap_len, hn]
  have fp : 0 < (ns.length : Int) := by rw [f0]; exact hq
  have fz : ¬ (ns.length : Int) = 0 := by omega
  have fA : bg ≤ ns.getD (Int.toNat 0) 0 := by rw [hns, ap_first _ _ hn0]; exact g1
  have fB : ns.getD (Int.toNat 0) 0 ≤ (ns.map (fun k' => k' + W)).getD (-1 + ((ns.map (fun k' => k' + W)).length : Int)).toNat 0 := by rw [hns, ap_first _ _ hn0, ap_last _ _ _ hn0]; exact g2
  have fC : (ns.map (fun k' => k' + W)).getD (-1 + ((ns.map (fun k' => k' + W)).length : Int)).toNat 0 ≤ bg + sz := by rw [hns, ap_last _ _ _ hn0]; exact g3
  have fH : 0 ≤ bg + sz - (ns.map (fun k' => k' + W)).getD (-1 + ((ns.map (fun k' => k' + W)).length : Int)).toNat 0 - (ns.getD (Int.toNat 0) 0 - bg) := by rw [hns, ap_first _ _ hn0, ap_last _ _ _ hn0]; exact g4
  have fI : bg + sz - (ns.map (fun k' => k' + W)).getD (-1 + ((ns.map (fun k' => k' + W)).length : Int)).toNat 0 - (ns.getD (Int.toNat 0) 0 - bg) ≤ 1 := by rw [hns, ap_first _ _ hn0, ap_last _ _ _ hn0]; exact g5
  have hs0 : sz - (ns.length : Int) * W = sz.fmod W := by rw [f0, Int.mul_comm]; omega
  have hs5 := fm_lo (x := sz) hW
  have hs6 := fm_hi (x := sz) hW
  have hs1 : -(2 ^ 62) ≤ sz - (ns.length : Int) * W + 1 := by rw [hs0]; omega
  have hs2 : sz - (ns.length : Int) * W + 1 < 2 ^ 62 := by rw [hs0]; omega
  have hs3 : (sz - (ns.length : Int) * W + 1 - 1).toNat ≤ sizeLine := by rw [hs0, sizeLine_eq]; omega
  have hib : Builtin.Int.intBits ((ns.length : Int) + 1) ≤ 64 := PySem.intBits_le_64 (by omega) (by omega)
  obtain ⟨MM, hMe, hMl⟩ : ∃ MM, (rangeKs 1 (sz - (ns.length : Int) * W + 1 - 1).toNat).filter (fun k => decide (k * ((ns.length : Int) + 1) ≤ sz - (ns.length : Int) * W)) = MM ∧ (MM.length : Int) = (sz.fmod W).fdiv (sz.fdiv W + 1) := ⟨_, rfl, by rw [most_is (by omega) (by omega), hs0, f0]⟩
  have hMb : MM.length ≤ 1000 := by
    have : (sz.fmod W).fdiv (sz.fdiv W + 1) ≤ 200 := fd_le3 (by omega) (by omega) (by omega)
    omega
  have fG0 : List.map (fun k' => k' - W) (List.map (fun k' => ns.getD (k' + 1).toNat 0 - ns.getD k'.toNat 0) (rangeKs 0 ((ns.length : Int) - 1 - 0).toNat)) = List.replicate ((sz.fdiv W).toNat - 1) (MM.length : Int) := by
    rw [hns, ap_gaps, hMl, show W + (sz.fmod W).fdiv (sz.fdiv W + 1) - W = (sz.fmod W).fdiv (sz.fdiv W + 1) by omega]
  have fG : List.map (fun k' => k' - W) (List.map (fun k' => ns.getD (k' + 1).toNat 0 - ns.getD k'.toNat 0) (rangeKs 0 ((ns.length : Int) - 1 - 0).toNat)) = (List.replicate (((List.map (fun k' => k' - W) (List.map (fun k' => ns.getD (k' + 1).toNat 0 - ns.getD k'.toNat 0) (rangeKs 0 ((ns.length : Int) - 1 - 0).toNat))).length : Int)).toNat [(MM.length : Int)]).flatten := by
    rw [fG0, flat_rep, List.length_replicate, show (((sz.fdiv W).toNat - 1 : Nat) : Int).toNat = (sz.fdiv W).toNat - 1 by omega]
  have fS : ns.getD (Int.toNat 0) 0 - bg + (bg + sz - (ns.map (fun k' => k' + W)).getD (-1 + ((ns.map (fun k' => k' + W)).length : Int)).toNat 0) + (List.map (fun k' => k' - W) (List.map (fun k' => ns.getD (k' + 1).toNat 0 - ns.getD k'.toNat 0) (rangeKs 0 ((ns.length : Int) - 1 - 0).toNat))).sum = sz - (ns.length : Int) * W := by
    rw [fG0, sum_rep, hs0, hMl, hns, ap_first _ _ hn0, ap_last _ _ _ hn0, show (((sz.fdiv W).toNat - 1 : Nat) : Int) = ((sz.fdiv W).toNat : Int) - 1 by omega, hn, Int.add_mul]
    have : W * (sz.fdiv W - 1) = W * sz.fdiv W - W := by rw [Int.mul_sub, Int.mul_one]
    omega
  have hSb : (List.map (fun k' => k' - W) (List.map (fun k' => ns.getD (k' + 1).toNat 0 - ns.getD k'.toNat 0) (rangeKs 0 ((ns.length : Int) - 1 - 0).toNat))).length ≤ 1000 := by rw [fG0, List.length_replicate]; omega
  clear fG0
  clear g1 g2 g3 g4 g5 hn hn0 e1 hb0 hbr hns hs0 hs5 hs6
  have N0 : News h₀ L s.heap [(fl, listOf vs.toArray nf)] := fun p hp => by
    exact N p (List.mem_singleton.mp hp ▸ m1)
  refine wpAny_call ?_
  k_dflt (refine' cells_enterG ?k1 ?k2 ?k3 ?k4 ?k5 ?kA ?kF ?kK ?k6 ?k7 ?k8 ?k9 ?kB ?kD ?_ ?c2 ?c3 ?c4; (case kA => exact rfl); (case kF => exact rfl); (case kK => assumption); (case k1 => k_asm); (case k2 => k_asm); (case k3 => k_asm); (case k4 => k_asm); (case k5 => k_asm); (case k6 => k_is); (case k7 => k_is); (case k8 => ktr_room); (case k9 => exact BindsTo.of_eq rfl); (case kB => exact rfl); (case kD => decide +kernel); (case c2 => exact rfl); (case c3 => exact rfl); (case c4 => exact rfl); k_whole)
  intro g' L' h' tk' cells' FG' F' N' Y' B' X' T' l1 kG'
  k_lt l1
  have hY := CellsAre.four Y'
  obtain ⟨o1, o2, o3, o4, hE', d1, d2, d3, d4⟩ := hY
  subst hE'
  clear Y'
  simp only [List.cons_append, List.nil_append] at N'
  (try dsimp only)
  (try k_fold)
  k_with "CompSrcT Compare Name cons ref" => (k_dflt (refine LCt.CompSrcT.range (by rfl) (by k_asm) (by k_asm) (by assumption) (small_one (by decide) (by decide) hs1 hs2) (rangeSize_nat _ _) hs3 ?_); intro g9; (refine' kci_range (fun l k => if k * ((ns.length : Int) + 1) ≤ sz - (ns.length : Int) * W then l ++ [k] else l) (fun k9 t9 I9 oI9 C9 oC9 D9 m9 ys9 l9 h9 tk9 E9 hlo9 hhi9 hI9 hC9 hx9 F9 N9 off9 ne9 mk9 => ?_) ?_ (growsG _ _)); (all_goals (try dsimp only)); (all_goals (try k_fold)))
  k_with "KPfDone9" => (unfold KPfDone; intro ys9 hi9 hl9; rw [foldG, List.nil_append, hMe] at hi9; clear hl9)
  k_with "CompEnd int" => exact LCg.CompEnd.intro (by k_asm) (by k_asm) _ (fun _ hp => hp) (by assumption) trivial ⟨rfl, _, _, rfl, if_pos (by assumption)⟩
  k_with "CompEnd none" => exact LCg.CompEnd.intro (by k_asm) (by k_asm) _ (fun _ hp => hp) (by assumption) trivial ⟨rfl, if_neg (by assumption)⟩
  k_steps
  all_goals (with_reducible rename News _ _ _ _ => kN)
  all_goals first
    | exact absurd f0 (by assumption)
    | exact absurd (by assumption) fz
    | (rw [beq_iff_eq.mpr fS]; exact ret _ _ _ _ ⟨rfl, rfl⟩ (by k_asm) (frame_keep (n1 := []) N (fun p hp => hp) (by assumption) (by k_asm) kN (List.forall_mem_nil _) (quad1 m1 (by k_mem))))
end Mine
end

section
open PySem PySem.W PyProof.Rows
namespace Mine
local macro_rules | `(tactic| k_ne) => `(tactic| first | k_extra "NE" | (refine neN ?_; (try dsimp only); omega))
local macro_rules | `(tactic| walk_at "h:S1") => `(tactic| (refine' ⟨?B, ?F, ?X, ?N, ?T, ?K⟩; (case B => k_asm); (case F => k_asm); (case X => k_asm); (case N => k_asm); (case T => k_asm); (case K => first | exact rfl | assumption)))
local macro_rules | `(tactic| walk_at "h:S2") => `(tactic| (refine' ⟨?d, ?u⟩; (case d => ktr_room); (case u => ktr_units)))
local macro_rules | `(tactic| ktr_units) => `(tactic| first | exact units3 (by assumption) (by decide) | (have hcL9 := cLine_is; (simp only [units_under_make, units_in1, units_deeper, Around.mark_units, units_caller] at *); (try dsimp only [ktrTop] at *); omega))
local macro_rules | `(tactic| k_room) => `(tactic| ktr_room)
local macro_rules | `(tactic| k_all) => `(tactic| assumption)

local macro_rules | `(tactic| walk_at "subscriptTail Name BinOp ref int") => `(tactic| (k_here; k_dflt (refine' ksa_sub ?k1 ?k2 ?k3 ?k4 ?k5 ?k6 ?_ ?k7; (case k1 => k_asm); (case k2 => k_mem); (case k3 => with_reducible assumption); (case k4 => exact ixA (by assumption)); (case k5 => exact ixB (by assumption) (by assumption)); (case k6 => exact ixD (ixB (by assumption) (by assumption)) (by assumption)); (case k7 => with_unfolding_all rfl); k_whole); intro _))
local macro_rules | `(tactic| walk_at "subscriptTail Name Name ref int") => `(tactic| (k_here; k_dflt (refine' ksa_sub ?k1 ?k2 ?k3 ?k4 ?k5 ?k6 ?_ ?k7; (case k1 => k_asm); (case k2 => k_mem); (case k3 => with_reducible assumption); (case k4 => assumption); (case k5 => exact ixC (by assumption) (by assumption)); (case k6 => exact ixD (ixC (by assumption) (by assumption)) (by assumption)); (case k7 => with_unfolding_all rfl); k_whole); intro _))
local macro_rules | `(tactic| walk_at "eval ListComp Name cons") => `(tactic| k_extra "Q eval ListComp Name cons")
local macro_rules | `(tactic| walk_at "compareOp Eq ref ref") => `(tactic| (k_here; k_dflt (refine' ke_eq_ints ?ea ?eb ?ec ?ed ?eu ?_; (case ea => first | with_reducible assumption | exact isl (by k_asm) (by k_mem)); (case eb => first | with_reducible assumption | exact isl (by k_asm) (by k_mem)); (case ec => with_reducible assumption); (case ed => with_reducible assumption); (case eu => exact unA (by assumption)); k_whole)))
local macro_rules | `(tactic| walk_at "testChain") => `(tactic| (k_here; k_dflt (first | refine test_link ?_ | refine test_last ?_); (try dsimp only)))
theorem words_CD_0 : True := by
  k_with_none
  k_with "PROJ" => first | exact h9.1 | exact h9 | exact h9.2.1 | exact h9.2 | exact h9.2.2.1 | exact h9.2.2 | exact h9.2.2.2.1 | exact h9.2.2.2 | exact h9.2.2.2.2.1 | exact h9.2.2.2.2 | exact h9.2.2.2.2.2.1 | exact h9.2.2.2.2.2 | exact h9.2.2.2.2.2.2.1 | exact h9.2.2.2.2.2.2 | exact h9.2.2.2.2.2.2.2.1 | exact h9.2.2.2.2.2.2.2 | exact h9.2.2.2.2.2.2.2.2.1 | exact h9.2.2.2.2.2.2.2.2 | exact h9.2.2.2.2.2.2.2.2.2.1 | exact h9.2.2.2.2.2.2.2.2.2 | exact h9.2.2.2.2.2.2.2.2.2.2.1 | exact h9.2.2.2.2.2.2.2.2.2.2 | exact h9.2.2.2.2.2.2.2.2.2.2.2.1 | exact h9.2.2.2.2.2.2.2.2.2.2.2 | exact h9.2.2.2.2.2.2.2.2.2.2.2.2.1 | exact h9.2.2.2.2.2.2.2.2.2.2.2.2 | exact h9.2.2.2.2.2.2.2.2.2.2.2.2.2.1 | exact h9.2.2.2.2.2.2.2.2.2.2.2.2.2 | exact h9.2.2.2.2.2.2.2.2.2.2.2.2.2.2.1 | exact h9.2.2.2.2.2.2.2.2.2.2.2.2.2.2 | exact h9.2.2.2.2.2.2.2.2.2.2.2.2.2.2.2.1 | exact h9.2.2.2.2.2.2.2.2.2.2.2.2.2.2.2 | exact h9.2.2.2.2.2.2.2.2.2.2.2.2.2.2.2.2.1 | exact h9.2.2.2.2.2.2.2.2.2.2.2.2.2.2.2.2 | exact h9.2.2.2.2.2.2.2.2.2.2.2.2.2.2.2.2.2.1 | exact h9.2.2.2.2.2.2.2.2.2.2.2.2.2.2.2.2.2 | exact h9.2.2.2.2.2.2.2.2.2.2.2.2.2.2.2.2.2.2.1 | exact h9.2.2.2.2.2.2.2.2.2.2.2.2.2.2.2.2.2.2 | exact h9.2.2.2.2.2.2.2.2.2.2.2.2.2.2.2.2.2.2.2.1 | exact h9.2.2.2.2.2.2.2.2.2.2.2.2.2.2.2.2.2.2.2 | exact h9.2.2.2.2.2.2.2.2.2.2.2.2.2.2.2.2.2.2.2.2.1 | exact h9.2.2.2.2.2.2.2.2.2.2.2.2.2.2.2.2.2.2.2.2 | exact h9.2.2.2.2.2.2.2.2.2.2.2.2.2.2.2.2.2.2.2.2.2.1 | exact h9.2.2.2.2.2.2.2.2.2.2.2.2.2.2.2.2.2.2.2.2.2 | exact h9.2.2.2.2.2.2.2.2.2.2.2.2.2.2.2.2.2.2.2.2.2.2.1 | exact h9.2.2.2.2.2.2.2.2.2.2.2.2.2.2.2.2.2.2.2.2.2.2 | exact h9.2.2.2.2.2.2.2.2.2.2.2.2.2.2.2.2.2.2.2.2.2.2.2.1 | exact h9.2.2.2.2.2.2.2.2.2.2.2.2.2.2.2.2.2.2.2.2.2.2.2 | exact h9.2.2.2.2.2.2.2.2.2.2.2.2.2.2.2.2.2.2.2.2.2.2.2.2.1 | exact h9.2.2.2.2.2.2.2.2.2.2.2.2.2.2.2.2.2.2.2.2.2.2.2.2
  k_with "NE" => ((try refine neN ?_); (try dsimp only); first
    | assumption
    | exact Ne.symm (by assumption)
    | exact Nat.ne_of_lt (by assumption)
    | exact Nat.ne_of_gt (by assumption)
    | exact off_ne1 _
    | exact Ne.symm (off_ne1 _)
    | exact off_ne2 _
    | exact Ne.symm (off_ne2 _)
    | exact off_ne3 _
    | exact Ne.symm (off_ne3 _)
    | exact off_ne4 _
    | exact Ne.symm (off_ne4 _)
    | exact off_ne5 _
    | exact Ne.symm (off_ne5 _)
    | (refine succ_ne ?_; k_extra "NE")
    | (refine ne_cr (by assumption) ?_; intro h9; k_extra "PROJ")
    | (refine ne_cl (by assumption) ?_; intro h9; k_extra "PROJ")
    | (refine lt_cr (by assumption) ?_; intro h9; k_extra "PROJ")
    | (refine lt_cl (by assumption) ?_; intro h9; k_extra "PROJ")
    | (refine lt_off1 ?_; first | assumption | (refine lt_c (by assumption) ?_; intro h9; k_extra "PROJ"))
    | (refine Ne.symm (lt_off1 ?_); first | assumption | (refine lt_c (by assumption) ?_; intro h9; k_extra "PROJ"))
    | (refine lt_off2 ?_; first | assumption | (refine lt_c (by assumption) ?_; intro h9; k_extra "PROJ"))
    | (refine Ne.symm (lt_off2 ?_); first | assumption | (refine lt_c (by assumption) ?_; intro h9; k_extra "PROJ"))
    | (refine lt_off3 ?_; first | assumption | (refine lt_c (by assumption) ?_; intro h9; k_extra "PROJ"))
    | (refine Ne.symm (lt_off3 ?_); first | assumption | (refine lt_c (by assumption) ?_; intro h9; k_extra "PROJ"))
    | (refine lt_off4 ?_; first | assumption | (refine lt_c (by assumption) ?_; intro h9; k_extra "PROJ"))
    | (refine Ne.symm (lt_off4 ?_); first | assumption | (refine lt_c (by assumption) ?_; intro h9; k_extra "PROJ"))
    | (refine lt_off5 ?_; first | assumption | (refine lt_c (by assumption) ?_; intro h9; k_extra "PROJ"))
    | (refine Ne.symm (lt_off5 ?_); first | assumption | (refine lt_c (by assumption) ?_; intro h9; k_extra "PROJ")))
  k_with "Q eval ListComp Name cons" => (k_here; k_dflt (apply comp_range_id; (case _F => k_asm); (case hh => exact rfl); (case hclos => with_unfolding_all rfl); (case hcell => decide); (case hkind => exact rfl); (case hnames => decide); (case hx => exact rfl); (case hd => decide); (case hl => intro _; exact rfl); (case hs => intro _; with_unfolding_all rfl); k_whole))
  trivial
theorem room0_spec (w : World) (so : Int) (fl : Addr) (nf : Nat) (vs : List Value) (ns : List Int) (W bg sz ed : Int) (t0 t1 t2 t3 t4 : Tok) (news : List (Addr × Obj)) (m1 : (fl, listOf vs.toArray nf) ∈ news) (hI : IntsAre vs ns) (hlen : ns.length ≤ 1000) (hso : so = 2 ∨ so = 3) (hns : ns = [])
    (hW : 0 < W) (hW2 : W ≤ 200) (hz : 0 < sz) (hz2 : sz ≤ 100) (hq : sz.fdiv W = 0) :
    CallC w 329 [.int so t0, .int W t1, .int bg t2, .int sz t3, .int ed t4, .ref fl] news 14 (fun r news' => r = .bool true ∧ news' = news) := by
  w_on
  unfold CallC
  k_fill
  intro loose mean mg mb dp un gd cn cs a ccd cl outer A₀ base h₀ L m s Q E B' F X N T hk hd hu ret
  have hW0 : ¬ W = 0 := by omega
  subst hns
  rcases hso with rfl | rfl
  all_goals (
    have f0 : (([] : List Int).length : Int) = sz.fdiv W := hq.symm
    have N0 : News h₀ L s.heap [(fl, listOf vs.toArray nf)] := fun p hp => by
      exact N p (List.mem_singleton.mp hp ▸ m1)
    refine wpAny_call ?_
    k_dflt (refine' cells_enterG ?k1 ?k2 ?k3 ?k4 ?k5 ?kA ?kF ?kK ?k6 ?k7 ?k8 ?k9 ?kB ?kD ?_ ?c2 ?c3 ?c4; (case kA => exact rfl); (case kF => exact rfl); (case kK => assumption); (case k1 => k_asm); (case k2 => k_asm); (case k3 => k_asm); (case k4 => k_asm); (case k5 => k_asm); (case k6 => k_is); (case k7 => k_is); (case k8 => ktr_room); (case k9 => exact BindsTo.of_eq rfl); (case kB => exact rfl); (case kD => decide +kernel); (case c2 => exact rfl); (case c3 => exact rfl); (case c4 => exact rfl); k_whole)
    intro g' L' h' tk' cells' FG' F' N' Y' B' X' T' l1 kG'
    k_lt l1
    have hY := CellsAre.four Y'
    obtain ⟨o1, o2, o3, o4, hE', d1, d2, d3, d4⟩ := hY
    subst hE'
    clear Y'
    simp only [List.cons_append, List.nil_append] at N'
    (try dsimp only)
    (try k_fold)
    k_steps)
  all_goals (with_reducible rename News _ _ _ _ => kN)
  all_goals first | exact absurd (show ((0:Nat):Int) = sz.fdiv W from hq.symm) (by assumption) | exact ret _ _ _ _ ⟨rfl, rfl⟩ (by k_asm) (frame_keep (n1 := []) N (fun p hp => hp) (by assumption) (by k_asm) kN (List.forall_mem_nil _) (quad1 m1 (by k_mem)))
end Mine
end

section
open PySem PySem.W PyProof.Rows
namespace Mine
local macro_rules | `(tactic| k_ne) => `(tactic| first | k_extra "NE" | (refine neN ?_; (try dsimp only); omega))
local macro_rules | `(tactic| walk_at "h:S1") => `(tactic| (refine' ⟨?B, ?F, ?X, ?N, ?T, ?K⟩; (case B => k_asm); (case F => k_asm); (case X => k_asm); (case N => k_asm); (case T => k_asm); (case K => first | exact rfl | assumption)))
local macro_rules | `(tactic| walk_at "h:S2") => `(tactic| (refine' ⟨?d, ?u⟩; (case d => ktr_room); (case u => ktr_units)))
theorem fdiv_ge0 {sz W : Int} (hW : 0 < W) (hz : 0 < sz) : 0 ≤ sz.fdiv W := by
  rw [Int.fdiv_eq_ediv_of_nonneg _ (by omega)]
  exact Int.ediv_nonneg (by omega) (by omega)
/-- _law_room, all sorts -/
theorem room_spec (w : World) (so : Int) (fl : Addr) (nf : Nat) (vs : List Value) (ns : List Int) (W bg sz ed : Int) (t0 t1 t2 t3 t4 : Tok) (news : List (Addr × Obj)) (m1 : (fl, listOf vs.toArray nf) ∈ news) (hI : IntsAre vs ns) (hs1 : 1 ≤ so) (hs3 : so ≤ 3) (hns : ns = places so bg sz ed W)
    (hW : 0 < W) (hW2 : W ≤ 200) (hz : 0 < sz) (hz2 : sz ≤ 100) (z1 : -100 ≤ bg) (z2 : bg ≤ 100) (z5 : -100 ≤ ed) (z6 : ed ≤ 100) :
    CallC w 329 [.int so t0, .int W t1, .int bg t2, .int sz t3, .int ed t4, .ref fl] news 14 (fun r news' => r = .bool true ∧ news' = news) := by
  have hlen : ns.length ≤ 1000 := by rw [hns]; exact places_len (.inr hz2)
  have hq0 := fdiv_ge0 hW hz
  have hcase : so = 1 ∨ so = 2 ∨ so = 3 := by omega
  rcases hcase with e | e | e
  · subst e
    exact room1_spec w fl nf vs ns W bg sz ed t0 t1 t2 t3 t4 news m1 hI hlen hns hW hW2 hz hz2 z1 z2 z5 z6
  · subst e
    by_cases hq : 0 < sz.fdiv W
    · exact room2_spec w fl nf vs ns W bg sz ed t0 t1 t2 t3 t4 news m1 hI hlen hns hW hW2 hz hz2 hq
    · have hq' : sz.fdiv W = 0 := by omega
      exact room0_spec w 2 fl nf vs ns W bg sz ed t0 t1 t2 t3 t4 news m1 hI hlen (.inl rfl) (by rw [hns, pl2' hW hz, hq']; rfl) hW hW2 hz hz2 hq'
  · subst e
    by_cases hq : 0 < sz.fdiv W
    · exact room3_spec w fl nf vs ns W bg sz ed t0 t1 t2 t3 t4 news m1 hI hlen hns hW hW2 hz hz2 hq
    · have hq' : sz.fdiv W = 0 := by omega
      exact room0_spec w 3 fl nf vs ns W bg sz ed t0 t1 t2 t3 t4 news m1 hI hlen (.inr rfl) (by rw [hns, pl3' hW hz, hq']; rfl) hW hW2 hz hz2 hq'
end Mine
end

section
open PySem PySem.W PyProof.Rows PySem.Calls
namespace Mine
local macro_rules | `(tactic| k_ne) => `(tactic| first | k_extra "NE" | (refine neN ?_; (try dsimp only); omega))
local macro_rules | `(tactic| walk_at "h:S1") => `(tactic| (refine' ⟨?B, ?F, ?X, ?N, ?T, ?K⟩; (case B => k_asm); (case F => k_asm); (case X => k_asm); (case N => k_asm); (case T => k_asm); (case K => first | exact rfl | assumption)))
local macro_rules | `(tactic| walk_at "h:S2") => `(tactic| (refine' ⟨?d, ?u⟩; (case d => ktr_room); (case u => ktr_units)))
abbrev excObj (t : Addr) : Obj := { cls := .ref 76, data := .fields #[.ref t, .none, .none, .none, .bool false, .none] }
abbrev tupOf (vs : List Value) : Obj := { cls := .type "tuple", data := .seq vs.toArray }
section
variable {prog : Program} {w : World} {A : Around} {R : Result → Shared → Prop} {E : Value → Shared → Prop} {h : Heap} {g : Array GenState} {d : Drawn} {t : Nat} {os : OsState} {P : Params}

theorem tm_sub {M : Model} (X : (Mine.hd.heap_39 P).In h) : Looks M h (isSubtype (.ref 76) (.type "ValueError")) true := looks_mroIn X rfl
theorem tm_subB {M : Model} (X : (Mine.hd.heap_39 P).In h) : Looks M h (isSubtype (.ref 76) (.type "BaseException")) true := looks_mroIn X rfl
theorem tm_subO {M : Model} (X : (Mine.hd.heap_39 P).In h) : Looks M h (isSubtype (.ref 76) (.type "object")) true := looks_mroIn X rfl
theorem tm_subA {M : Model} (X : (Mine.hd.heap_39 P).In h) : Looks M h (isSubtype (.ref 76) (.type "AttributeError")) false := looks_mroIn X rfl
theorem tm_subN {M : Model} (X : (Mine.hd.heap_39 P).In h) : Looks M h (isSubtype (.ref 76) (.type "NameError")) false := looks_mroIn X rfl
theorem tm_subS {M : Model} (X : (Mine.hd.heap_39 P).In h) : Looks M h (isSubtype (.ref 76) (.ref 76)) true := looks_mroIn X rfl
theorem tm_mro {M : Model} (X : (Mine.hd.heap_39 P).In h) : Looks M h (mroOf (.ref 76)) [.ref 76, .ref 39, .type "ValueError", .type "Exception", .type "BaseException", .type "object"] := (looks_clsIn X rfl).andThen .now
theorem tm_made {M : Model} (X : (Mine.hd.heap_39 P).In h) : Looks M h (Bind.madeBy (.ref 76)) (some "ValueError.__new__") := Looks.of_peek X rfl
theorem tm_base {M : Model} (X : (Mine.hd.heap_39 P).In h) : Looks M h (Bind.staticBase (.ref 76)) (.ref 76) := Looks.of_peek X rfl
theorem tm_isType {M : Model} (X : (Mine.hd.heap_39 P).In h) : Looks M h (isType (.ref 76)) true := Looks.of_peek X rfl
theorem tm_typ {M : Model} (X : (Mine.hd.heap_39 P).In h) : Looks M h (isInstance (.ref 76) (.type "type")) true := looks_instIn X (by kernel_rfl)
theorem tm_call {M : Model} (X : (Mine.hd.heap_39 P).In h) : Looks M h (specialOf (.ref 76) "__call__") (some (.builtin "type.__call__")) := looks_specialIn X (by kernel_rfl)
theorem tm_init {M : Model} (X : (Mine.hd.heap_39 P).In h) : Looks M h (typeLookup (.ref 76) "__init__") (some (.ref 36)) := looks_findIn X (by kernel_rfl)
theorem tm_here {M : Model} (X : (Mine.hd.heap_39 P).In h) : Looks M h (Bind.madeHere "BaseException.__new__" (.ref 76)) () := (tm_base X).andThen ((tm_made X).andThen (Looks.of_pure (by
  have c := PySem.F.excBase_ValueError.canon
  simp only [Option.map_some, c, bne_self_eq_false, Bool.false_eq_true, if_false])))
theorem tm_bind {M : Model} (X : (Mine.hd.heap_39 P).In h) (self : Value) : Looks M h (bindSpecial (.ref 36) self) (.ref 36, [self]) := bind_fn X self (by kernel_rfl)

theorem tm_check {rest : List Value} {M : Model} {s : Shared} {Q : Unit → Shared → Prop} (X : (Mine.hd.heap_39 P).In s.heap) (q : Q () s) : wpAny M A (checkBuiltinCall "ValueError.__new__" ⟨.ref 76 :: rest, []⟩) Q E s := by
  have F := PySem.F.excBase_ValueError
  have l1 := tm_sub (M := M) X
  have l2 := tm_base (M := M) X
  have l3 := tm_made (M := M) X
  have l4 := tm_isType (M := M) X
  have hstar := F.noStar
  simp only [checkBuiltinCall, F.newKind, F.newSplit, F.newRow]
  repeat (first | simp only [bne_self_eq_false, Bool.false_eq_true, if_false] | lk)
  exact q

theorem tm_new {rest : List Value} {s : Shared} (X : (Mine.hd.heap_39 P).In s.heap) (hlen : rest.length ≤ sizeLine)
    (hq : R (.ok (.ret (.ref (s.heap.objs.size + 1)))) { s with heap := (s.heap.push (tupOf rest)).push (excObj s.heap.objs.size) }) :
    codeAny (model prog w) A (.builtin "ValueError.__new__" ⟨.ref 76 :: rest, []⟩) R s := by
  obtain ⟨h, g, d, t, os⟩ := s
  have F := PySem.F.excBase_ValueError
  have hends := F.ends
  have l1 := tm_sub (M := model prog w) X
  have l2 := tm_here (M := model prog w) X
  have l3 := tm_subA (M := model prog w) X
  have l4 := tm_subN (M := model prog w) X
  have hC := X 76 _ rfl
  refine codeAny_builtinAt F.entry ?_
  unfold Builtin.«BaseException.__new__»
  refine PySem.wpAt_bind ?_
  show PySem.wpAt _ _ _ (stack >>= _) _ _ _
  refine PySem.wpAt_bind (PySem.wpAt_stack fun p below => PySem.wpAt_of_wpAny ?_)
  wp_walk
  refine PySem.wpAt_of_wpAny ?_
  rw [F.owner]
  repeat (first | with_reducible refine Looks.here (by assumption) ?_ | with_reducible refine wpAny_loadPart_at hC ?_ | wp_step)
  show R _ _
  rw [Heap.size_push]
  exact hq

theorem tm_core {rest : List Value} {s : Shared} (X : (Mine.hd.heap_39 P).In s.heap) (hlen : rest.length ≤ sizeLine)
    (hq : codeAny (model prog w) (A.under (.builtin "type.__call__" ⟨.ref 76 :: rest, []⟩)) (.call (.ref 36) ⟨.ref (s.heap.objs.size + 1) :: rest, []⟩) (InitBack (s.heap.objs.size + 1) R) { s with heap := (s.heap.push (tupOf rest)).push (excObj s.heap.objs.size) }) :
    codeAny (model prog w) A (.call (.ref 76) ⟨rest, []⟩) R s := by
  have hC := X 76 _ rfl
  have F := PySem.F.excBase_ValueError
  have l1 := tm_mro (M := model prog w) X
  have l3 := tm_made (M := model prog w) X
  refine codeAny_of_tree ?_
  show wpAny _ _ (callAny (.ref 76) _) _ _ _
  refine nd_load hC ?_
  show wpAny _ _ (callAny.viaDunder (.ref 76) _) _ _ _
  unfold callAny.viaDunder
  refine wpAny_bind ((tm_call X).here ?_)
  dsimp only
  rw [tc_bind]
  refine wpAny_bind (wpAny_pure (wpAny_bind (wpAny_pure ?_)))
  refine wpAny_pure (a := Fin.again (.call (.builtin "type.__call__") ⟨.ref 76 :: rest, []⟩)) (And.intro rfl ?_)
  refine codeAny_call_builtin_at (Code.quiet_builtin _ (by decide +kernel)) entry_typeCall (check_slot tc_kind tc_split (tm_typ X) (tc_args _ _ _) ?_)
  unfold Builtin.«type.__call__»
  repeat (first | with_reducible refine wpAny_call ?_ | lk)
  refine codeAny_call_builtin_code (Code.quiet_builtin _ F.quiet) (tm_check X (tm_new X hlen ?_))
  obtain ⟨h, g, d, t, os⟩ := s
  dsimp only at hq ⊢
  have k : ∀ b o, h.get? b = some o → ((h.push (tupOf rest)).push (excObj h.objs.size)).get? b = some o := fun b o e => Heap.get?_push_of_some _ (Heap.get?_push_of_some _ e)
  have hx : ((h.push (tupOf rest)).push (excObj h.objs.size)).get? (h.objs.size + 1) = some (excObj h.objs.size) := by heap_get
  have t1 : Looks (model prog w) ((h.push (tupOf rest)).push (excObj h.objs.size)) (typeOf (.ref (h.objs.size + 1))) (.ref 76) := (Looks.ld hx).andThen .now
  have s1 := (tm_subS (M := model prog w) X).keeps k
  have i1 := (tm_init (M := model prog w) X).keeps k
  have b1 := (tm_bind (M := model prog w) X (.ref (h.objs.size + 1))).keeps k
  unfold isInstance callSpecial? specialOf
  repeat (first | with_reducible refine wpAny_call ?_ | lk)
  refine codeAny_mono hq fun r s' z => ?_
  rcases r with e | (v | _ | _ | _) <;> first | exact z | exact z.elim | skip
  obtain ⟨rfl, z⟩ := z
  exact wpAny_pure (wpAny_pure z)

theorem exc_store {s : Shared} {h₀ : Heap} {L e t : Addr} {m : Str → Option Value} {rest : List (Addr × Obj)} {v : Value} {Q : Unit → Shared → Prop} (F : Fr h₀ L s.heap m) (X : (Mine.hd.heap_39 P).In s.heap) (N : News h₀ L s.heap ((e, excObj t) :: rest)) (hne : ∀ p ∈ rest, p.1 ≠ e)
    (hq : ∀ h' dx tk', Fr h₀ L h' m → News h₀ L h' ((e, { excObj t with dict := some dx }) :: rest) → Q () { s with heap := h', toks := tk' }) :
    wpAny (model prog w) A (setAttr (.ref e) (Str.ofString "reason") v) Q E s := by
  have SF := PySem.F.store_object
  have SV := PySem.F.store_ValueError
  obtain ⟨hx, heL, he0⟩ := N _ (.head _)
  have t1 : Looks (model prog w) s.heap (typeOf (.ref e)) (.ref 76) := (Looks.ld hx).andThen .now
  have f1 : Looks (model prog w) s.heap (typeLookup (.ref 76) "__setattr__") (some (.builtin "object.__setattr__")) := looks_findIn X (by kernel_rfl)
  have f2 : Looks (model prog w) s.heap (typeLookup (.ref 76) (Str.ofString "reason")) none := looks_findIn X (by kernel_rfl)
  have sub : Looks (model prog w) s.heap (isInstance (.ref e) (.type "object")) true := t1.andThen (tm_subO X)
  have keeps : ∀ h', (∀ b o, b ≠ e → s.heap.get? b = some o → h'.get? b = some o) → Fr h₀ L h' m ∧ News h₀ L h' rest := fun h' k =>
    ⟨⟨F.ns.elim fun oL q => by obtain ⟨es, ep, hL, r⟩ := q; exact ⟨oL, es, ep, k _ _ (Ne.symm heL) hL, r⟩, fun b o q => k b o (fun z => by rw [z, he0] at q; cases q) (F.keep b o q), F.above⟩,
      fun p hp => ⟨k _ _ (hne p hp) (N p (.tail _ hp)).1, (N p (.tail _ hp)).2⟩⟩
  refine wpAny_bind (wpAny_mkText (wpAny_bind (wpAny_bind (wpAny_bind (t1 _ _ _ _ (fun _ _ z => z) (f1 _ _ _ _ (fun _ _ z => z) (wpAny_holding ?_)))))))
  rw [PySem.F.store_object.slot.bind]
  refine wpAny_bind (wpAny_pure (wpAny_bind (wpAny_call ?_)))
  refine codeAny_call_builtin SF.slot.plain SF.entry (@check_slot (model prog w) _ _ { s with toks := s.toks + 1 } "object.__setattr__" "object" "__setattr__" (.ref e) [.str (Str.ofString "reason") s.toks, v] [] _ SF.kind SF.split sub (SF.args (.ref e) (.str (Str.ofString "reason") s.toks) v) ?_)
  rw [List.singleton_append, osa_eq, refuse_eq]
  refine wpAny_bind (wpAny_bind (t1 _ _ _ _ (fun _ _ z => z) (wpAny_bind (tm_mro X _ _ _ _ (fun _ _ z => z) ?_))))
  rw [refuseLoop_ref, refuseLoop_ref, SV.passes]
  refine wpAny_pure (wpAny_bind (t1 _ _ _ _ (fun _ _ z => z) (wpAny_bind (f2 _ _ _ _ (fun _ _ z => z) ?_))))
  refine wpAny_bind (wpAny_pure ?_)
  obtain ⟨h, g, d, tk, os⟩ := s
  dsimp only at *
  show wpAny _ _ (Builtin.ObjectAttr.storeInOwnDict (Value.ref e) (Value.ref 76) (Value.str (Str.ofString "reason") tk) (Str.ofString "reason") v false) _ _ _
  unfold Builtin.ObjectAttr.storeInOwnDict
  have hC := X 76 _ rfl
  have hcd : typeHasDict (excObj t).cls = true := rfl
  have hcx : ∀ d, dictMade (excObj t).cls e d = pure (some d) := fun _ => rfl
  have hxs : e ≠ h.objs.size := Nat.ne_of_lt (Heap.lt_size hx)
  have hx₁ : (h.push { cls := .type "dict", data := .dict #[] }).get? e = some (excObj t) := Heap.get?_push_of_some _ hx
  have hgd : ((h.push { cls := .type "dict", data := .dict #[] }).update e fun o => { cls := o.cls, dict := some h.objs.size, data := o.data, slots := o.slots }).get? h.objs.size
      = some { cls := .type "dict", data := .dict #[] } := (Heap.get?_update_ne _ _ _ _ hxs.symm).trans (Heap.get?_push_at rfl rfl)
  have hnd : ((h.push { cls := .type "dict", data := .dict #[] }).update e fun o => { cls := o.cls, dict := some h.objs.size, data := o.data, slots := o.slots }).Ns h.objs.size (fun _ => none) :=
    ⟨_, #[], _, hgd, rfl, fun e he => absurd he (by simp), fun _ => rfl⟩
  repeat (first | with_reducible refine wpAny_nsSet1 (Heap.Ns1.of_empty hnd) ?_ | with_reducible refine Looks.here (by assumption) ?_ | with_reducible refine wpAny_loadPart_at hx ?_ | (with_reducible refine wpAny_load hC ?_) | rw [hcd] | rw [hcx] | wp_step)
  intro h' hn' hs
  obtain ⟨oD, esD, epD, hoD, hdD, hcD⟩ := hn'.count (Within.cons (Str.ofString "reason") v Within.nil)
  refine wpAny_bind (wpAny_lookBehind hoD (by rw [hdD]; exact pastItsLine_dict (Nat.le_trans hcD (by rw [List.length_cons, List.length_nil, sizeLine_eq]; omega))) ?_)
  have hxd : h'.get? e = some { excObj t with dict := some h.objs.size } := (hs.2 e hxs).trans (Heap.get?_update_self _ hx₁ rfl)
  have hk : ∀ b o, b ≠ e → h.get? b = some o → h'.get? b = some o := fun b o hb q =>
    (hs.2 b (Nat.ne_of_lt (Heap.lt_size q))).trans ((Heap.get?_update_ne _ _ _ _ hb).trans (Heap.get?_push_of_some _ q))
  obtain ⟨F', N'⟩ := keeps h' hk
  refine wpAny_pure (wpAny_pure (wpAny_pure (hq h' h.objs.size _ F' fun p hp => ?_)))
  rcases List.mem_cons.mp hp with rfl | hp
  · exact ⟨hxd, heL, he0⟩
  · exact N' p hp
end
end Mine
end

section
open PySem PySem.W PyProof.Rows PySem.Calls PySem.Spec
namespace Mine
local macro_rules | `(tactic| k_ne) => `(tactic| first | k_extra "NE" | (refine neN ?_; (try dsimp only); omega))
local macro_rules | `(tactic| walk_at "h:S1") => `(tactic| (refine' ⟨?B, ?F, ?X, ?N, ?T, ?K⟩; (case B => k_asm); (case F => k_asm); (case X => k_asm); (case N => k_asm); (case T => k_asm); (case K => first | exact rfl | assumption)))
local macro_rules | `(tactic| walk_at "h:S2") => `(tactic| (refine' ⟨?d, ?u⟩; (case d => ktr_room); (case u => ktr_units)))
abbrev excObjD (t dx : Addr) : Obj := { cls := .ref 76, dict := some dx, data := .fields #[.ref t, .none, .none, .none, .bool false, .none] }
section
variable {prog : Program} {w : World} {A : Around} {E : Value → Shared → Prop} {s : Shared} {P : Params} {env : Env}
theorem raiseStmt_tm {x : Sem Value} {Q : Flow → Shared → Prop} (hh : A.handled = none)
    (h : wpAny (model prog w) A x (fun v s₁ => ∃ e t dx, v = .ref e ∧ (Mine.hd.heap_39 P).In s₁.heap ∧ s₁.heap.get? e = some (excObjD t dx) ∧ E (.ref e) s₁) E s) :
    wpAny (model prog w) A (raiseStmt env (some x) none) Q E s := by
  unfold raiseStmt
  refine wpAny_bind (wpAny_mono h (fun v s₁ h₁ => ?_) fun _ _ z => z)
  obtain ⟨e, t, dx, rfl, X, he, hE⟩ := h₁
  obtain ⟨hp, g, d, tk, os⟩ := s₁
  have l1 := tm_subB (M := model prog w) X
  have l2 : Looks (model prog w) hp (typeOf (.ref e)) (.ref 76) := (Looks.ld he).andThen .now
  have hC := X 76 _ rfl
  repeat (first | with_reducible refine Looks.here (by assumption) ?_ | with_reducible refine wpAny_loadPart_at he ?_ | with_reducible refine wpAny_loadPart_at hC ?_ | wp_step)
  exact wpAny_raiseNew_none hh hE
theorem exec_raise_tm {c : Expr} {pos : Pos} {Q : Flow → Shared → Prop} (hh : A.handled = none)
    (h : wpAny (model prog w) A (eval c env) (fun v s₁ => ∃ e t dx, v = .ref e ∧ (Mine.hd.heap_39 P).In s₁.heap ∧ s₁.heap.get? e = some (excObjD t dx) ∧ E (.ref e) s₁) E s) :
    wpAny (model prog w) A (exec (.Raise (some c) none pos) env) Q E s := by
  rw [arm_exec_Raise]
  exact wpAny_bind (wpAny_standAt (raiseStmt_tm hh (wpAny_bind (wpAny_mono h (fun v s₁ h₁ => wpAny_bind (wpAny_standAt (wpAny_pure h₁))) fun _ _ z => z))))
end

section
variable {M : Model} {A A₀ : Around} {E : Value → Shared → Prop} {s' : Shared} {base g G : Heap} {env : Env} {outer : List Env} {L e t dx : Addr} {m : Str → Option Value} {news : List (Addr × Obj)} {vs : List Value}
theorem leave_tm {Q : Unit → Shared → Prop} (K : Below A base outer g) (F : Fr g L s'.heap m) (N : News g L s'.heap ((e, excObjD t dx) :: (t, tupOf vs) :: news)) (hne : ∀ q ∈ news, q.1 ≠ e ∧ q.1 ≠ t) (hf : env.frame = some L) (hke : env.scope.kind = .function)
    (hQ : ∀ h', RaisedS base g outer e (.ref 76) t vs news h' → g.UpToSlots h' → Q () { s' with heap := h' }) : wpAny M (A.deeper env) (leaving env (.ref e)) Q E s' := by
  have K' := pushX K F hf hke
  obtain ⟨he, heL, heg⟩ := N _ (.head _)
  obtain ⟨ht, htL, htg⟩ := N _ (.tail _ (.head _))
  have hin : ∀ env' ∈ env :: outer, ∀ b, env'.frame = some b → b ∈ e :: t :: (env :: outer).filterMap (·.frame) := fun env' hm b hb => .tail _ (.tail _ (List.mem_filterMap.mpr ⟨env', hm, hb⟩))
  have cut : ∀ b, b ∈ (env :: outer).filterMap (·.frame) → b = L ∨ b ∈ outer.filterMap (·.frame) := fun b hm => by
    obtain ⟨env', he', hf'⟩ := List.mem_filterMap.mp hm
    rcases List.mem_cons.mp he' with rfl | he'
    · exact .inl (Option.some.inj (hf'.symm.trans hf))
    · exact .inr (List.mem_filterMap.mpr ⟨env', he', hf'⟩)
  have st : base.StaysIn (hideAll s'.heap (e :: t :: (env :: outer).filterMap (·.frame))) := fun b o q => hideAll_get _ (K'.stays b o q) fun hm => by
    rcases List.mem_cons.mp hm with z | hm
    · rw [z, kts_none K.stays heg] at q; cases q
    rcases List.mem_cons.mp hm with z | hm
    · rw [z, kts_none K.stays htg] at q; cases q
    · rw [(K'.frames.mem hm).1] at q; cases q
  have sg : ∀ b o, g.get? b = some o → b ∉ outer.filterMap (·.frame) → (hideAll s'.heap (e :: t :: (env :: outer).filterMap (·.frame))).get? b = some o := fun b o q nm => hideAll_get _ (F.keep b o q) fun hm => by
    rcases List.mem_cons.mp hm with z | hm
    · have heg' : g.get? e = none := heg
      rw [z, heg'] at q; cases q
    rcases List.mem_cons.mp hm with z | hm
    · have htg' : g.get? t = none := htg
      rw [z, htg'] at q; cases q
    rcases cut _ hm with z | z
    · rw [z, kts_self F] at q; cases q
    · exact nm z
  have hl : ∀ q ∈ news, (hideAll s'.heap (e :: t :: (env :: outer).filterMap (·.frame))).get? q.1 = some q.2 ∧ g.get? q.1 = none ∧ base.get? q.1 = none := fun q hq => by
    have Nq := N q (.tail _ (.tail _ hq))
    refine ⟨hideAll_get _ Nq.1 fun hm => ?_, Nq.2.2, kts_none K.stays Nq.2.2⟩
    rcases List.mem_cons.mp hm with z | hm
    · exact (hne q hq).1 z
    rcases List.mem_cons.mp hm with z | hm
    · exact (hne q hq).2 z
    rcases cut _ hm with z | z
    · exact Nq.2.1 z
    · obtain ⟨o, ho, _⟩ := (K.frames.mem z).2
      rw [Nq.2.2] at ho; cases ho
  refine wpAny_leaving_firstW (base := hideAll s'.heap (e :: t :: (env :: outer).filterMap (·.frame))) (a0 := .ref t) K'.stack (funFrames_hide K'.frames hin) hf he (fun b o q => of_hideAll _ q) (hideAll_none _ (.head _)) rfl rfl rfl fun h' hL => ?_
  obtain ⟨k1, ⟨_, _, k2⟩, k3, k4⟩ := hL
  exact hQ h' ⟨⟨_, st, sg, hl, ⟨k1, hideAll_none _ (.head _), k2, k3⟩, hideAll_none _ (.tail _ (.head _))⟩, Heap.TupAt.of_slots ⟨_, _, ht, rfl, rfl⟩ k4⟩ ((Heap.UpToSlots.of_keeps F.keep).trans k4)
end

/-- TooMuch flies: what the caller still has of its ledger -/
def RaisedT (base g G : Heap) (l : List Env) (e t : Addr) (news : List (Addr × Obj)) (h : Heap) : Prop :=
  ∃ B, base.StaysIn B ∧ (∀ b o, G.get? b = some o → b ∉ l.filterMap (·.frame) → B.get? b = some o) ∧ (∀ q ∈ news, B.get? q.1 = some q.2 ∧ g.get? q.1 = none) ∧ Heap.FlyingW B l e (.ref 76) (.ref t) h
theorem RaisedS.all {A₀ : Around} {base g G h h₁ : Heap} {env : Env} {outer : List Env} {L e t : Addr} {vs : List Value} {n0 n1 news : List (Addr × Obj)} (R : RaisedS base G (env :: outer) e (.ref 76) t vs n1 h) (h1 : ∀ p ∈ n0, p ∈ n1) (N : News g L h₁ news) (hs : ∀ p ∈ n0, p ∈ news) (GS : GSub h₁ G (n0.map (·.1)))
    (K : Below A₀ base outer g) (hf : env.frame = some L) : RaisedT base g G (env :: outer) e t news h := by
  obtain ⟨⟨B, a, b, c, d, _⟩, _⟩ := R
  refine ⟨B, a, b, fun q hq => ⟨?_, (N q hq).2.2⟩, d⟩
  by_cases hm : q.1 ∈ n0.map (·.1)
  · obtain ⟨p, hp, e⟩ := List.mem_map.mp hm
    have z1 := (N p (hs p hp)).1
    have z2 := (N q hq).1
    rw [← e, z1] at z2
    rw [← e, (c p (h1 p hp)).1]
    exact z2
  · refine b _ _ (GS _ _ (N q hq).1 hm) fun hfr => ?_
    obtain ⟨env', he', hf'⟩ := List.mem_filterMap.mp hfr
    rcases List.mem_cons.mp he' with rfl | he'
    · exact (N q hq).2.1 (Option.some.inj (hf'.symm.trans hf))
    · obtain ⟨o, ho, _⟩ := (K.frames.mem (List.mem_filterMap.mpr ⟨env', he', hf'⟩)).2
      rw [(N q hq).2.2] at ho; cases ho
section
variable {prog : Program} {w : World} {A₀ : Around} {E : Value → Shared → Prop} {s' : Shared} {base g G : Heap} {env : Env} {outer : List Env} {L e t : Addr} {m : Str → Option Value} {news : List (Addr × Obj)} {vs : List Value} {P : Params}
  {p : Program} {loose : List Str} {mean : ExcName → Option Value} {mg mb : Str → Option Value} {b₀ : Stmt} {suite : List Stmt} {pos np : Pos} {rest : List ExceptHandler} {Q : Flow → Shared → Prop}
theorem ground_tm {h₅ B : Heap} (K : Below A₀ base outer g) (F : Fr g L G m) (hBG : ∀ b o, G.get? b = some o → b ∉ (env :: outer).filterMap (·.frame) → B.get? b = some o) (hf : env.frame = some L) (hBh : B.StaysIn h₅) (hsm : G.UpToSlots h₅) :
    ∃ g', KtsTurn (outer.filterMap (·.frame)) g g' ∧ Fr g' L h₅ m ∧ Below A₀ base outer g' := by
  refine kts_ground (name := default) (scope := env.scope) (a := 0) (cd := .none) K F (fun b o q hm => hBG b o q ?_) hBh hsm
  simp only [List.filterMap_cons, hf]
  simpa only [List.filterMap_cons, envOf] using hm
theorem caught_tm (hf : env.frame = some L) (hkd : env.scope.kind = .function) (hgl : env.globals = mainGlobals) (hx : env.kindOf (Str.ofString "TooMuch") = some .globalImplicit)
    (R : RaisedT base g G (env :: outer) e t news s'.heap) (F : Fr g L G m) (K : Below A₀ base outer g) (hsm : G.UpToSlots s'.heap) (XB : (Mine.hd.heap_39 P).In base) (TB : Top p loose mean mg mb base)
    (k : ∀ h' g', KtsTurn (outer.filterMap (·.frame)) g g' → Fr g' L h' m → News g' L h' news → Below A₀ base outer g' → (Mine.hd.heap_39 P).In g' → Top p loose mean mg mb g' → ∀ E',
      wpAny (model prog w) ((A₀.deeper env).mark (some (.ref e))) (execs (b₀ :: suite) env) Q E' { s' with heap := h' }) :
    wpAny (model prog w) (A₀.deeper env) (noteFrame (.ref e) env)
      (fun _ s₂ => wpAny (model prog w) (A₀.deeper env) (setFlight (.ref e) none) (fun _ s₃ =>
        wpAny (model prog w) (A₀.deeper env) (handleBy (.ref e) env (.ExceptHandler (some (.Name (Str.ofString "TooMuch") np)) none (b₀ :: suite) pos :: rest)) Q E s₃) E s₂) E s' := by
  obtain ⟨B, hB, hBG, hl, hfl⟩ := R
  have hL : B.get? L = none := by
    obtain ⟨_, ⟨L', _, hf', hn', _⟩, _⟩ := hfl.2.2.1
    obtain rfl : L = L' := Option.some.inj (hf.symm.trans hf')
    exact hn'
  refine wpAny_looks_onW (Around.frames_deeper K.stack) hf hfl fun h₄ hheld₄ hsm₄ => ?_
  refine wpAny_landsW hheld₄ fun h₅ hheld hsm₅' => ?_
  have hsm₅ := hsm₄.trans hsm₅'
  obtain ⟨g₅, T₅, F₅, K₅⟩ := ground_tm K F hBG hf hheld.1 (hsm.trans hsm₅)
  have X₅ : (Mine.hd.heap_39 P).In g₅ := XB.keeps K₅.stays
  have P₅ : TopRead p loose mg mb g₅ := topRead_of (TB.keeps K₅.stays)
  obtain ⟨ob, hob, hobc⟩ := hheld.there
  have hC₅ := F₅.keep _ _ (X₅ 76 _ rfl)
  refine wpAny_handleBy_cons (codeAny_handlers_test (nameG_K F₅ X₅ P₅ (v := .ref 76) rfl ?_ hgl hkd hx (by decide))) (by intro q; cases q)
  refine wpAny_excMatches_sub_self (nm := _) (q := _) (N := _) (bs := _) (bm := _) (hdct := _) (sn := _) (sub := _) (ab := _) (col := _) (dd := _) (k0 := _) (k1 := _) (k2 := _) (k3 := _) (k5 := _) (newId := _) hC₅ hob hobc rfl (codeAny_handlers_suite ?_)
  refine lands_againW hheld fun h₆ hfl₆ hsm₆ => ?_
  obtain ⟨g₆, T₆, F₆, K₆⟩ := ground_tm K F hBG hf hfl₆.1 ((hsm.trans hsm₅).trans hsm₆)
  have Nl : News g₆ L h₆ news := fun q hq => ⟨hfl₆.1 _ _ (hl q hq).1, (fun z => by have := (hl q hq).1; rw [z, hL] at this; cases this), T₆.none_ _ (hl q hq).2⟩
  exact k h₆ g₆ T₆ F₆ Nl K₆ (XB.keeps K₆.stays) (TB.keeps K₆.stays) _
end
end Mine
end

section
open PySem PySem.W PyProof.Rows PySem.Calls PySem.Spec
namespace Mine
local macro_rules | `(tactic| k_ne) => `(tactic| first | k_extra "NE" | (refine neN ?_; (try dsimp only); omega))
local macro_rules | `(tactic| walk_at "h:S1") => `(tactic| (refine' ⟨?B, ?F, ?X, ?N, ?T, ?K⟩; (case B => k_asm); (case F => k_asm); (case X => k_asm); (case N => k_asm); (case T => k_asm); (case K => first | exact rfl | assumption)))
local macro_rules | `(tactic| walk_at "h:S2") => `(tactic| (refine' ⟨?d, ?u⟩; (case d => ktr_room); (case u => ktr_units)))
local macro_rules | `(tactic| ktr_units) => `(tactic| first | exact units3 (by assumption) (by decide) | (have hcL9 := cLine_is; (simp only [units_under_make, units_in1, units_deeper, Around.mark_units, units_caller] at *); (try dsimp only [ktrTop] at *); omega))
local macro_rules | `(tactic| k_room) => `(tactic| ktr_room)
local macro_rules | `(tactic| k_all) => `(tactic| assumption)
local macro_rules | `(tactic| cell_enter) => `(tactic| (refine' code_defG ?k1 ?k2 ?k3 ?k4 ?k5 ?kA ?kF ?kK ?k6 ?k7 ?k8 ?k9 ?kB ?_ ?c2 ?c3 ?c4 ?c5; (case kA => exact rfl); (case kF => exact rfl); (case kK => first | exact rfl | assumption); (case k1 => k_asm); (case k2 => k_asm); (case k3 => k_asm); (case k4 => k_asm); (case k5 => k_asm); (case k6 => k_is); (case k7 => k_is); (case k8 => ktr_room); (case k9 => first | exact BindsTo.of_eq rfl | exact binds_K (by k_in) rfl (by k_is) rfl rfl rfl); (case c5 => decide); (case kB => exact locs rfl); (case c2 => exact rfl); (case c3 => exact rfl); (case c4 => exact rfl); k_whole; intro g' L' h' FG' F' N' B' X' T' kG'; (try dsimp only); (try k_lift B'); (try k_fold)))
theorem make_tm {prog : Program} {w : World} {A : Around} {R : Result → Shared → Prop} {s : Shared} {h₀ : Heap} {L : Addr} {m : Str → Option Value} {news : List (Addr × Obj)} {rest : List Value} {P : Params} (F : Fr h₀ L s.heap m) (N : News h₀ L s.heap news) (X : (Mine.hd.heap_39 P).In s.heap) (hlen : rest.length ≤ sizeLine)
    (h : ∀ x tx h', Fr h₀ L h' m → News h₀ L h' ((x, excObj tx) :: (tx, tupOf rest) :: news) → (∀ p ∈ news, p.1 < tx) → tx < x →
      codeAny (model prog w) (A.under (.builtin "type.__call__" ⟨.ref 76 :: rest, []⟩)) (.call (.ref 36) ⟨.ref x :: rest, []⟩) (InitBack x R) { s with heap := h' }) :
    codeAny (model prog w) A (.call (.ref 76) ⟨rest, []⟩) R s := by
  refine tm_core X hlen (h _ s.heap.objs.size _ ((F.push _).push _) ?_ (fun p hp => Heap.lt_size (N p hp).1) (Nat.lt_succ_self _))
  have := (N.push F (tupOf rest)).push (F.push _) (excObj s.heap.objs.size)
  rwa [Heap.size_push] at this
theorem tmake_spec (w : World) (msg : Str) (mt : Tok) (news : List (Addr × Obj)) :
    CallC w 76 [.str msg mt] news 2 (fun r news' => ∃ (e t dx : Addr), r = .ref e ∧ news' = (e, excObjD t dx) :: (t, tupOf [.str msg mt]) :: news ∧ ∀ q ∈ news, q.1 ≠ e ∧ q.1 ≠ t) := by
  w_on
  unfold CallC
  k_fill
  intro loose mean mg mb dp un gd cn cs a ccd cl outer A₀ base h₀ L m s Q E B' F X N T hk hd hu ret
  refine wpAny_call (make_tm F N (X.keeps F.keep) (by size_fits) ?_)
  intro x' tx' h' F' N' l1 l2
  k_lt2 l2
  k_dflt cell_enter
  k_steps
  have hne : ∀ p ∈ (tx', tupOf [Value.str msg mt]) :: news, p.1 ≠ x' := fun p hp => by
    rcases List.mem_cons.mp hp with e | hp
    · rw [e]; exact Nat.ne_of_lt l2
    · exact Nat.ne_of_lt (Nat.lt_trans (l1 p hp) l2)
  (with_reducible rename Fr _ _ _ _ => kF); (with_reducible rename News _ _ _ _ => kN); (with_reducible rename Frag.In _ _ => kX)
  refine exc_store kF (kX.keeps kF.keep) kN hne ?_
  clear kF kN
  intro h'' dx'' tk'' F'' N''
  (try dsimp only)
  k_steps
  exact ret _ _ _ _ ⟨x', tx', dx'', rfl, rfl, fun q hq => ⟨Nat.ne_of_lt (Nat.lt_trans (l1 q hq) l2), Nat.ne_of_lt (l1 q hq)⟩⟩ (by k_asm) (by k_asm)

/-- what a call that raises TooMuch brings -/
def CallR (w : World) (f : Addr) (args : List Value) (news : List (Addr × Obj)) (k : Nat) : Prop :=
  ∀ (loose : List Str) (mean : ExcName → Option Value) (mg mb : Str → Option Value) (dp un : Nat) (gd : Option (List Code)) (cn : Str) (cs : Scope) (a : Addr) (ccd : Value) (cl : List (Str × Addr)) (outer : List Env) (A₀ : Around) (base h₀ : Heap) (L : Addr) (m : Str → Option Value) (s : Shared) (Q E : Value → Shared → Prop),
    Below A₀ base outer h₀ → Fr h₀ L s.heap m → (Mine.hd.heap_39 w.params).In h₀ → News h₀ L s.heap news → Top Mine.hd.view_39 loose mean mg mb h₀ → cs.kind = .function → dp + k < recursionLimit → un + 8 * k < cLine →
    (∀ (G : Heap) (e t : Addr) (h' : Heap) (tk' : Nat), Fr h₀ L G m → RaisedT base h₀ G (envX cn cs L a ccd cl :: outer) e t news h' → G.UpToSlots h' → E (.ref e) { s with heap := h', toks := tk' }) →
    wpAny (model PySem.Challenge.rw_sq0032_01.row.prog w) (ktrTop dp un gd cn cs L a ccd cl outer) (call (.ref f) args) Q E s
local macro_rules | `(tactic| walk_at "call ref") => `(tactic| k_extra "Q call ref")
theorem words_CR3_0 : True := by
  k_with_none
  k_with "PROJ" => first | exact h9.1 | exact h9 | exact h9.2.1 | exact h9.2 | exact h9.2.2.1 | exact h9.2.2 | exact h9.2.2.2.1 | exact h9.2.2.2 | exact h9.2.2.2.2.1 | exact h9.2.2.2.2 | exact h9.2.2.2.2.2.1 | exact h9.2.2.2.2.2 | exact h9.2.2.2.2.2.2.1 | exact h9.2.2.2.2.2.2 | exact h9.2.2.2.2.2.2.2.1 | exact h9.2.2.2.2.2.2.2 | exact h9.2.2.2.2.2.2.2.2.1 | exact h9.2.2.2.2.2.2.2.2 | exact h9.2.2.2.2.2.2.2.2.2.1 | exact h9.2.2.2.2.2.2.2.2.2 | exact h9.2.2.2.2.2.2.2.2.2.2.1 | exact h9.2.2.2.2.2.2.2.2.2.2 | exact h9.2.2.2.2.2.2.2.2.2.2.2.1 | exact h9.2.2.2.2.2.2.2.2.2.2.2 | exact h9.2.2.2.2.2.2.2.2.2.2.2.2.1 | exact h9.2.2.2.2.2.2.2.2.2.2.2.2 | exact h9.2.2.2.2.2.2.2.2.2.2.2.2.2.1 | exact h9.2.2.2.2.2.2.2.2.2.2.2.2.2 | exact h9.2.2.2.2.2.2.2.2.2.2.2.2.2.2.1 | exact h9.2.2.2.2.2.2.2.2.2.2.2.2.2.2 | exact h9.2.2.2.2.2.2.2.2.2.2.2.2.2.2.2.1 | exact h9.2.2.2.2.2.2.2.2.2.2.2.2.2.2.2 | exact h9.2.2.2.2.2.2.2.2.2.2.2.2.2.2.2.2.1 | exact h9.2.2.2.2.2.2.2.2.2.2.2.2.2.2.2.2 | exact h9.2.2.2.2.2.2.2.2.2.2.2.2.2.2.2.2.2.1 | exact h9.2.2.2.2.2.2.2.2.2.2.2.2.2.2.2.2.2 | exact h9.2.2.2.2.2.2.2.2.2.2.2.2.2.2.2.2.2.2.1 | exact h9.2.2.2.2.2.2.2.2.2.2.2.2.2.2.2.2.2.2 | exact h9.2.2.2.2.2.2.2.2.2.2.2.2.2.2.2.2.2.2.2.1 | exact h9.2.2.2.2.2.2.2.2.2.2.2.2.2.2.2.2.2.2.2 | exact h9.2.2.2.2.2.2.2.2.2.2.2.2.2.2.2.2.2.2.2.2.1 | exact h9.2.2.2.2.2.2.2.2.2.2.2.2.2.2.2.2.2.2.2.2 | exact h9.2.2.2.2.2.2.2.2.2.2.2.2.2.2.2.2.2.2.2.2.2.1 | exact h9.2.2.2.2.2.2.2.2.2.2.2.2.2.2.2.2.2.2.2.2.2 | exact h9.2.2.2.2.2.2.2.2.2.2.2.2.2.2.2.2.2.2.2.2.2.2.1 | exact h9.2.2.2.2.2.2.2.2.2.2.2.2.2.2.2.2.2.2.2.2.2.2 | exact h9.2.2.2.2.2.2.2.2.2.2.2.2.2.2.2.2.2.2.2.2.2.2.2.1 | exact h9.2.2.2.2.2.2.2.2.2.2.2.2.2.2.2.2.2.2.2.2.2.2.2 | exact h9.2.2.2.2.2.2.2.2.2.2.2.2.2.2.2.2.2.2.2.2.2.2.2.2.1 | exact h9.2.2.2.2.2.2.2.2.2.2.2.2.2.2.2.2.2.2.2.2.2.2.2.2
  k_with "NE" => ((try refine neN ?_); (try dsimp only); first
    | assumption
    | exact Ne.symm (by assumption)
    | exact Nat.ne_of_lt (by assumption)
    | exact Nat.ne_of_gt (by assumption)
    | exact off_ne1 _
    | exact Ne.symm (off_ne1 _)
    | exact off_ne2 _
    | exact Ne.symm (off_ne2 _)
    | exact off_ne3 _
    | exact Ne.symm (off_ne3 _)
    | exact off_ne4 _
    | exact Ne.symm (off_ne4 _)
    | exact off_ne5 _
    | exact Ne.symm (off_ne5 _)
    | (refine succ_ne ?_; k_extra "NE")
    | (refine ne_cr (by assumption) ?_; intro h9; k_extra "PROJ")
    | (refine ne_cl (by assumption) ?_; intro h9; k_extra "PROJ")
    | (refine lt_cr (by assumption) ?_; intro h9; k_extra "PROJ")
    | (refine lt_cl (by assumption) ?_; intro h9; k_extra "PROJ")
    | (refine lt_off1 ?_; first | assumption | (refine lt_c (by assumption) ?_; intro h9; k_extra "PROJ"))
    | (refine Ne.symm (lt_off1 ?_); first | assumption | (refine lt_c (by assumption) ?_; intro h9; k_extra "PROJ"))
    | (refine lt_off2 ?_; first | assumption | (refine lt_c (by assumption) ?_; intro h9; k_extra "PROJ"))
    | (refine Ne.symm (lt_off2 ?_); first | assumption | (refine lt_c (by assumption) ?_; intro h9; k_extra "PROJ"))
    | (refine lt_off3 ?_; first | assumption | (refine lt_c (by assumption) ?_; intro h9; k_extra "PROJ"))
    | (refine Ne.symm (lt_off3 ?_); first | assumption | (refine lt_c (by assumption) ?_; intro h9; k_extra "PROJ"))
    | (refine lt_off4 ?_; first | assumption | (refine lt_c (by assumption) ?_; intro h9; k_extra "PROJ"))
    | (refine Ne.symm (lt_off4 ?_); first | assumption | (refine lt_c (by assumption) ?_; intro h9; k_extra "PROJ"))
    | (refine lt_off5 ?_; first | assumption | (refine lt_c (by assumption) ?_; intro h9; k_extra "PROJ"))
    | (refine Ne.symm (lt_off5 ?_); first | assumption | (refine lt_c (by assumption) ?_; intro h9; k_extra "PROJ")))
  k_with "Q call ref" => (k_here; (with_reducible show wpAny _ _ (call (Value.ref 76) _ _) _ _ _); k_dflt ( apply CallC.go; (case S1 => walk_at "h:S1"); (case C => (apply tmake_spec)); (case S2 => walk_at "h:S2"); k_whole); intro r9 news9 h9 tk9 p9 F9 N9; obtain ⟨e9, t9, d9, q9, n9, l9⟩ := p9; subst q9; subst n9; (try dsimp only at N9); (try dsimp only); (try k_fold))
  trivial
inductive RaisePost (P : Params) (E : Value → Shared → Prop) (v : Value) (s₁ : Shared) : Prop
  | intro (e t dx : Addr) : v = .ref e → (Mine.hd.heap_39 P).In s₁.heap → s₁.heap.get? e = some (excObjD t dx) → E (.ref e) s₁ → RaisePost P E v s₁
theorem exec_raise_w {prog : Program} {w : World} {A : Around} {E : Value → Shared → Prop} {s : Shared} {env : Env} {c : Expr} {pos : Pos} {Q : Flow → Shared → Prop} (hh : A.handled = none)
    (h : wpAny (model prog w) A (eval c env) (fun v s₁ => RaisePost w.params E v s₁) E s) :
    wpAny (model prog w) A (exec (.Raise (some c) none pos) env) Q E s := exec_raise_tm hh (wpAny_mono h (fun _ _ z => by
      obtain ⟨e, t, dx, a, b, c, d⟩ := z
      exact ⟨e, t, dx, a, b, c, d⟩) fun _ _ z => z)
local macro_rules | `(tactic| walk_at "exec Raise some none") => `(tactic| (k_here; k_dflt (refine' exec_raise_w ?hh ?_; (case hh => exact rfl))))
theorem four_in {α : Type} {a b1 b2 b3 b4 b5 c d e f : α} : ∀ p ∈ [c, d, e, f], p ∈ [a, b1, b2, b3, b4, b5, c, d, e, f] := fun p h => .tail _ (.tail _ (.tail _ (.tail _ (.tail _ (.tail _ h)))))
theorem four_sub {α : Type} {news : List α} {c d e f : α} (h1 : c ∈ news) (h2 : d ∈ news) (h3 : e ∈ news) (h4 : f ∈ news) : ∀ p ∈ [c, d, e, f], p ∈ news := fun p h => by
  rcases List.mem_cons.mp h with e | h
  · exact e ▸ h1
  rcases List.mem_cons.mp h with e | h
  · exact e ▸ h2
  rcases List.mem_cons.mp h with e | h
  · exact e ▸ h3
  · exact List.mem_singleton.mp h ▸ h4
local macro_rules | `(tactic| walk_at "JoinInt") => `(tactic| (k_dflt (refine' JoinInt.intro _ _ _ _ _ ?F ?N ?S; (case F => k_asm); (case N => k_asm); (case S => (refine ⟨?_, rfl⟩; first | exact (if_pos (by assumption)).symm | exact (if_f (by assumption)).symm)))))
local macro_rules | `(tactic| walk_at "eval IfExp") => `(tactic| k_extra "Q eval IfExp")
theorem words_CR3_1 : True := by
  k_with "Q eval IfExp" => (k_here; (with_reducible show wpAny _ _ (eval (Expr.IfExp (Expr.Name _ _) (Expr.BinOp _ _ _ _) _ _) _) _ _ _); (fail_if_success (with_reducible show wpAny _ _ _ (JoinInt _ _ _ _ _) _ _)); k_dflt (apply join_wide; (case _ => k_asm); (case _ => k_asm); (case hW => assumption); k_whole); all_goals (try (intro t9 h9 tk9 F9 N9; (try dsimp only); (try k_fold))))
  trivial
theorem placesT_spec (w : World) (sk dsk lx ldx : Addr) (so : Int) (sod lod : Obj) (k wd ht dp_ : Int) (bg sz ed : Int) (tb ts te : Tok) (up : Bool) (W : Int) (news : List (Addr × Obj))
    (q1 : (sk, instObj 282 dsk) ∈ news) (q2 : (dsk, sod) ∈ news) (m1 : (lx, instObj 239 ldx) ∈ news) (m2 : (ldx, lod) ∈ news) (hS : SkipD w.params so (.ref lx) sod) (hB : BoxD w.params k wd ht dp_ lod) (hk4 : ¬ k = 4)
    (hWe : W = if up then ht + dp_ else wd) (hW : 0 < W) (hW2 : W ≤ 200) (hz : 0 < sz) (hz2 : sz ≤ 1000000) (hc : sz.fdiv W > 2000) :
    CallR w 291 [.ref sk, .int bg tb, .int sz ts, .int ed te, .bool up] news 5 := by
  w_on
  unfold CallR
  k_fill
  intro loose mean mg mb dp un gd cn cs a ccd cl outer A₀ base h₀ L m s Q E B0 F X N T hk hd hu rse
  obtain ⟨t0, t1, t2, t3, t4, t5, t6, t7, t8, s0, s1, s2, s3, v4, v5, v6, v7, v8, rfl⟩ := hB
  obtain ⟨t10, t11, t12, s11, gv, rfl⟩ := hS
  have N0 : News h₀ L s.heap [(sk, instObj 282 dsk), (dsk, _), (lx, instObj 239 ldx), (ldx, _)] := fun p hp => by
    rcases List.mem_cons.mp hp with e | hp
    · exact N p (e ▸ q1)
    rcases List.mem_cons.mp hp with e | hp
    · exact N p (e ▸ q2)
    rcases List.mem_cons.mp hp with e | hp
    · exact N p (e ▸ m1)
    · exact N p (List.mem_singleton.mp hp ▸ m2)
  have hW' : ¬ W ≤ 0 := by omega
  have hz' : ¬ sz ≤ 0 := by omega
  all_goals (
    refine wpAny_call ?_
    k_dflt (refine' cells_enterG ?k1 ?k2 ?k3 ?k4 ?k5 ?kA ?kF ?kK ?k6 ?k7 ?k8 ?k9 ?kB ?kD ?_ ?c2 ?c3 ?c4; (case kA => exact rfl); (case kF => exact rfl); (case kK => assumption); (case k1 => k_asm); (case k2 => k_asm); (case k3 => k_asm); (case k4 => k_asm); (case k5 => k_asm); (case k6 => k_is); (case k7 => k_is); (case k8 => ktr_room); (case k9 => exact BindsTo.of_eq rfl); (case kB => exact rfl); (case kD => decide +kernel); (case c2 => exact rfl); (case c3 => exact rfl); (case c4 => exact rfl); k_whole)
    intro g' L' h' tk' cells' FG' F' N' Y' B' X' T' l1 kG'
    k_lt l1
    have hY := cells5 Y'
    obtain ⟨o1, o2, o3, o4, o5, hE', d1, d2, d3, d4, d5⟩ := hY
    subst hE'
    clear Y'
    simp only [List.cons_append, List.nil_append] at N'
    (try dsimp only)
    (try k_fold)
    k_steps
    · exact absurd (by assumption) hk4
    (with_reducible rename Fr _ _ _ _ => kF); (with_reducible rename News _ _ _ _ => kN)
    refine RaisePost.intro _ _ _ rfl (X'.keeps kF.keep) (kN _ (.head _)).1 ?_
    refine leave_tm B' kF kN (by assumption) rfl rfl ?_
    intro h'' R U
    exact rse g' _ _ h'' _ FG' (RaisedS.all R four_in N (four_sub q1 q2 m1 m2) kG' B0 rfl) U)
end Mine
end

section
open PySem PySem.W PyProof.Rows
namespace Mine
local macro_rules | `(tactic| k_ne) => `(tactic| first | k_extra "NE" | (refine neN ?_; (try dsimp only); omega))
local macro_rules | `(tactic| walk_at "h:S1") => `(tactic| (refine' ⟨?B, ?F, ?X, ?N, ?T, ?K⟩; (case B => k_asm); (case F => k_asm); (case X => k_asm); (case N => k_asm); (case T => k_asm); (case K => first | exact rfl | assumption)))
local macro_rules | `(tactic| walk_at "h:S2") => `(tactic| (refine' ⟨?d, ?u⟩; (case d => ktr_room); (case u => ktr_units)))
local macro_rules | `(tactic| ktr_units) => `(tactic| first | exact units3 (by assumption) (by decide) | (have hcL9 := cLine_is; (simp only [units_under_make, units_in1, units_deeper, Around.mark_units, units_caller] at *); (try dsimp only [ktrTop] at *); omega))
local macro_rules | `(tactic| k_room) => `(tactic| ktr_room)
local macro_rules | `(tactic| k_all) => `(tactic| assumption)
local macro_rules | `(tactic| cell_enter) => `(tactic| (refine' code_defG ?k1 ?k2 ?k3 ?k4 ?k5 ?kA ?kF ?kK ?k6 ?k7 ?k8 ?k9 ?kB ?_ ?c2 ?c3 ?c4 ?c5; (case kA => exact rfl); (case kF => exact rfl); (case kK => first | exact rfl | assumption); (case k1 => k_asm); (case k2 => k_asm); (case k3 => k_asm); (case k4 => k_asm); (case k5 => k_asm); (case k6 => k_is); (case k7 => k_is); (case k8 => ktr_room); (case k9 => first | exact BindsTo.of_eq rfl | exact binds_K (by k_in) rfl (by k_is) rfl rfl rfl); (case c5 => decide); (case kB => exact locs rfl); (case c2 => exact rfl); (case c3 => exact rfl); (case c4 => exact rfl); k_whole; intro g' L' h' FG' F' N' B' X' T' kG'; (try dsimp only); (try k_lift B'); (try k_fold)))
theorem turn_end {Led : Int × Tok → List (Addr × Obj)} {x nm : Str} {mm m₀ : Str → Option Value} {P : List Int → Int × Tok → Prop} {pre : List Int} {v : Int} {t : Tok} {h₀ : Heap} {L : Addr} {w1 : Value} {own news' : List (Addr × Obj)} {adr : List Addr} {s₁ : Shared} {h' : Heap} {tk : Nat}
    (F : Fr h₀ L h' (fun y => if y = nm then some (.int v t) else if y = x then some w1 else mm y)) (N : News h₀ L h' news') (hn : ∀ p ∈ Led (v, t), p ∈ news') (ho : ∀ p ∈ own, p ∈ news') (ha : (Led (v, t)).map (·.1) = adr) (hr : ∀ z, z ≠ nm → mm z = m₀ z) (hp : P pre (v, t)) :
    InvEndN h₀ L (KstS Led (fun c => [(nm, .int c.1 c.2)]) (fun _ => True) x [] m₀ P pre) own adr s₁ { s₁ with heap := h', toks := tk } := by
  refine kst_end (v, t) F N hn ho ha trivial (fun p hp => ?_) (fun z h1 h2 _ => ?_) hp
  · obtain rfl := List.mem_singleton.mp hp
    exact if_pos rfl
  · have h3 := h2 _ (.head _)
    rw [if_neg h3, if_neg h1]
    exact hr z h3
theorem heap_step {n k : Int} (h : 0 ≤ n) : 0 ≤ n * 1000003 + (if k < 0 then -k else k).fmod (10 ^ Int.toNat 30) * 2 + if decide (k < 0) = true then 1 else 0 := by
  have h1 : (0 : Int) < 10 ^ Int.toNat 30 := by decide
  have h2 := fm_lo (x := if k < 0 then -k else k) h1
  generalize (if k < 0 then -k else k).fmod (10 ^ Int.toNat 30) = r at *
  split <;> omega
theorem own_in2 {α : Type} {a : α} {own : List α} : ∀ p ∈ own, p ∈ a :: own := fun _ h => .tail _ h
theorem one_in3 {α : Type} {a : α} {own : List α} : ∀ p ∈ [a], p ∈ a :: own := fun p h => List.mem_singleton.mp h ▸ .head _
theorem listKeep {h h' : Heap} {l : Addr} {its : Array Value} (x : h.IsList l its) (k : ∀ b o, h.get? b = some o → h'.get? b = some o) : h'.IsList l its := by
  obtain ⟨o, ho, r⟩ := x
  exact ⟨o, k _ _ ho, r⟩
theorem own_in3 {α : Type} {a b : α} {own : List α} : ∀ p ∈ own, p ∈ a :: b :: own := fun _ h => .tail _ (.tail _ h)
theorem two_in3 {α : Type} {a b : α} {own : List α} : ∀ p ∈ [a, b], p ∈ a :: b :: own := fun p h => by
  rcases List.mem_cons.mp h with h | h
  · exact h ▸ .head _
  · exact List.mem_singleton.mp h ▸ .tail _ (.head _)
local macro_rules | `(tactic| walk_at "InvEndN") => `(tactic| k_extra "Q InvEndN")
theorem words_CF_0 : True := by
  k_with_none
  k_with "PROJ" => first | exact h9.1 | exact h9 | exact h9.2.1 | exact h9.2 | exact h9.2.2.1 | exact h9.2.2 | exact h9.2.2.2.1 | exact h9.2.2.2 | exact h9.2.2.2.2.1 | exact h9.2.2.2.2 | exact h9.2.2.2.2.2.1 | exact h9.2.2.2.2.2 | exact h9.2.2.2.2.2.2.1 | exact h9.2.2.2.2.2.2 | exact h9.2.2.2.2.2.2.2.1 | exact h9.2.2.2.2.2.2.2 | exact h9.2.2.2.2.2.2.2.2.1 | exact h9.2.2.2.2.2.2.2.2 | exact h9.2.2.2.2.2.2.2.2.2.1 | exact h9.2.2.2.2.2.2.2.2.2 | exact h9.2.2.2.2.2.2.2.2.2.2.1 | exact h9.2.2.2.2.2.2.2.2.2.2 | exact h9.2.2.2.2.2.2.2.2.2.2.2.1 | exact h9.2.2.2.2.2.2.2.2.2.2.2 | exact h9.2.2.2.2.2.2.2.2.2.2.2.2.1 | exact h9.2.2.2.2.2.2.2.2.2.2.2.2 | exact h9.2.2.2.2.2.2.2.2.2.2.2.2.2.1 | exact h9.2.2.2.2.2.2.2.2.2.2.2.2.2 | exact h9.2.2.2.2.2.2.2.2.2.2.2.2.2.2.1 | exact h9.2.2.2.2.2.2.2.2.2.2.2.2.2.2 | exact h9.2.2.2.2.2.2.2.2.2.2.2.2.2.2.2.1 | exact h9.2.2.2.2.2.2.2.2.2.2.2.2.2.2.2 | exact h9.2.2.2.2.2.2.2.2.2.2.2.2.2.2.2.2.1 | exact h9.2.2.2.2.2.2.2.2.2.2.2.2.2.2.2.2 | exact h9.2.2.2.2.2.2.2.2.2.2.2.2.2.2.2.2.2.1 | exact h9.2.2.2.2.2.2.2.2.2.2.2.2.2.2.2.2.2 | exact h9.2.2.2.2.2.2.2.2.2.2.2.2.2.2.2.2.2.2.1 | exact h9.2.2.2.2.2.2.2.2.2.2.2.2.2.2.2.2.2.2 | exact h9.2.2.2.2.2.2.2.2.2.2.2.2.2.2.2.2.2.2.2.1 | exact h9.2.2.2.2.2.2.2.2.2.2.2.2.2.2.2.2.2.2.2 | exact h9.2.2.2.2.2.2.2.2.2.2.2.2.2.2.2.2.2.2.2.2.1 | exact h9.2.2.2.2.2.2.2.2.2.2.2.2.2.2.2.2.2.2.2.2 | exact h9.2.2.2.2.2.2.2.2.2.2.2.2.2.2.2.2.2.2.2.2.2.1 | exact h9.2.2.2.2.2.2.2.2.2.2.2.2.2.2.2.2.2.2.2.2.2 | exact h9.2.2.2.2.2.2.2.2.2.2.2.2.2.2.2.2.2.2.2.2.2.2.1 | exact h9.2.2.2.2.2.2.2.2.2.2.2.2.2.2.2.2.2.2.2.2.2.2 | exact h9.2.2.2.2.2.2.2.2.2.2.2.2.2.2.2.2.2.2.2.2.2.2.2.1 | exact h9.2.2.2.2.2.2.2.2.2.2.2.2.2.2.2.2.2.2.2.2.2.2.2 | exact h9.2.2.2.2.2.2.2.2.2.2.2.2.2.2.2.2.2.2.2.2.2.2.2.2.1 | exact h9.2.2.2.2.2.2.2.2.2.2.2.2.2.2.2.2.2.2.2.2.2.2.2.2
  k_with "NE" => ((try refine neN ?_); (try dsimp only); first
    | assumption
    | exact Ne.symm (by assumption)
    | exact Nat.ne_of_lt (by assumption)
    | exact Nat.ne_of_gt (by assumption)
    | exact off_ne1 _
    | exact Ne.symm (off_ne1 _)
    | exact off_ne2 _
    | exact Ne.symm (off_ne2 _)
    | exact off_ne3 _
    | exact Ne.symm (off_ne3 _)
    | exact off_ne4 _
    | exact Ne.symm (off_ne4 _)
    | exact off_ne5 _
    | exact Ne.symm (off_ne5 _)
    | (refine succ_ne ?_; k_extra "NE")
    | (refine ne_cr (by assumption) ?_; intro h9; k_extra "PROJ")
    | (refine ne_cl (by assumption) ?_; intro h9; k_extra "PROJ")
    | (refine lt_cr (by assumption) ?_; intro h9; k_extra "PROJ")
    | (refine lt_cl (by assumption) ?_; intro h9; k_extra "PROJ")
    | (refine lt_off1 ?_; first | assumption | (refine lt_c (by assumption) ?_; intro h9; k_extra "PROJ"))
    | (refine Ne.symm (lt_off1 ?_); first | assumption | (refine lt_c (by assumption) ?_; intro h9; k_extra "PROJ"))
    | (refine lt_off2 ?_; first | assumption | (refine lt_c (by assumption) ?_; intro h9; k_extra "PROJ"))
    | (refine Ne.symm (lt_off2 ?_); first | assumption | (refine lt_c (by assumption) ?_; intro h9; k_extra "PROJ"))
    | (refine lt_off3 ?_; first | assumption | (refine lt_c (by assumption) ?_; intro h9; k_extra "PROJ"))
    | (refine Ne.symm (lt_off3 ?_); first | assumption | (refine lt_c (by assumption) ?_; intro h9; k_extra "PROJ"))
    | (refine lt_off4 ?_; first | assumption | (refine lt_c (by assumption) ?_; intro h9; k_extra "PROJ"))
    | (refine Ne.symm (lt_off4 ?_); first | assumption | (refine lt_c (by assumption) ?_; intro h9; k_extra "PROJ"))
    | (refine lt_off5 ?_; first | assumption | (refine lt_c (by assumption) ?_; intro h9; k_extra "PROJ"))
    | (refine Ne.symm (lt_off5 ?_); first | assumption | (refine lt_c (by assumption) ?_; intro h9; k_extra "PROJ")))
  k_with "Q InvEndN" => ((with_reducible rename Fr _ _ _ _ => kF9); (with_reducible rename News _ _ _ _ => kN9); k_dflt (exact turn_end kF9 kN9 two_in3 own_in3 rfl (fun z h => if_neg h) (heap_step (by assumption))))
  trivial
theorem one_keep {sl : Addr} {so : Obj} {news all n2 : List (Addr × Obj)} (m1 : (sl, so) ∈ all) (m2 : (sl, so) ∈ n2) : ∀ p ∈ news, p.1 ∈ [sl] → ∃ o, (p.1, o) ∈ all ∧ (p.1, o) ∈ n2 := fun p _ hm => by
  have e := List.mem_singleton.mp hm
  exact ⟨so, by rw [e]; exact m1, by rw [e]; exact m2⟩
def CallB (w : World) (f : Addr) (args : List Value) (sl : Addr) (vs : List Value) (k : Nat) (Post : Value → List (Addr × Obj) → Prop) : Prop :=
  ∀ (loose : List Str) (mean : ExcName → Option Value) (mg mb : Str → Option Value) (dp un : Nat) (gd : Option (List Code)) (cn : Str) (cs : Scope) (a : Addr) (ccd : Value) (cl : List (Str × Addr)) (outer : List Env) (A₀ : Around) (base h₀ : Heap) (L : Addr) (m : Str → Option Value) (s : Shared) (Q E : Value → Shared → Prop),
    Below A₀ base outer h₀ → Fr h₀ L s.heap m → (Mine.hd.heap_39 w.params).In h₀ → Top Mine.hd.view_39 loose mean mg mb h₀ → cs.kind = .function → dp + k < recursionLimit → un + 8 * k < cLine → h₀.IsList sl vs.toArray →
    (∀ (r : Value) (news' : List (Addr × Obj)) (h' : Heap) (tk' : Nat), Post r news' → Fr h₀ L h' m → News h₀ L h' news' → Q r { s with heap := h', toks := tk' }) →
    wpAny (model PySem.Challenge.rw_sq0032_01.row.prog w) (ktrTop dp un gd cn cs L a ccd cl outer) (call (.ref f) args) Q E s
theorem words_CF_1 : True := by
  k_with "Q InvEndN" => ((with_reducible rename Fr _ _ _ _ => kF9); (with_reducible rename News _ _ _ _ => kN9); k_dflt (exact turn_end kF9 kN9 one_in3 own_in2 rfl (fun z h => if_neg h) (heap_step (by assumption))))
  trivial
theorem lawheap_spec (w : World) (sl : Addr) (vs : List Value) (ns : List Int) (hI : IntsAre vs ns) (hlen : ns.length ≤ 1000) :
    CallB w 310 [.ref sl] sl vs 4 (fun r news' => ∃ l o, r = .ref l ∧ HeapIs 0 o ∧ news' = [(l, o)]) := by
  w_on
  unfold CallB
  k_fill
  intro loose mean mg mb dp un gd cn cs a ccd cl outer A₀ base h₀ L m s Q E B' F X T hk hd hu hLs ret
  have N0 : News h₀ L s.heap [] := News.nil
  refine wpAny_call ?_
  k_dflt cell_enter
  rename Fr _ _ _ _ => kF1
  rename GSub _ _ _ => kG1
  rename Fr h₀ L _ m => kFG
  have hLg := listKeep hLs kFG.keep
  k_with "pyIter ref" => k_state (fun pre n => 0 ≤ n) "whole_one"
  k_steps
  (with_reducible rename News _ _ _ _ => kN)
  exact ret _ _ _ _ ⟨_, _, rfl, ⟨_, _, _, _, _, rfl, by assumption, Int.le_refl _, Int.le_refl _⟩, rfl⟩ (by k_asm) (fun p hp => kN p (List.mem_singleton.mp hp ▸ .head _))
end Mine
end

section
open PySem PySem.W PyProof.Rows
namespace Mine
local macro_rules | `(tactic| k_ne) => `(tactic| first | k_extra "NE" | (refine neN ?_; (try dsimp only); omega))
local macro_rules | `(tactic| walk_at "h:S1") => `(tactic| (refine' ⟨?B, ?F, ?X, ?N, ?T, ?K⟩; (case B => k_asm); (case F => k_asm); (case X => k_asm); (case N => k_asm); (case T => k_asm); (case K => first | exact rfl | assumption)))
local macro_rules | `(tactic| walk_at "h:S2") => `(tactic| (refine' ⟨?d, ?u⟩; (case d => ktr_room); (case u => ktr_units)))
open PySem.Calls PySem.Spec
/-- a def comes back from a turn in which an exception may have passed the caller's frame by -/
def LeaveT (h₀ : Heap) (L : Addr) (m : Str → Option Value) (g : Heap) (R : Result → Shared → Prop) (v : Value) (s' : Shared) : Prop :=
  ∃ (L' : Addr) (m' : Str → Option Value) (news' : List (Addr × Obj)) (g' : Heap), KtsTurn [L] g g' ∧ Fr g' L' s'.heap m' ∧ News g' L' s'.heap news' ∧ (Fr h₀ L s'.heap m → News h₀ L s'.heap news' → (∀ b o, b ≠ L → g.get? b = some o → s'.heap.get? b = some o) → R (.ok (.ret v)) s')
theorem LeaveT.done {h₀ g : Heap} {L : Addr} {m : Str → Option Value} {R : Result → Shared → Prop} {v : Value} {s' : Shared} (FG : Fr h₀ L g m) (l : LeaveT h₀ L m g R v s') : R (.ok (.ret v)) s' := by
  obtain ⟨L', m', news', g', T, F, N, k⟩ := l
  have hL0 := kts_self FG
  obtain ⟨oL, es, ep, hL, hLd, hLk, hLf⟩ := FG.ns
  obtain ⟨sl, hs⟩ := T.frame L oL hL (.head _)
  have other : ∀ b o, b ≠ L → g.get? b = some o → s'.heap.get? b = some o := fun b o hb q => F.keep _ _ (T.other b o q fun z => hb (List.mem_singleton.mp z))
  refine k ⟨⟨_, es, ep, F.keep _ _ hs, hLd, hLk, hLf⟩, fun b o q => other b o (fun z => by rw [z, hL0] at q; cases q) (FG.keep b o q), FG.above⟩ (fun p hp => ⟨(N p hp).1, fun z => ?_, ?_⟩) other
  · have y := (N p hp).2.2; rw [z, hs] at y; cases y
  · cases q : h₀.get? p.1 with
    | none => rfl
    | some o =>
      have y := (N p hp).2.2
      rw [T.other p.1 o (FG.keep _ _ q) (fun z => by rw [List.mem_singleton.mp z, hL0] at q; cases q)] at y
      cases y
/-- a def with cells is entered from a frame at the bottom of the stack -/
theorem cells_enterT {prog : Program} {w : World} {A₀ A : Around} {s : Shared} {base h₀ : Heap} {L : Addr} {m mg mb : Str → Option Value} {env : Env} {news : List (Addr × Obj)} {K : Frag} {p : Program} {loose : List Str} {mean : ExcName → Option Value}
    {R : Result → Shared → Prop} {name qual : Str} {params : Arguments} {body : List Stmt} {scope : Scope} {dV kV doc pm cdv ct oc : Value} {an od : Option Addr} {osl : Array (Option Value)} {f : Addr} {args : Args} {binds : List (Str × Value)}
    (B : Below A₀ base [] h₀) (F : Fr h₀ L s.heap m) (X₀ : K.In h₀) (N : News h₀ L s.heap news) (T : Top p loose mean mg mb h₀) (hA : A.frames = some [env]) (hf : env.frame = some L) (hke : env.scope.kind = .function)
    (ho : K.lookup f = some ⟨oc, od, .func (fnOf name qual params body scope dV kV doc pm an cdv ct), osl⟩) (hcd : codeIn K cdv qual = true) (hroom : A.depth < recursionLimit)
    (hbind : BindsTo s (fnOf name qual params body scope dV kV doc pm an cdv ct) args binds) (hkind : (binds.all fun y => scope.names.lookup y.1 == some .local || scope.names.lookup y.1 == some .cell) = true)
    (hnd : ((cellsFrom 0 scope.names []).map (·.1)).Nodup)
    (h : ∀ g L' h₁ tk cells, Fr h₀ L g m → Fr g L' h₁ (bindL (envOfC qual scope L' f cdv).kindOf binds fun _ => none) → News g L' h₁ (cells ++ news) →
      CellsAre (bindC (envOfC qual scope L' f cdv).kindOf binds fun _ => none) (cellsFrom (L' + 1) scope.names []) cells → Below A base [env] g → K.In g → Top p loose mean mg mb g → (∀ q ∈ news, q.1 < L') → GSub s.heap g (news.map (·.1)) →
      wpAny (model prog w) (A.deeper (envOfC qual scope L' f cdv)) (execs body (envOfC qual scope L' f cdv))
        (fun fl s' => LeaveT h₀ L m g R (match fl with | .ret v => v | _ => .none) s')
        (fun e s' => wpAny (model prog w) (A.deeper (envOfC qual scope L' f cdv)) (leaving (envOfC qual scope L' f cdv) e) (fun _ s'' => R (.error e) s'') (fun e' s'' => R (.error e') s'') s')
        { s with heap := h₁, toks := tk })
    (hco : scope.isCoroutine = false) (hgen : scope.isGenerator = false) (hk : scope.kind = .function) : codeAny (model prog w) A (.call (.ref f) args) R s := by
  have ground := groundX (R := R) B F N hA hf hke
  have hfn := (X₀.keeps F.keep) _ _ ho
  refine codeAny_call_function hroom hfn rfl hco hgen rfl (codeRec_of (X₀.keeps F.keep) hcd) (hbind _ _ _ _ ?_)
  refine wpAny_newFunctionEnv_cells hk (kindsX hkind _) fun env' he s' x => ?_
  subst he
  have keep₁ := x.toInCall.keep
  refine ⟨(T.nolimit.keeps F.keep).keeps keep₁, codeAny_func ?_⟩
  obtain ⟨h₁, tk, rfl, _⟩ := x.done
  have laid := Cl.news (h₀ := s.heap) (Nat.le_refl _) (cm := _) (cs := cellsFrom (s.heap.objs.size + 1) scope.names []) fun n c hm =>
    ⟨x.cell n c (lookup_of_mem_nodup (cellsFrom_names scope.names 0 (s.heap.objs.size + 1) [] [] rfl ▸ hnd) hm), x.above n c hm⟩
  obtain ⟨cells, NC, Y⟩ := laid
  have inner : Fr (hideAll s.heap (news.map (·.1))) s.heap.objs.size h₁ _ := ⟨x.toInCall.ns, fun b o e => keep₁ b o (of_hideAll _ e), Nat.le_of_eq (hideAll_size _ _)⟩
  have led : News (hideAll s.heap (news.map (·.1))) s.heap.objs.size h₁ (cells ++ news) := by
    intro q hq
    cases List.mem_append.mp hq with
    | inl hc =>
      have z := NC q hc
      refine ⟨z.1, z.2.1, ?_⟩
      cases e : (hideAll s.heap (news.map (·.1))).get? q.1 with
      | none => rfl
      | some o => have y := of_hideAll _ e; rw [z.2.2] at y; cases y
    | inr hc => exact ⟨keep₁ _ _ (N q hc).1, Nat.ne_of_lt (Heap.lt_size (N q hc).1), hideAll_none _ (List.mem_map_of_mem hc)⟩
  exact wpAny_mono (h _ s.heap.objs.size h₁ tk cells ground.1 inner led Y ground.2.1 (X₀.keeps ground.2.2.1) (T.keeps ground.2.2.1) (fun q hq => Heap.lt_size (N q hq).1) (fun b o e n => hideAll_get _ e n))
    (fun fl s' hl => hl.done ground.1) fun _ _ y => y
structure StopAt (P : Prop) : Prop where
  go : P
theorem stop_of {P : Prop} (h : StopAt P) : P := h.go
def CallT (w : World) (f : Addr) (args : List Value) (news : List (Addr × Obj)) (k : Nat) (Post : Value → List (Addr × Obj) → Prop) : Prop :=
  ∀ (loose : List Str) (mean : ExcName → Option Value) (mg mb : Str → Option Value) (dp un : Nat) (gd : Option (List Code)) (cn : Str) (cs : Scope) (a : Addr) (ccd : Value) (cl : List (Str × Addr)) (A₀ : Around) (base h₀ : Heap) (L : Addr) (m : Str → Option Value) (s : Shared) (Q E : Value → Shared → Prop),
    Below A₀ base [] h₀ → Fr h₀ L s.heap m → (Mine.hd.heap_39 w.params).In base → Top Mine.hd.view_39 loose mean mg mb base → News h₀ L s.heap news → cs.kind = .function → dp + k < recursionLimit → un + 8 * k < cLine →
    (∀ (r : Value) (news' : List (Addr × Obj)) (h' : Heap) (tk' : Nat), Post r news' → Fr h₀ L h' m → News h₀ L h' news' → Q r { s with heap := h', toks := tk' }) →
    wpAny (model PySem.Challenge.rw_sq0032_01.row.prog w) (ktrTop dp un gd cn cs L a ccd cl []) (call (.ref f) args) Q E s
end Mine
end

section
open PySem PySem.W PyProof.Rows
namespace Mine
local macro_rules | `(tactic| k_ne) => `(tactic| first | k_extra "NE" | (refine neN ?_; (try dsimp only); omega))
local macro_rules | `(tactic| walk_at "h:S1") => `(tactic| (refine' ⟨?B, ?F, ?X, ?N, ?T, ?K⟩; (case B => k_asm); (case F => k_asm); (case X => k_asm); (case N => k_asm); (case T => k_asm); (case K => first | exact rfl | assumption)))
local macro_rules | `(tactic| walk_at "h:S2") => `(tactic| (refine' ⟨?d, ?u⟩; (case d => ktr_room); (case u => ktr_units)))
local macro_rules | `(tactic| ktr_units) => `(tactic| first | exact units3 (by assumption) (by decide) | (have hcL9 := cLine_is; (simp only [units_under_make, units_in1, units_deeper, Around.mark_units, units_caller] at *); (try dsimp only [ktrTop] at *); omega))
local macro_rules | `(tactic| k_room) => `(tactic| ktr_room)
local macro_rules | `(tactic| k_all) => `(tactic| assumption)

local macro_rules | `(tactic| walk_at "CompSrc") => `(tactic| k_extra "Q CompSrc")
theorem words_CG1_0 : True := by
  k_with_none
  k_with "PROJ" => first | exact h9.1 | exact h9 | exact h9.2.1 | exact h9.2 | exact h9.2.2.1 | exact h9.2.2 | exact h9.2.2.2.1 | exact h9.2.2.2 | exact h9.2.2.2.2.1 | exact h9.2.2.2.2 | exact h9.2.2.2.2.2.1 | exact h9.2.2.2.2.2 | exact h9.2.2.2.2.2.2.1 | exact h9.2.2.2.2.2.2 | exact h9.2.2.2.2.2.2.2.1 | exact h9.2.2.2.2.2.2.2 | exact h9.2.2.2.2.2.2.2.2.1 | exact h9.2.2.2.2.2.2.2.2 | exact h9.2.2.2.2.2.2.2.2.2.1 | exact h9.2.2.2.2.2.2.2.2.2 | exact h9.2.2.2.2.2.2.2.2.2.2.1 | exact h9.2.2.2.2.2.2.2.2.2.2 | exact h9.2.2.2.2.2.2.2.2.2.2.2.1 | exact h9.2.2.2.2.2.2.2.2.2.2.2 | exact h9.2.2.2.2.2.2.2.2.2.2.2.2.1 | exact h9.2.2.2.2.2.2.2.2.2.2.2.2 | exact h9.2.2.2.2.2.2.2.2.2.2.2.2.2.1 | exact h9.2.2.2.2.2.2.2.2.2.2.2.2.2 | exact h9.2.2.2.2.2.2.2.2.2.2.2.2.2.2.1 | exact h9.2.2.2.2.2.2.2.2.2.2.2.2.2.2 | exact h9.2.2.2.2.2.2.2.2.2.2.2.2.2.2.2.1 | exact h9.2.2.2.2.2.2.2.2.2.2.2.2.2.2.2 | exact h9.2.2.2.2.2.2.2.2.2.2.2.2.2.2.2.2.1 | exact h9.2.2.2.2.2.2.2.2.2.2.2.2.2.2.2.2 | exact h9.2.2.2.2.2.2.2.2.2.2.2.2.2.2.2.2.2.1 | exact h9.2.2.2.2.2.2.2.2.2.2.2.2.2.2.2.2.2 | exact h9.2.2.2.2.2.2.2.2.2.2.2.2.2.2.2.2.2.2.1 | exact h9.2.2.2.2.2.2.2.2.2.2.2.2.2.2.2.2.2.2 | exact h9.2.2.2.2.2.2.2.2.2.2.2.2.2.2.2.2.2.2.2.1 | exact h9.2.2.2.2.2.2.2.2.2.2.2.2.2.2.2.2.2.2.2 | exact h9.2.2.2.2.2.2.2.2.2.2.2.2.2.2.2.2.2.2.2.2.1 | exact h9.2.2.2.2.2.2.2.2.2.2.2.2.2.2.2.2.2.2.2.2 | exact h9.2.2.2.2.2.2.2.2.2.2.2.2.2.2.2.2.2.2.2.2.2.1 | exact h9.2.2.2.2.2.2.2.2.2.2.2.2.2.2.2.2.2.2.2.2.2 | exact h9.2.2.2.2.2.2.2.2.2.2.2.2.2.2.2.2.2.2.2.2.2.2.1 | exact h9.2.2.2.2.2.2.2.2.2.2.2.2.2.2.2.2.2.2.2.2.2.2 | exact h9.2.2.2.2.2.2.2.2.2.2.2.2.2.2.2.2.2.2.2.2.2.2.2.1 | exact h9.2.2.2.2.2.2.2.2.2.2.2.2.2.2.2.2.2.2.2.2.2.2.2 | exact h9.2.2.2.2.2.2.2.2.2.2.2.2.2.2.2.2.2.2.2.2.2.2.2.2.1 | exact h9.2.2.2.2.2.2.2.2.2.2.2.2.2.2.2.2.2.2.2.2.2.2.2.2
  k_with "NE" => ((try refine neN ?_); (try dsimp only); first
    | assumption
    | exact Ne.symm (by assumption)
    | exact Nat.ne_of_lt (by assumption)
    | exact Nat.ne_of_gt (by assumption)
    | exact off_ne1 _
    | exact Ne.symm (off_ne1 _)
    | exact off_ne2 _
    | exact Ne.symm (off_ne2 _)
    | exact off_ne3 _
    | exact Ne.symm (off_ne3 _)
    | exact off_ne4 _
    | exact Ne.symm (off_ne4 _)
    | exact off_ne5 _
    | exact Ne.symm (off_ne5 _)
    | (refine succ_ne ?_; k_extra "NE")
    | (refine ne_cr (by assumption) ?_; intro h9; k_extra "PROJ")
    | (refine ne_cl (by assumption) ?_; intro h9; k_extra "PROJ")
    | (refine lt_cr (by assumption) ?_; intro h9; k_extra "PROJ")
    | (refine lt_cl (by assumption) ?_; intro h9; k_extra "PROJ")
    | (refine lt_off1 ?_; first | assumption | (refine lt_c (by assumption) ?_; intro h9; k_extra "PROJ"))
    | (refine Ne.symm (lt_off1 ?_); first | assumption | (refine lt_c (by assumption) ?_; intro h9; k_extra "PROJ"))
    | (refine lt_off2 ?_; first | assumption | (refine lt_c (by assumption) ?_; intro h9; k_extra "PROJ"))
    | (refine Ne.symm (lt_off2 ?_); first | assumption | (refine lt_c (by assumption) ?_; intro h9; k_extra "PROJ"))
    | (refine lt_off3 ?_; first | assumption | (refine lt_c (by assumption) ?_; intro h9; k_extra "PROJ"))
    | (refine Ne.symm (lt_off3 ?_); first | assumption | (refine lt_c (by assumption) ?_; intro h9; k_extra "PROJ"))
    | (refine lt_off4 ?_; first | assumption | (refine lt_c (by assumption) ?_; intro h9; k_extra "PROJ"))
    | (refine Ne.symm (lt_off4 ?_); first | assumption | (refine lt_c (by assumption) ?_; intro h9; k_extra "PROJ"))
    | (refine lt_off5 ?_; first | assumption | (refine lt_c (by assumption) ?_; intro h9; k_extra "PROJ"))
    | (refine Ne.symm (lt_off5 ?_); first | assumption | (refine lt_c (by assumption) ?_; intro h9; k_extra "PROJ")))
  k_with "Q CompSrc" => (k_here; k_dflt (first | (refine LCg.CompSrc.range (by rfl) (by k_asm) (by k_asm) (by assumption) (by first | decide | rfl) (by first | rfl | decide) (by first | size_fits | exact Nat.le_of_ble_eq_true rfl) ?_; intro g'; lcg_lit) | (refine LCg.CompSrc.ledger (by rfl) (by k_asm) (by k_asm) (by k_mem) (by first | size_fits | exact Nat.le_of_ble_eq_true rfl) ?_; intro g'; lcg_lit)))
  trivial
/-- a size, or 0 where there is none -/
theorem plain_elt {w : World} {A : Around} {env : Env} {h₀ h : Heap} {L I C D : Addr} {oI oC : Obj} {m m₂ : Str → Option Value} {ys : List Value} {news : List (Addr × Obj)} {cl : List (Str × Addr)} {s : Shared} {tk : Nat} {v : Value} {Q : Value → Shared → Prop} {E : Value → Shared → Prop} {p1 p2 p3 p4 p5 p6 : Pos}
    (F : Fr h₀ L h m) (N : News h₀ L h ((I, oI) :: (C, oC) :: (D, LCg.lst ys) :: news)) (hC : LCg.NsObj oC m₂) (hx : m₂ (Str.ofString "size") = some v) (hS : SizeV v) (X : (Mine.hd.heap_39 w.params).In h₀)
    (ret : ∀ k t tk', IsOr v 0 k → -5 ≤ k → k ≤ 12 → Q (.int k t) { s with heap := h, toks := tk' }) :
    wpAny (model PySem.Challenge.rw_sq0032_01.row.prog w) A (eval (.IfExp (.Compare (.Name (Str.ofString "size") p1) [.IsNot] [.Constant .none 0 p2] p3) (.Name (Str.ofString "size") p4) (.Constant (.int 0) 0 p5) p6) (compEnvC { kind := .function, names := [(Str.ofString ".0", .local), (Str.ofString "size", .local)], isGenerator := false, isCoroutine := false } cl C env)) Q E { s with heap := h, toks := tk } := by
  w_on
  k_fill
  rcases hS with rfl | ⟨k, t, rfl, b1, b2⟩
  · k_steps
    exact ret _ _ _ (.inl ⟨rfl, rfl⟩) (by decide) (by decide)
  · k_steps
    exact ret _ _ _ (.inr ⟨_, rfl⟩) b1 b2

def SzOk (W sz : Int) : Prop := (-8 ≤ sz ∧ sz ≤ 69) ∨ (2001 * (if 1 > W then 1 else W) ≤ sz ∧ sz ≤ 2001 * (if 1 > W then 1 else W) + 49)
theorem szok1 {W k : Int} (h0 : 0 ≤ k) (h1 : k < 70) : SzOk W k := .inl ⟨by omega, by omega⟩
theorem szok2 {W k : Int} (h0 : 0 ≤ k) (h1 : k < 9) : SzOk W (-k) := .inl ⟨by omega, by omega⟩
theorem szok3 {W k : Int} (h0 : 0 ≤ k) (h1 : k < 50) : SzOk W (2001 * (if 1 > W then 1 else W) + k) := .inr ⟨by omega, by omega⟩
inductive HeapJ (B : Int) (n : Nat) (o : Obj) : Prop
  | intro : B ≤ 600 → HeapIs (B + (n : Int)) o → HeapJ B n o
theorem HeapJ.le {B : Int} {n : Nat} {o : Obj} (h : HeapJ B n o) : B ≤ 600 := by cases h; assumption
theorem HeapJ.is {B : Int} {n : Nat} {o : Obj} (h : HeapJ B n o) : HeapIs (B + (n : Int)) o := by cases h; assumption
theorem take_j (w : World) (d : Addr) (many : Int) (tm : Tok) (o : Obj) (B : Int) (n : Nat) (news : List (Addr × Obj)) (g : Obj → List (Addr × Obj)) (U : UpdF d o news g) (hJ : HeapJ B n o) (hn : n < 100) (hm : 0 < many) (hmb : many ≤ 100) :
    CallC w 317 [.ref d, .int many tm] news 1 (fun r news' => ∃ k t o', r = .int k t ∧ 0 ≤ k ∧ k < many ∧ HeapJ B (n + 1) o' ∧ news' = g o') :=
  CallC.mono (take_spec w d many tm o (B + (n : Int)) news g U hJ.is (by have := hJ.le; omega) hm hmb) fun r nw h => by
    obtain ⟨k, t, o', a, b, c, e, f⟩ := h
    exact ⟨k, t, o', a, b, c, ⟨hJ.le, HeapIs.mono e (by omega)⟩, f⟩
theorem span_j (w : World) (d : Addr) (o : Obj) (B : Int) (n : Nat) (news : List (Addr × Obj)) (g : Obj → List (Addr × Obj)) (U : UpdF d o news g) (hJ : HeapJ B n o) (hn : n < 100) :
    CallC w 324 [.ref d] news 2 (fun r news' => ∃ o', SizeV r ∧ HeapJ B (n + 2) o' ∧ news' = g o') :=
  CallC.mono (span_spec w d o (B + (n : Int)) news g U hJ.is (by have := hJ.le; omega)) fun r nw h => by
    obtain ⟨o', a, b, c⟩ := h
    exact ⟨o', a, ⟨hJ.le, HeapIs.mono b (by omega)⟩, c⟩
theorem HeapJ.done {B : Int} {n : Nat} {o : Obj} (h : HeapJ B n o) (hn : n ≤ 20) : HeapIs (B + 20) o := HeapIs.mono h.is (by omega)
theorem HeapJ.start {B : Int} {o : Obj} (hB : B ≤ 600) (h : HeapIs B o) : HeapJ B 0 o := ⟨hB, HeapIs.mono h (by omega)⟩
theorem compEnd_same {h₀ : Heap} {L I C D : Addr} {m : Str → Option Value} {s₁ : Shared} {oI oC oD : Obj} {S : List (Addr × Obj) → Prop} {rest : Value → List (Addr × Obj) → Prop} {y : Value} {h' : Heap} {tk : Nat} {news' : List (Addr × Obj)}
    (F : Fr h₀ L h' m) (N : News h₀ L h' ((I, oI) :: (C, oC) :: (D, oD) :: news')) (off : LCg.Off3 I C D news') (hS : S news') (r : rest y news') : LCg.CompEnd h₀ L m s₁ I oI C oC D oD S rest y { s₁ with heap := h', toks := tk } := ⟨h', tk, news', rfl, F, N, off, hS, r⟩

noncomputable def fdAt (P : Params) (a : Addr) : Option FuncData := match (Mine.hd.heap_39 P).lookup a with
  | some ⟨_, _, .func fd, _⟩ => some fd
  | _ => none
theorem fr_put {h₀ h : Heap} {L : Addr} {m : Str → Option Value} {x : Str} {v : Value} (F : Fr h₀ L h m) (e : m x = some v) : Fr h₀ L h (fun y => if y = x then some v else m y) := fr_eq F fun z => by
  by_cases hz : z = x
  · rw [if_pos hz, hz, e]
  · rw [if_neg hz]
inductive JoinRef (h₀ : Heap) (L : Addr) (m : Str → Option Value) (s₀ : Shared) (led : List (Addr × Obj)) : Value → Shared → Prop
  | intro (l : Addr) (h' : Heap) (tk' : Nat) : Fr h₀ L h' m → News h₀ L h' led → JoinRef h₀ L m s₀ led (.ref l) { s₀ with heap := h', toks := tk' }
theorem join_ref {M : Model} {A : Around} {env : Env} {E : Value → Shared → Prop} {s : Shared} {h₀ : Heap} {L : Addr} {m : Str → Option Value} {e : Expr} {Q : Value → Shared → Prop} {led : List (Addr × Obj)} (F : Fr h₀ L s.heap m) (N : News h₀ L s.heap led)
    (h1 : wpAny M A (eval e env) (JoinRef h₀ L m s led) E s) (h2 : ∀ l h' tk', Fr h₀ L h' m → News h₀ L h' led → Q (.ref l) { s with heap := h', toks := tk' }) : wpAny M A (eval e env) Q E s :=
  wpAny_mono h1 (fun v s' z => by
    obtain ⟨l, h', tk', a, b⟩ := z
    exact h2 l h' tk' a b) fun _ _ z => z
theorem bool_self {α : Type} {a : α} (i : Decidable (a = a)) : @decide (a = a) i = true := decide_eq_true rfl
theorem one_news {h₀ h : Heap} {L : Addr} {p : Addr × Obj} {news : List (Addr × Obj)} (N : News h₀ L h news) (hm : p ∈ news) : News h₀ L h [p] := fun q hq => by
  rw [List.mem_singleton.mp hq]; exact N p hm
theorem news_tl2 {h₀ h : Heap} {L : Addr} {a b : Addr × Obj} {led : List (Addr × Obj)} (N : News h₀ L h (a :: b :: led)) : News h₀ L h led := fun p hp => N p (.tail _ (.tail _ hp))
theorem news_tl1 {h₀ h : Heap} {L : Addr} {a : Addr × Obj} {led : List (Addr × Obj)} (N : News h₀ L h (a :: led)) : News h₀ L h led := fun p hp => N p (.tail _ hp)
theorem join_breadth {M : Model} {A : Around} {env : Env} {E : Value → Shared → Prop} {s : Shared} {h₀ : Heap} {L pl : Addr} {m : Str → Option Value} {e : Expr} {Q : Value → Shared → Prop} {led : List (Addr × Obj)} {up : Bool} {p0 p1 p2 : Int} {t0 t1 t2 : Tok} {n : Nat}
    (F : Fr h₀ L s.heap m) (N : News h₀ L s.heap led) (hu : m (Str.ofString "upright") = some (.bool up)) (hp : m (Str.ofString "plain") = some (.ref pl)) (hm : (pl, listOf #[.int p0 t0, .int p1 t1, .int p2 t2] n) ∈ led)
    (h1 : wpAny M A (eval e env) (JoinInt h₀ L m s (fun k nw => k = (if up = true then p1 + p2 else p0) ∧ nw = led)) E s)
    (h2 : ∀ k t h' tk', k = (if up = true then p1 + p2 else p0) → Fr h₀ L h' m → News h₀ L h' led → Q (.int k t) { s with heap := h', toks := tk' }) : wpAny M A (eval e env) Q E s :=
  join_int _ h1 fun k t nw h' tk' a b c => by
    obtain ⟨c, rfl⟩ := c
    exact h2 k t h' tk' c a b
theorem join_size {M : Model} {A : Around} {env : Env} {E : Value → Shared → Prop} {s : Shared} {h₀ : Heap} {L d : Addr} {m : Str → Option Value} {e : Expr} {Q : Value → Shared → Prop} {led : List (Addr × Obj)} {o : Obj} {g : Obj → List (Addr × Obj)} {W B : Int} {n : Nat} {tw : Tok}
    (F : Fr h₀ L s.heap m) (N : News h₀ L s.heap led) (hH : HeapJ B n o) (hm : (d, o) ∈ led) (U : UpdF d o led g) (hb : m (Str.ofString "breadth") = some (.int W tw))
    (h1 : wpAny M A (eval e env) (JoinInt h₀ L m s (fun k nw => SzOk W k ∧ ∃ o', HeapJ B (n + 1) o' ∧ nw = g o')) E s)
    (h2 : ∀ k t o' h' tk', SzOk W k → HeapJ B (n + 1) o' → Fr h₀ L h' m → News h₀ L h' (g o') → Q (.int k t) { s with heap := h', toks := tk' }) : wpAny M A (eval e env) Q E s :=
  join_int _ h1 fun k t nw h' tk' a b c => by
    obtain ⟨c, o', c2, rfl⟩ := c
    exact h2 k t o' h' tk' c c2 a b
end Mine
end

section
open PySem PySem.W PyProof.Rows
namespace Mine
local macro_rules | `(tactic| k_ne) => `(tactic| first | k_extra "NE" | (refine neN ?_; (try dsimp only); omega))
local macro_rules | `(tactic| walk_at "h:S1") => `(tactic| (refine' ⟨?B, ?F, ?X, ?N, ?T, ?K⟩; (case B => k_asm); (case F => k_asm); (case X => k_asm); (case N => k_asm); (case T => k_asm); (case K => first | exact rfl | assumption)))
local macro_rules | `(tactic| walk_at "h:S2") => `(tactic| (refine' ⟨?d, ?u⟩; (case d => ktr_room); (case u => ktr_units)))
theorem news_swap {h₀ h : Heap} {L : Addr} {a : Addr × Obj} {tl led : List (Addr × Obj)} (N : News h₀ L h (a :: (tl ++ led))) : News h₀ L h (a :: (led ++ tl)) := fun p hp => N p (by
  rcases List.mem_cons.mp hp with e | hp
  · exact e ▸ .head _
  · rcases List.mem_append.mp hp with hp | hp
    · exact .tail _ (List.mem_append.mpr (.inr hp))
    · exact .tail _ (List.mem_append.mpr (.inl hp)))
theorem RefsAre.at {α : Type} {El : α → Obj → Prop} {tl : List (Addr × Obj)} : ∀ {vs : List Value} {ks : List α}, RefsAre El tl vs ks → ∀ (i : Nat) (v : Value), vs[i]? = some v → ∃ (T : Addr) (o : Obj) (k : α), v = Value.ref T ∧ (T, o) ∈ tl ∧ El k o ∧ ks[i]? = some k
  | _, _, .nil, i, v, h => by simp at h
  | _, _, .cons a b c, 0, v, h => by
    simp only [List.getElem?_cons_zero, Option.some.injEq] at h
    subst h
    exact ⟨_, _, _, rfl, a, b, rfl⟩
  | _, _, .cons a b c, i + 1, v, h => by
    simp only [List.getElem?_cons_succ] at h
    exact c.at i v h
section
variable {prog : Program} {w : World} {A : Around} {h₀ : Heap} {L : Addr} {m : Str → Option Value} {env : Env} {elt : Expr} {x x₂ : Str} {scope : Scope} {cl : List (Str × Addr)} {s : Shared} {S : List (Addr × Obj) → Prop} {Fin : List Value → List (Addr × Obj) → Prop}
/-- a comprehension over a list of pairs (an int, the leader), each of whose elements makes one tuple -/
theorem comp_refsP {El : Int → Obj → Prop} {lx : Addr} {vs : List Value} {ps : List Int} {base tlS : List (Addr × Obj)} (hR : RefsAre (PairEl lx) tlS vs ps) (hb : ∀ p ∈ tlS, p ∈ base) (hS : ∀ tl, S (base ++ tl))
    (step : ∀ k t I oI C oC D m₂ ys tl h tk (E' : Value → Shared → Prop), k ∈ ps → LCg.NsObj oC m₂ → m₂ x = some (.int k t) → m₂ x₂ = some (.ref lx) → Fr h₀ L h m → News h₀ L h ((I, oI) :: (C, oC) :: (D, LCg.lst ys) :: (base ++ tl)) →
      wpAny (model prog w) A (eval elt (compEnvC scope cl C env)) (NewEl h₀ L m { s with heap := h, toks := tk } (El k) ((I, oI) :: (C, oC) :: (D, LCg.lst ys) :: (base ++ tl))) E' { s with heap := h, toks := tk })
    (fin : ∀ ys tl, RefsAre El tl ys ps → Fin ys (base ++ tl)) : LCp.CompRestP prog w A h₀ L m env elt x x₂ scope cl s S (fun i v => vs.toArray[i]? = some v) Fin vs.toArray.size 0 [] base := by
  have go : ∀ (k i : Nat) (ys : List Value) (tl : List (Addr × Obj)), i + k = vs.length → RefsAre El tl ys (ps.take i) → LCp.CompRestP prog w A h₀ L m env elt x x₂ scope cl s S (fun i v => vs.toArray[i]? = some v) Fin k i ys (base ++ tl) := by
    intro k
    induction k with
    | zero =>
      intro i ys tl e R
      refine LCp.CompRestP.zero (fin ys tl ?_)
      have e2 : i = ps.length := by rw [← hR.length]; omega
      rw [e2, List.take_length] at R
      exact R
    | succ k ih =>
      intro i ys tl e R
      refine LCp.CompRestP.succ fun v hv => ?_
      obtain ⟨T, o, p, rfl, hT, ⟨t, rfl⟩, hp⟩ := hR.at i v (by simpa using hv)
      refine ⟨T, _, .int p t, .ref lx, 0, rfl, List.mem_append.mpr (.inl (hb _ hT)), rfl, rfl, ?_⟩
      intro I oI C oC D m₂ h tk E' hC hx hx₂ F N off ne
      refine wpAny_mono (step p t I oI C oC D m₂ ys tl h tk E' (List.mem_of_getElem? hp) hC hx hx₂ F N) (fun y s₂ hq => newEl_end hS off hq fun T' o' po e' => ?_) fun _ _ q => q
      refine ih (i + 1) _ (tl ++ [(T', o')]) (by omega) ?_
      rw [List.take_add_one, hp]
      exact (R.grow fun p hp => List.mem_append.mpr (.inl hp)).snoc (List.mem_append.mpr (.inr (.head _))) po
  have z := go vs.toArray.size 0 [] [] (by simp) .nil
  rwa [List.append_nil] at z
end
/-- a row of five: the place, then what the leader is -/
def FiveB (kd wd ht dp : Int) (p : Int) (o : Obj) : Prop := ∃ t0 t1 t2 t3 t4, o = tupObj [.int p t0, .int kd t1, .int wd t2, .int ht t3, .int dp t4]
theorem refs_datB {kd wd ht dp : Int} {tl : List (Addr × Obj)} : ∀ {vs : List Value} {ks : List Int}, RefsAre (FiveB kd wd ht dp) tl vs ks → DatAll tl vs (ks.map fun k => Dat.tuple [.int k, .int kd, .int wd, .int ht, .int dp])
  | _, _, .nil => .nil
  | _, _, .cons a ⟨_, _, _, _, _, e⟩ c => .cons (.tuple (e ▸ a) (.cons (.int _ _) (.cons (.int _ _) (.cons (.int _ _) (.cons (.int _ _) (.cons (.int _ _) .nil)))))) (refs_datB c)
theorem dats_ok {kd wd ht dp : Int} (ks : List Int) : ∀ d ∈ (ks.map fun k => Dat.tuple [.int k, .int kd, .int wd, .int ht, .int dp]), kqdOk 8 d = true := fun d hd => by
  obtain ⟨k, _, rfl⟩ := List.mem_map.mp hd
  rfl
end Mine
end

section
open PySem PySem.W PyProof.Rows
namespace Mine
local macro_rules | `(tactic| k_ne) => `(tactic| first | k_extra "NE" | (refine neN ?_; (try dsimp only); omega))
local macro_rules | `(tactic| walk_at "h:S1") => `(tactic| (refine' ⟨?B, ?F, ?X, ?N, ?T, ?K⟩; (case B => k_asm); (case F => k_asm); (case X => k_asm); (case N => k_asm); (case T => k_asm); (case K => first | exact rfl | assumption)))
local macro_rules | `(tactic| walk_at "h:S2") => `(tactic| (refine' ⟨?d, ?u⟩; (case d => ktr_room); (case u => ktr_units)))
local macro_rules | `(tactic| ktr_units) => `(tactic| first | exact units3 (by assumption) (by decide) | (have hcL9 := cLine_is; (simp only [units_under_make, units_in1, units_deeper, Around.mark_units, units_caller] at *); (try dsimp only [ktrTop] at *); omega))
local macro_rules | `(tactic| k_room) => `(tactic| ktr_room)
local macro_rules | `(tactic| k_all) => `(tactic| assumption)
local macro_rules | `(tactic| walk_at "call ref") => `(tactic| k_extra "Q call ref")
local macro_rules | `(tactic| walk_at "call ref nil") => `(tactic| k_extra "Q call ref nil")
local macro_rules | `(tactic| walk_at "JoinInt") => `(tactic| (k_dflt (refine' JoinInt.intro _ _ _ _ _ ?F ?N ?S; (case F => k_asm); (case N => k_asm); (case S => first
  | (refine ⟨?_, rfl⟩; first | exact (if_pos (by assumption)).symm | exact (if_neg (by assumption)).symm | (simp_all; done))
  | exact ⟨szok1 (by assumption) (by assumption), _, by assumption, rfl⟩
  | exact ⟨szok2 (by assumption) (by assumption), _, by assumption, rfl⟩
  | exact ⟨szok3 (by assumption) (by assumption), _, by assumption, rfl⟩))))
local macro_rules | `(tactic| walk_at "eval IfExp") => `(tactic| k_extra "Q eval IfExp")
local macro_rules | `(tactic| walk_at "JoinRef") => `(tactic| ((with_reducible rename News _ _ _ _ => kN9); k_dflt (refine' JoinRef.intro _ _ _ ?F ?N; (case F => k_asm); (case N => first | exact kN9 | exact news_tl1 kN9 | exact news_tl2 kN9))))
local macro_rules | `(tactic| walk_at "exec Try") => `(tactic| (k_here; k_dflt (refine wpAny_Try_except ?_)))

theorem words_CH_0 : True := by
  k_with_none
  k_with "PROJ" => first | exact h9.1 | exact h9 | exact h9.2.1 | exact h9.2 | exact h9.2.2.1 | exact h9.2.2 | exact h9.2.2.2.1 | exact h9.2.2.2 | exact h9.2.2.2.2.1 | exact h9.2.2.2.2 | exact h9.2.2.2.2.2.1 | exact h9.2.2.2.2.2 | exact h9.2.2.2.2.2.2.1 | exact h9.2.2.2.2.2.2 | exact h9.2.2.2.2.2.2.2.1 | exact h9.2.2.2.2.2.2.2 | exact h9.2.2.2.2.2.2.2.2.1 | exact h9.2.2.2.2.2.2.2.2 | exact h9.2.2.2.2.2.2.2.2.2.1 | exact h9.2.2.2.2.2.2.2.2.2 | exact h9.2.2.2.2.2.2.2.2.2.2.1 | exact h9.2.2.2.2.2.2.2.2.2.2 | exact h9.2.2.2.2.2.2.2.2.2.2.2.1 | exact h9.2.2.2.2.2.2.2.2.2.2.2 | exact h9.2.2.2.2.2.2.2.2.2.2.2.2.1 | exact h9.2.2.2.2.2.2.2.2.2.2.2.2 | exact h9.2.2.2.2.2.2.2.2.2.2.2.2.2.1 | exact h9.2.2.2.2.2.2.2.2.2.2.2.2.2 | exact h9.2.2.2.2.2.2.2.2.2.2.2.2.2.2.1 | exact h9.2.2.2.2.2.2.2.2.2.2.2.2.2.2 | exact h9.2.2.2.2.2.2.2.2.2.2.2.2.2.2.2.1 | exact h9.2.2.2.2.2.2.2.2.2.2.2.2.2.2.2 | exact h9.2.2.2.2.2.2.2.2.2.2.2.2.2.2.2.2.1 | exact h9.2.2.2.2.2.2.2.2.2.2.2.2.2.2.2.2 | exact h9.2.2.2.2.2.2.2.2.2.2.2.2.2.2.2.2.2.1 | exact h9.2.2.2.2.2.2.2.2.2.2.2.2.2.2.2.2.2 | exact h9.2.2.2.2.2.2.2.2.2.2.2.2.2.2.2.2.2.2.1 | exact h9.2.2.2.2.2.2.2.2.2.2.2.2.2.2.2.2.2.2 | exact h9.2.2.2.2.2.2.2.2.2.2.2.2.2.2.2.2.2.2.2.1 | exact h9.2.2.2.2.2.2.2.2.2.2.2.2.2.2.2.2.2.2.2 | exact h9.2.2.2.2.2.2.2.2.2.2.2.2.2.2.2.2.2.2.2.2.1 | exact h9.2.2.2.2.2.2.2.2.2.2.2.2.2.2.2.2.2.2.2.2 | exact h9.2.2.2.2.2.2.2.2.2.2.2.2.2.2.2.2.2.2.2.2.2.1 | exact h9.2.2.2.2.2.2.2.2.2.2.2.2.2.2.2.2.2.2.2.2.2 | exact h9.2.2.2.2.2.2.2.2.2.2.2.2.2.2.2.2.2.2.2.2.2.2.1 | exact h9.2.2.2.2.2.2.2.2.2.2.2.2.2.2.2.2.2.2.2.2.2.2 | exact h9.2.2.2.2.2.2.2.2.2.2.2.2.2.2.2.2.2.2.2.2.2.2.2.1 | exact h9.2.2.2.2.2.2.2.2.2.2.2.2.2.2.2.2.2.2.2.2.2.2.2 | exact h9.2.2.2.2.2.2.2.2.2.2.2.2.2.2.2.2.2.2.2.2.2.2.2.2.1 | exact h9.2.2.2.2.2.2.2.2.2.2.2.2.2.2.2.2.2.2.2.2.2.2.2.2
  k_with "NE" => ((try refine neN ?_); (try dsimp only); first
    | assumption
    | exact Ne.symm (by assumption)
    | exact Nat.ne_of_lt (by assumption)
    | exact Nat.ne_of_gt (by assumption)
    | exact off_ne1 _
    | exact Ne.symm (off_ne1 _)
    | exact off_ne2 _
    | exact Ne.symm (off_ne2 _)
    | exact off_ne3 _
    | exact Ne.symm (off_ne3 _)
    | exact off_ne4 _
    | exact Ne.symm (off_ne4 _)
    | exact off_ne5 _
    | exact Ne.symm (off_ne5 _)
    | (refine succ_ne ?_; k_extra "NE")
    | (refine ne_cr (by assumption) ?_; intro h9; k_extra "PROJ")
    | (refine ne_cl (by assumption) ?_; intro h9; k_extra "PROJ")
    | (refine lt_cr (by assumption) ?_; intro h9; k_extra "PROJ")
    | (refine lt_cl (by assumption) ?_; intro h9; k_extra "PROJ")
    | (refine lt_off1 ?_; first | assumption | (refine lt_c (by assumption) ?_; intro h9; k_extra "PROJ"))
    | (refine Ne.symm (lt_off1 ?_); first | assumption | (refine lt_c (by assumption) ?_; intro h9; k_extra "PROJ"))
    | (refine lt_off2 ?_; first | assumption | (refine lt_c (by assumption) ?_; intro h9; k_extra "PROJ"))
    | (refine Ne.symm (lt_off2 ?_); first | assumption | (refine lt_c (by assumption) ?_; intro h9; k_extra "PROJ"))
    | (refine lt_off3 ?_; first | assumption | (refine lt_c (by assumption) ?_; intro h9; k_extra "PROJ"))
    | (refine Ne.symm (lt_off3 ?_); first | assumption | (refine lt_c (by assumption) ?_; intro h9; k_extra "PROJ"))
    | (refine lt_off4 ?_; first | assumption | (refine lt_c (by assumption) ?_; intro h9; k_extra "PROJ"))
    | (refine Ne.symm (lt_off4 ?_); first | assumption | (refine lt_c (by assumption) ?_; intro h9; k_extra "PROJ"))
    | (refine lt_off5 ?_; first | assumption | (refine lt_c (by assumption) ?_; intro h9; k_extra "PROJ"))
    | (refine Ne.symm (lt_off5 ?_); first | assumption | (refine lt_c (by assumption) ?_; intro h9; k_extra "PROJ")))
  k_with "Q call ref" => (k_here; (with_reducible show wpAny _ _ (call (Value.ref 260) [_, _, _] _) _ _ _); k_dflt ( apply CallC.go; (case S1 => walk_at "h:S1"); (case C => (apply rule_spec; (first | (case h0 => assumption) | (· (assumption))); (first | (case h1 => assumption) | (· (assumption))); (first | (case h2 => assumption) | (· (assumption))))); (case S2 => walk_at "h:S2"); k_whole); intro r9 news9 h9 tk9 p9 F9 N9; obtain ⟨x9, d9, o9, e9, q9, l9, m9, n9⟩ := p9; subst e9; subst n9; k_lt l9; k_lt2 m9; (try dsimp only); (try k_fold))
  k_with "Q call ref" => (k_here; (with_reducible show wpAny _ _ (call (Value.ref 239) [Value.int _ _, Value.int _ _, Value.int _ _, Value.int _ _, Value.ref _] _) _ _ _); k_dflt ( apply CallC.go; (case S1 => walk_at "h:S1"); (case C => (apply box_spec; (first | (case hk0 => omega) | (· (omega))); (first | (case hk1 => omega) | (· (omega))); (first | (case a1 => omega) | (· (omega))); (first | (case a2 => omega) | (· (omega))); (first | (case b1 => omega) | (· (omega))); (first | (case b2 => omega) | (· (omega))); (first | (case c1 => omega) | (· (omega))); (first | (case c2 => omega) | (· (omega))))); (case S2 => walk_at "h:S2"); k_whole); intro r9 news9 h9 tk9 p9 F9 N9; obtain ⟨x9, d9, o9, e9, q9, l9, m9, n9⟩ := p9; subst e9; subst n9; k_lt l9; k_lt2 m9; (try dsimp only); (try k_fold))
  k_with "Q call ref nil" => (k_here; (with_reducible show wpAny _ _ (call (Value.ref 206) _ _) _ _ _); k_dflt ( apply CallC.go; (case S1 => walk_at "h:S1"); (case C => (apply glue_spec)); (case S2 => walk_at "h:S2"); k_whole); intro r9 news9 h9 tk9 p9 F9 N9; obtain ⟨x9, e9, n9⟩ := p9; subst e9; subst n9; (try dsimp only); (try k_fold))
  k_with "Q call ref" => (k_here; (with_reducible show wpAny _ _ (call (Value.ref 282) [Value.ref _, Value.int _ _, Value.ref _] _) _ _ _); k_dflt (first | (apply CallC.go; (case S1 => walk_at "h:S1"); (case C => (apply skipB_spec; (first | (case m1 => k_mem) | (· (k_mem))); (first | (case m2 => k_mem) | (· (k_mem))); (first | (case hB => assumption) | (· (assumption))); (first | (case hs1 => assumption) | (· (assumption))); (first | (case hs3 => assumption) | (· (assumption))); (first | (case hk2 => assumption) | (· (assumption))); (first | (case hk3 => assumption) | (· (assumption))))); (case S2 => walk_at "h:S2"); k_whole) | (apply CallC.go; (case S1 => walk_at "h:S1"); (case C => (apply skipR_spec; (first | (case m1 => k_mem) | (· (k_mem))); (first | (case m2 => k_mem) | (· (k_mem))); (first | (case hB => assumption) | (· (assumption))); (first | (case hs1 => assumption) | (· (assumption))); (first | (case hs3 => assumption) | (· (assumption))))); (case S2 => walk_at "h:S2"); k_whole)); intro r9 news9 h9 tk9 p9 F9 N9; obtain ⟨x9, d9, o9, e9, q9, l9, m9, n9⟩ := p9; subst e9; subst n9; k_lt l9; k_lt2 m9; (try dsimp only); (try k_fold))
  k_with "Q eval IfExp" => (k_here; (with_reducible show wpAny _ _ (eval (Expr.IfExp (Expr.Compare _ _ _ _) (Expr.List _ _) _ _) _) _ _ _); (fail_if_success (with_reducible show wpAny _ _ _ (JoinRef _ _ _ _ _) _ _)); k_dflt (apply join_ref; (case F => k_asm); (case N => k_asm); k_whole); (try (intro l9 h9 tk9 F9 N9; (try dsimp only); (try k_fold))))
  trivial
theorem CallR.use {w : World} {f : Addr} {args : List Value} {news : List (Addr × Obj)} {k : Nat} (C : CallR w f args news k)
    {loose : List Str} {mean : ExcName → Option Value} {mg mb : Str → Option Value} {dp un : Nat} {gd : Option (List Code)} {cn : Str} {cs : Scope} {a : Addr} {ccd : Value} {cl : List (Str × Addr)} {outer : List Env} {A₀ : Around} {base h₀ : Heap} {L : Addr} {m : Str → Option Value} {s : Shared} {Q E : Value → Shared → Prop}
    (B : Below A₀ base outer h₀) (F : Fr h₀ L s.heap m) (X : (Mine.hd.heap_39 w.params).In h₀) (N : News h₀ L s.heap news) (T : Top Mine.hd.view_39 loose mean mg mb h₀) (hk : cs.kind = .function) (hd : dp + k < recursionLimit) (hu : un + 8 * k < cLine)
    (rse : ∀ (G : Heap) (e t : Addr) (h' : Heap) (tk' : Nat), Fr h₀ L G m → RaisedT base h₀ G (envX cn cs L a ccd cl :: outer) e t news h' → G.UpToSlots h' → E (.ref e) { s with heap := h', toks := tk' }) :
    wpAny (model PySem.Challenge.rw_sq0032_01.row.prog w) (ktrTop dp un gd cn cs L a ccd cl outer) (call (.ref f) args) Q E s :=
  C _ _ _ _ _ _ _ _ _ _ _ _ _ _ _ _ _ _ _ _ _ B F X N T hk hd hu rse

theorem words_CH_1 : True := by
  k_with "Q call ref" => (k_here; (with_reducible show wpAny _ _ (call (Value.ref 291) [Value.ref _, Value.int _ _, Value.int _ _, Value.int _ _, Value.bool _] _) _ _ _); refine stop_of ?_)
  trivial
theorem sz_raise {W sz : Int} (h : SzOk W sz) (h2 : ¬ (W ≤ 0 ∨ sz ≤ 100)) (hW2 : W ≤ 200) : 0 < W ∧ 0 < sz ∧ sz ≤ 1000000 ∧ sz.fdiv W > 2000 ∧ sz > 2000 * W := by
  have hW : 0 < W := by omega
  have h3 : 2001 * W ≤ sz ∧ sz ≤ 2001 * W + 49 := by
    rcases h with h | h
    · omega
    · split at h <;> omega
  refine ⟨hW, by omega, by omega, ?_, by omega⟩
  rw [Int.fdiv_eq_ediv_of_nonneg _ (by omega)]
  have := Int.le_ediv_of_mul_le hW h3.1
  omega
theorem stageB2 (w : World) (fd : FuncData) (body : List Stmt) (hfd : fdAt w.params 334 = some fd) (hbody : fd.body = .stmts body)
    {loose : List Str} {mean : ExcName → Option Value} {mg mb : Str → Option Value} {dp un : Nat} {gd : Option (List Code)} {cn : Str} {cs : Scope} {L a : Addr} {ccd : Value} {cl : List (Str × Addr)} {base g : Heap} {L' : Addr} {s : Shared} {mm : Str → Option Value} {Q : Flow → Shared → Prop} {E : Value → Shared → Prop}
    {x dx d : Addr} {od o o1 oL oS oH : Obj} {so k wd ht dp_ bg ed sz W : Int} {up : Bool} {sv : Value} {t1 t2 t3 t4 t5 : Tok}
    (hs1 : 1 ≤ so) (hs3 : so ≤ 3) (hB : BoxD w.params k wd ht dp_ od) (hk2 : 2 ≤ k) (hk3 : k ≤ 3) (hWe : W = if up = true then ht + dp_ else wd) (hW2 : W ≤ 200) (hsz : SzOk W sz) (hz : ¬ (W ≤ 0 ∨ sz ≤ 100))
    (B' : Below (ktrTop dp un gd cn cs L a ccd cl []) base [envX cn cs L a ccd cl] g) (X' : (Mine.hd.heap_39 w.params).In g) (T' : Top Mine.hd.view_39 loose mean mg mb g) (XB : (Mine.hd.heap_39 w.params).In base) (TB : Top Mine.hd.view_39 loose mean mg mb base)
    (hk : cs.kind = .function) (hd : dp + 19 < recursionLimit) (hu : un + 8 * 19 < cLine)
    (F' : Fr g L' s.heap (fun y => if y = Str.ofString "size" then some (.int sz t1) else if y = Str.ofString "begin" then some (.int bg t2) else if y = Str.ofString "edge" then some (.int ed t3) else if y = Str.ofString "breadth" then some (.int W t4) else if y = Str.ofString "is_rule" then some (.bool false) else if y = Str.ofString "sort" then some (.int so t5) else if y = Str.ofString "upright" then some (.bool up) else mm y))
    (N' : News g L' s.heap [(x, instObj 239 dx), (dx, od), (L' + 1 + 1 + 1 + 1, o1), (L' + 1 + 1 + 1, oL), (L' + 1 + 1, oS), (L' + 1, oH), (d, o)])
    (d1 : o1.data = .cell none) (d2 : oL.data = .cell (some (.ref x))) (d3 : oS.data = .cell (some sv)) (d4 : oH.data = .cell (some (.ref d)))
    (ret : ∀ g' m' h' tk', KtsTurn [L] g g' → Fr g' L' h' m' → News g' L' h' [(d, o)] → Q (.ret (.bool true)) { s with heap := h', toks := tk' }) :
    wpAny (model PySem.Challenge.rw_sq0032_01.row.prog w) ((ktrTop dp un gd cn cs L a ccd cl []).deeper (envOfC fd.qualname fd.scope L' 334 fd.code)) (execs (body.drop 9) (envOfC fd.qualname fd.scope L' 334 fd.code)) Q E s := by
  cases (hfd : some _ = some fd)
  cases (hbody : FuncBody.stmts _ = .stmts body)
  w_on
  revert X'
  k_fill
  intro X'
  obtain ⟨hW, hz0, hz1, hc, hc2⟩ := sz_raise hsz hz hW2
  have hk4 : ¬ k = 4 := by omega
  have hBx := hB
  obtain ⟨t20, t21, t22, t23, t24, t25, t26, t27, t28, s20, s21, s22, s23, v24, v25, v26, v27, v28, rfl⟩ := hB
  simp only [List.drop_succ_cons, List.drop_zero]
  (try dsimp only)
  (try k_lift B')
  (try k_fold)
  k_steps
  refine StopAt.mk ?_
  refine' CallR.use (placesT_spec _ _ _ _ _ _ _ _ _ _ _ _ _ _ _ _ _ _ _ _ _ ?q1 ?q2 ?m1 ?m2 ?hS ?hB ?hk4 ?hW ?w1 ?w2 ?z1 ?z2 ?hc) ?B ?F ?X ?N ?T ?K ?d ?u ?_
  (case B => k_asm); (case F => k_asm); (case X => k_asm); (case N => k_asm); (case T => k_asm); (case K => first | exact rfl | assumption); (case d => ktr_room); (case u => ktr_units); (case q1 => k_mem); (case q2 => k_mem); (case hS => assumption); (case m1 => k_mem); (case m2 => k_mem); (case hB => assumption); (case hk4 => assumption); (case hW => assumption); (case w1 => assumption); (case w2 => assumption); (case z1 => assumption); (case z2 => assumption); (case hc => assumption)
  intro G9 e9 t9 h9 tk9 FG9 R9 U9
  (try dsimp only)
  refine caught_tm rfl rfl rfl rfl R9 FG9 B' U9 XB TB ?_
  intro h8 g8 T8 F8 N8 B8 X8 P8 E8
  (try dsimp only)
  k_steps
  (with_reducible rename Fr _ _ _ _ => kF); (with_reducible rename News _ _ _ _ => kN)
  have e8 : decide (2000 * W < sz) = true := decide_eq_true (by omega)
  rw [e8]
  exact ret g8 _ _ _ T8 kF (one_news kN (by k_mem))
end Mine
end

section
open PySem PySem.W PyProof.Rows
namespace Mine
local macro_rules | `(tactic| k_ne) => `(tactic| first | k_extra "NE" | (refine neN ?_; (try dsimp only); omega))
local macro_rules | `(tactic| walk_at "h:S1") => `(tactic| (refine' ⟨?B, ?F, ?X, ?N, ?T, ?K⟩; (case B => k_asm); (case F => k_asm); (case X => k_asm); (case N => k_asm); (case T => k_asm); (case K => first | exact rfl | assumption)))
local macro_rules | `(tactic| walk_at "h:S2") => `(tactic| (refine' ⟨?d, ?u⟩; (case d => ktr_room); (case u => ktr_units)))
local macro_rules | `(tactic| ktr_units) => `(tactic| first | exact units3 (by assumption) (by decide) | (have hcL9 := cLine_is; (simp only [units_under_make, units_in1, units_deeper, Around.mark_units, units_caller] at *); (try dsimp only [ktrTop] at *); omega))
local macro_rules | `(tactic| k_room) => `(tactic| ktr_room)
local macro_rules | `(tactic| k_all) => `(tactic| assumption)
local macro_rules | `(tactic| walk_at "call ref") => `(tactic| k_extra "Q call ref")
local macro_rules | `(tactic| walk_at "call ref nil") => `(tactic| k_extra "Q call ref nil")
local macro_rules | `(tactic| walk_at "JoinInt") => `(tactic| (k_dflt (refine' JoinInt.intro _ _ _ _ _ ?F ?N ?S; (case F => k_asm); (case N => k_asm); (case S => first
  | (refine ⟨?_, rfl⟩; first | exact (if_pos (by assumption)).symm | exact (if_neg (by assumption)).symm | (simp_all; done))
  | exact ⟨szok1 (by assumption) (by assumption), _, by assumption, rfl⟩
  | exact ⟨szok2 (by assumption) (by assumption), _, by assumption, rfl⟩
  | exact ⟨szok3 (by assumption) (by assumption), _, by assumption, rfl⟩))))
local macro_rules | `(tactic| walk_at "eval IfExp") => `(tactic| k_extra "Q eval IfExp")
local macro_rules | `(tactic| walk_at "JoinRef") => `(tactic| ((with_reducible rename News _ _ _ _ => kN9); k_dflt (refine' JoinRef.intro _ _ _ ?F ?N; (case F => k_asm); (case N => first | exact kN9 | exact news_tl1 kN9 | exact news_tl2 kN9))))
local macro_rules | `(tactic| walk_at "exec Try") => `(tactic| (k_here; k_dflt (refine wpAny_Try_except ?_)))
local macro_rules | `(tactic| walk_at "exec Assign cons ListComp") => `(tactic| k_extra "Q exec Assign cons ListComp")
local macro_rules | `(tactic| walk_at "SrcLP") => `(tactic| refine stop_of ?_)
local macro_rules | `(tactic| walk_at "CompSrc") => `(tactic| refine stop_of ?_)
local macro_rules | `(tactic| walk_at "eval ListComp Tuple cons") => `(tactic| k_extra "Q eval ListComp Tuple cons")
local macro_rules | `(tactic| walk_at "compareOp NotEq ref ref") => `(tactic| refine stop_of ?_)
theorem words_CI_0 : True := by
  k_with_none
  k_with "PROJ" => first | exact h9.1 | exact h9 | exact h9.2.1 | exact h9.2 | exact h9.2.2.1 | exact h9.2.2 | exact h9.2.2.2.1 | exact h9.2.2.2 | exact h9.2.2.2.2.1 | exact h9.2.2.2.2 | exact h9.2.2.2.2.2.1 | exact h9.2.2.2.2.2 | exact h9.2.2.2.2.2.2.1 | exact h9.2.2.2.2.2.2 | exact h9.2.2.2.2.2.2.2.1 | exact h9.2.2.2.2.2.2.2 | exact h9.2.2.2.2.2.2.2.2.1 | exact h9.2.2.2.2.2.2.2.2 | exact h9.2.2.2.2.2.2.2.2.2.1 | exact h9.2.2.2.2.2.2.2.2.2 | exact h9.2.2.2.2.2.2.2.2.2.2.1 | exact h9.2.2.2.2.2.2.2.2.2.2 | exact h9.2.2.2.2.2.2.2.2.2.2.2.1 | exact h9.2.2.2.2.2.2.2.2.2.2.2 | exact h9.2.2.2.2.2.2.2.2.2.2.2.2.1 | exact h9.2.2.2.2.2.2.2.2.2.2.2.2 | exact h9.2.2.2.2.2.2.2.2.2.2.2.2.2.1 | exact h9.2.2.2.2.2.2.2.2.2.2.2.2.2 | exact h9.2.2.2.2.2.2.2.2.2.2.2.2.2.2.1 | exact h9.2.2.2.2.2.2.2.2.2.2.2.2.2.2 | exact h9.2.2.2.2.2.2.2.2.2.2.2.2.2.2.2.1 | exact h9.2.2.2.2.2.2.2.2.2.2.2.2.2.2.2 | exact h9.2.2.2.2.2.2.2.2.2.2.2.2.2.2.2.2.1 | exact h9.2.2.2.2.2.2.2.2.2.2.2.2.2.2.2.2 | exact h9.2.2.2.2.2.2.2.2.2.2.2.2.2.2.2.2.2.1 | exact h9.2.2.2.2.2.2.2.2.2.2.2.2.2.2.2.2.2 | exact h9.2.2.2.2.2.2.2.2.2.2.2.2.2.2.2.2.2.2.1 | exact h9.2.2.2.2.2.2.2.2.2.2.2.2.2.2.2.2.2.2 | exact h9.2.2.2.2.2.2.2.2.2.2.2.2.2.2.2.2.2.2.2.1 | exact h9.2.2.2.2.2.2.2.2.2.2.2.2.2.2.2.2.2.2.2 | exact h9.2.2.2.2.2.2.2.2.2.2.2.2.2.2.2.2.2.2.2.2.1 | exact h9.2.2.2.2.2.2.2.2.2.2.2.2.2.2.2.2.2.2.2.2 | exact h9.2.2.2.2.2.2.2.2.2.2.2.2.2.2.2.2.2.2.2.2.2.1 | exact h9.2.2.2.2.2.2.2.2.2.2.2.2.2.2.2.2.2.2.2.2.2 | exact h9.2.2.2.2.2.2.2.2.2.2.2.2.2.2.2.2.2.2.2.2.2.2.1 | exact h9.2.2.2.2.2.2.2.2.2.2.2.2.2.2.2.2.2.2.2.2.2.2 | exact h9.2.2.2.2.2.2.2.2.2.2.2.2.2.2.2.2.2.2.2.2.2.2.2.1 | exact h9.2.2.2.2.2.2.2.2.2.2.2.2.2.2.2.2.2.2.2.2.2.2.2 | exact h9.2.2.2.2.2.2.2.2.2.2.2.2.2.2.2.2.2.2.2.2.2.2.2.2.1 | exact h9.2.2.2.2.2.2.2.2.2.2.2.2.2.2.2.2.2.2.2.2.2.2.2.2
  k_with "NE" => ((try refine neN ?_); (try dsimp only); first
    | assumption
    | exact Ne.symm (by assumption)
    | exact Nat.ne_of_lt (by assumption)
    | exact Nat.ne_of_gt (by assumption)
    | exact off_ne1 _
    | exact Ne.symm (off_ne1 _)
    | exact off_ne2 _
    | exact Ne.symm (off_ne2 _)
    | exact off_ne3 _
    | exact Ne.symm (off_ne3 _)
    | exact off_ne4 _
    | exact Ne.symm (off_ne4 _)
    | exact off_ne5 _
    | exact Ne.symm (off_ne5 _)
    | (refine succ_ne ?_; k_extra "NE")
    | (refine ne_cr (by assumption) ?_; intro h9; k_extra "PROJ")
    | (refine ne_cl (by assumption) ?_; intro h9; k_extra "PROJ")
    | (refine lt_cr (by assumption) ?_; intro h9; k_extra "PROJ")
    | (refine lt_cl (by assumption) ?_; intro h9; k_extra "PROJ")
    | (refine lt_off1 ?_; first | assumption | (refine lt_c (by assumption) ?_; intro h9; k_extra "PROJ"))
    | (refine Ne.symm (lt_off1 ?_); first | assumption | (refine lt_c (by assumption) ?_; intro h9; k_extra "PROJ"))
    | (refine lt_off2 ?_; first | assumption | (refine lt_c (by assumption) ?_; intro h9; k_extra "PROJ"))
    | (refine Ne.symm (lt_off2 ?_); first | assumption | (refine lt_c (by assumption) ?_; intro h9; k_extra "PROJ"))
    | (refine lt_off3 ?_; first | assumption | (refine lt_c (by assumption) ?_; intro h9; k_extra "PROJ"))
    | (refine Ne.symm (lt_off3 ?_); first | assumption | (refine lt_c (by assumption) ?_; intro h9; k_extra "PROJ"))
    | (refine lt_off4 ?_; first | assumption | (refine lt_c (by assumption) ?_; intro h9; k_extra "PROJ"))
    | (refine Ne.symm (lt_off4 ?_); first | assumption | (refine lt_c (by assumption) ?_; intro h9; k_extra "PROJ"))
    | (refine lt_off5 ?_; first | assumption | (refine lt_c (by assumption) ?_; intro h9; k_extra "PROJ"))
    | (refine Ne.symm (lt_off5 ?_); first | assumption | (refine lt_c (by assumption) ?_; intro h9; k_extra "PROJ")))
  k_with "Q call ref" => (k_here; (with_reducible show wpAny _ _ (call (Value.ref 260) [_, _, _] _) _ _ _); k_dflt ( apply CallC.go; (case S1 => walk_at "h:S1"); (case C => (apply rule_spec; (first | (case h0 => assumption) | (· (assumption))); (first | (case h1 => assumption) | (· (assumption))); (first | (case h2 => assumption) | (· (assumption))))); (case S2 => walk_at "h:S2"); k_whole); intro r9 news9 h9 tk9 p9 F9 N9; obtain ⟨x9, d9, o9, e9, q9, l9, m9, n9⟩ := p9; subst e9; subst n9; k_lt l9; k_lt2 m9; (try dsimp only); (try k_fold))
  k_with "Q call ref" => (k_here; (with_reducible show wpAny _ _ (call (Value.ref 239) [Value.int _ _, Value.int _ _, Value.int _ _, Value.int _ _, Value.ref _] _) _ _ _); k_dflt ( apply CallC.go; (case S1 => walk_at "h:S1"); (case C => (apply box_spec; (first | (case hk0 => omega) | (· (omega))); (first | (case hk1 => omega) | (· (omega))); (first | (case a1 => omega) | (· (omega))); (first | (case a2 => omega) | (· (omega))); (first | (case b1 => omega) | (· (omega))); (first | (case b2 => omega) | (· (omega))); (first | (case c1 => omega) | (· (omega))); (first | (case c2 => omega) | (· (omega))))); (case S2 => walk_at "h:S2"); k_whole); intro r9 news9 h9 tk9 p9 F9 N9; obtain ⟨x9, d9, o9, e9, q9, l9, m9, n9⟩ := p9; subst e9; subst n9; k_lt l9; k_lt2 m9; (try dsimp only); (try k_fold))
  k_with "Q call ref nil" => (k_here; (with_reducible show wpAny _ _ (call (Value.ref 206) _ _) _ _ _); k_dflt ( apply CallC.go; (case S1 => walk_at "h:S1"); (case C => (apply glue_spec)); (case S2 => walk_at "h:S2"); k_whole); intro r9 news9 h9 tk9 p9 F9 N9; obtain ⟨x9, e9, n9⟩ := p9; subst e9; subst n9; (try dsimp only); (try k_fold))
  k_with "Q call ref" => (k_here; (with_reducible show wpAny _ _ (call (Value.ref 282) [Value.ref _, Value.int _ _, Value.ref _] _) _ _ _); k_dflt (first | (apply CallC.go; (case S1 => walk_at "h:S1"); (case C => (apply skipB_spec; (first | (case m1 => k_mem) | (· (k_mem))); (first | (case m2 => k_mem) | (· (k_mem))); (first | (case hB => assumption) | (· (assumption))); (first | (case hs1 => assumption) | (· (assumption))); (first | (case hs3 => assumption) | (· (assumption))); (first | (case hk2 => assumption) | (· (assumption))); (first | (case hk3 => assumption) | (· (assumption))))); (case S2 => walk_at "h:S2"); k_whole) | (apply CallC.go; (case S1 => walk_at "h:S1"); (case C => (apply skipR_spec; (first | (case m1 => k_mem) | (· (k_mem))); (first | (case m2 => k_mem) | (· (k_mem))); (first | (case hB => assumption) | (· (assumption))); (first | (case hs1 => assumption) | (· (assumption))); (first | (case hs3 => assumption) | (· (assumption))))); (case S2 => walk_at "h:S2"); k_whole)); intro r9 news9 h9 tk9 p9 F9 N9; obtain ⟨x9, d9, o9, e9, q9, l9, m9, n9⟩ := p9; subst e9; subst n9; k_lt l9; k_lt2 m9; (try dsimp only); (try k_fold))
  k_with "Q eval IfExp" => (k_here; (with_reducible show wpAny _ _ (eval (Expr.IfExp (Expr.Compare _ _ _ _) (Expr.List _ _) _ _) _) _ _ _); (fail_if_success (with_reducible show wpAny _ _ _ (JoinRef _ _ _ _ _) _ _)); k_dflt (apply join_ref; (case F => k_asm); (case N => k_asm); k_whole); (try (intro l9 h9 tk9 F9 N9; (try dsimp only); (try k_fold))))
  k_with "Q call ref" => (k_here; (with_reducible show wpAny _ _ (call (Value.ref 291) [Value.ref _, Value.int _ _, Value.int _ _, Value.int _ _, Value.bool _] _) _ _ _); k_dflt (apply CallC.go; (case S1 => walk_at "h:S1"); (case C => (apply placesB_spec; (first | (case q1 => k_mem) | (· (k_mem))); (first | (case q2 => k_mem) | (· (k_mem))); (first | (case hS => assumption) | (· (assumption))); (first | (case m1 => k_mem) | (· (k_mem))); (first | (case m2 => k_mem) | (· (k_mem))); (first | (case hB => assumption) | (· (assumption))); (first | (case hs1 => assumption) | (· (assumption))); (first | (case hs3 => assumption) | (· (assumption))); (first | (case hk4 => assumption) | (· (assumption))); (first | (case hWe => assumption) | (· (assumption))); (first | (case hW2 => assumption) | (· (assumption))); (first | (case hz2 => assumption) | (· (assumption))); (first | (case z1 => assumption) | (· (assumption))); (first | (case z2 => assumption) | (· (assumption))); (first | (case z5 => assumption) | (· (assumption))); (first | (case z6 => assumption) | (· (assumption))))); (case S2 => walk_at "h:S2"); k_whole); intro r9 news9 h9 tk9 p9 F9 N9; obtain ⟨l9, vs9, n9, e9, i9, m9⟩ := p9; subst e9; subst m9; (try k_sweep); (try dsimp only); (try k_fold))
  k_with "Q call ref" => (k_here; (with_reducible show wpAny _ _ (call (Value.ref 303) [Value.ref _, Value.int _ _, Value.int _ _, Value.int _ _, Value.bool _] _) _ _ _); k_dflt (apply CallC.go; (case S1 => walk_at "h:S1"); (case C => (apply leadersB_spec; (first | (case q1 => k_mem) | (· (k_mem))); (first | (case q2 => k_mem) | (· (k_mem))); (first | (case hS => assumption) | (· (assumption))); (first | (case m1 => k_mem) | (· (k_mem))); (first | (case m2 => k_mem) | (· (k_mem))); (first | (case hB => assumption) | (· (assumption))); (first | (case hs1 => assumption) | (· (assumption))); (first | (case hs3 => assumption) | (· (assumption))); (first | (case hk4 => assumption) | (· (assumption))); (first | (case hWe => assumption) | (· (assumption))); (first | (case hW2 => assumption) | (· (assumption))); (first | (case hz2 => assumption) | (· (assumption))); (first | (case z1 => assumption) | (· (assumption))); (first | (case z2 => assumption) | (· (assumption))); (first | (case z5 => assumption) | (· (assumption))); (first | (case z6 => assumption) | (· (assumption))))); (case S2 => walk_at "h:S2"); k_whole); intro r9 news9 h9 tk9 p9 F9 N9; obtain ⟨l9, vs9, n9, tl9, e9, i9, m9⟩ := p9; subst e9; subst m9; (replace N9 := news_swap N9); (simp only [List.cons_append, List.nil_append] at N9); (try dsimp only); (try k_fold))
  k_with "Q exec Assign cons ListComp" => (k_here; k_dflt (refine LCp.Assign_ListComp_P (F₀ := by k_asm) (by rfl) (by with_unfolding_all rfl) (by with_unfolding_all rfl) (by decide) (by rfl) (by decide) (by rfl) (by rfl) (by decide) (by rfl) (by rfl) ?_))
  k_with "Q eval ListComp Tuple cons" => (k_here; k_dflt (refine LCg.ListComp_U (F₀ := by k_asm) (by with_unfolding_all rfl) (by decide) (by rfl) (by decide) (by rfl) ?_))
  k_with "Q call ref" => (k_here; (with_reducible show wpAny _ _ (call (Value.ref 329) [Value.int _ _, Value.int _ _, Value.int _ _, Value.int _ _, Value.int _ _, Value.ref _] _) _ _ _); k_dflt (apply CallC.go; (case S1 => walk_at "h:S1"); (case C => (apply room_spec; (first | (case m1 => k_mem) | (· (k_mem))); (first | (case hI => assumption) | (· (assumption))); (first | (case hs1 => assumption) | (· (assumption))); (first | (case hs3 => assumption) | (· (assumption))); (first | (case hns => exact rfl) | (· (exact rfl))); (first | (case hW => assumption) | (· (assumption))); (first | (case hW2 => assumption) | (· (assumption))); (first | (case hz => assumption) | (· (assumption))); (first | (case hz2 => assumption) | (· (assumption))); (first | (case z1 => assumption) | (· (assumption))); (first | (case z2 => assumption) | (· (assumption))); (first | (case z5 => assumption) | (· (assumption))); (first | (case z6 => assumption) | (· (assumption))))); (case S2 => walk_at "h:S2"); k_whole); intro r9 news9 h9 tk9 p9 F9 N9; obtain ⟨e9, m9⟩ := p9; subst e9; subst m9; (try dsimp only); (try k_fold))
  trivial
theorem stageB1 (w : World) (fd : FuncData) (body : List Stmt) (hfd : fdAt w.params 334 = some fd) (hbody : fd.body = .stmts body)
    {loose : List Str} {mean : ExcName → Option Value} {mg mb : Str → Option Value} {dp un : Nat} {gd : Option (List Code)} {cn : Str} {cs : Scope} {L a : Addr} {ccd : Value} {cl : List (Str × Addr)} {base g : Heap} {L' : Addr} {s : Shared} {mm : Str → Option Value} {Q : Flow → Shared → Prop} {E : Value → Shared → Prop}
    {x dx d : Addr} {od o o1 oL oS oH : Obj} {so k wd ht dp_ bg ed sz W : Int} {up : Bool} {sv : Value} {t1 t2 t3 t4 t5 : Tok}
    (hs1 : 1 ≤ so) (hs3 : so ≤ 3) (hB : BoxD w.params k wd ht dp_ od) (hk2 : 2 ≤ k) (hk3 : k ≤ 3) (hWe : W = if up = true then ht + dp_ else wd) (hW2 : W ≤ 200) (hW : 0 < W) (hz0 : 0 < sz) (hz1 : sz ≤ 100) (z1 : -100 ≤ bg) (z2 : bg ≤ 100) (z5 : -100 ≤ ed) (z6 : ed ≤ 100)
    (B' : Below (ktrTop dp un gd cn cs L a ccd cl []) base [envX cn cs L a ccd cl] g) (X' : (Mine.hd.heap_39 w.params).In g) (T' : Top Mine.hd.view_39 loose mean mg mb g) (XB : (Mine.hd.heap_39 w.params).In base) (TB : Top Mine.hd.view_39 loose mean mg mb base)
    (hk : cs.kind = .function) (hd : dp + 19 < recursionLimit) (hu : un + 8 * 19 < cLine)
    (F' : Fr g L' s.heap (fun y => if y = Str.ofString "size" then some (.int sz t1) else if y = Str.ofString "begin" then some (.int bg t2) else if y = Str.ofString "edge" then some (.int ed t3) else if y = Str.ofString "breadth" then some (.int W t4) else if y = Str.ofString "is_rule" then some (.bool false) else if y = Str.ofString "sort" then some (.int so t5) else if y = Str.ofString "upright" then some (.bool up) else mm y))
    (N' : News g L' s.heap [(x, instObj 239 dx), (dx, od), (L' + 1 + 1 + 1 + 1, o1), (L' + 1 + 1 + 1, oL), (L' + 1 + 1, oS), (L' + 1, oH), (d, o)])
    (d1 : o1.data = .cell none) (d2 : oL.data = .cell (some (.ref x))) (d3 : oS.data = .cell (some sv)) (d4 : oH.data = .cell (some (.ref d)))
    (ret : ∀ g' m' h' tk', KtsTurn [L] g g' → Fr g' L' h' m' → News g' L' h' [(d, o)] → Q (.ret (.bool true)) { s with heap := h', toks := tk' }) :
    wpAny (model PySem.Challenge.rw_sq0032_01.row.prog w) ((ktrTop dp un gd cn cs L a ccd cl []).deeper (envOfC fd.qualname fd.scope L' 334 fd.code)) (execs (body.drop 9) (envOfC fd.qualname fd.scope L' 334 fd.code)) Q E s := by
  cases (hfd : some _ = some fd)
  cases (hbody : FuncBody.stmts _ = .stmts body)
  w_on
  revert X'
  k_fill
  intro X'
  have hz : W ≤ 0 ∨ sz ≤ 100 := .inr hz1
  have hW' : ¬ W ≤ 0 := by omega
  have hz' : ¬ sz ≤ 0 := by omega
  have hgt : ¬ 2000 * W + W - 1 < sz := by omega
  have hlen := places_len (so := so) (bg := bg) (ed := ed) hz
  have hk4 : ¬ k = 4 := by omega
  have hBx := hB
  obtain ⟨t20, t21, t22, t23, t24, t25, t26, t27, t28, s20, s21, s22, s23, v24, v25, v26, v27, v28, rfl⟩ := hB
  simp only [List.drop_succ_cons, List.drop_zero]
  (try dsimp only)
  (try k_lift B')
  (try k_fold)
  k_steps
  refine StopAt.mk ?_
  rename RefsAre _ _ _ _ => hR
  rename IntsAre _ _ => hI
  (with_reducible rename News _ _ _ _ => N9)
  (with_reducible rename Fr _ _ _ _ => F9)
  refine LCp.SrcLP.ledger (by rfl) F9 N9 (.head _) (by rw [List.size_toArray, hR.length, sizeLine_eq]; omega) ?_
  intro g9
  refine comp_refsP (El := FiveB k wd ht dp_) hR ?hb (fun tl => .inr ⟨_, List.mem_append.mpr (.inl (.head _)), rfl, _, rfl⟩) ?_ ?_
  case hb => (intro p hp; repeat (first | exact hp | refine List.Mem.tail _ ?_))
  · intro k9 t9 I9 oI9 C9 oC9 D9 m9 ys9 tl9 h9 tk9 E9 hk9 hC9 hx9 hy9 F9 N9
    (try dsimp only)
    simp only [List.cons_append, List.nil_append] at N9
    k_steps
    exact ⟨_, _, _, _, rfl, ⟨_, _, _, _, _, rfl⟩, rfl, by k_asm, by k_asm, ktn_ltOf (by assumption)⟩
  intro ys tl R
  clear F9 N9
  k_steps
  refine StopAt.mk ?_
  (with_reducible rename News _ _ _ _ => N9)
  (with_reducible rename Fr _ _ _ _ => F9)
  refine LCg.CompSrc.ledger (by rfl) F9 N9 (.tail _ (.tail _ (.head _))) (by rw [List.size_toArray, hI.length, sizeLine_eq]; omega) ?_
  intro g8
  refine comp_refs (El := FiveB k wd ht dp_) hI (fun tl => .inr ⟨_, List.mem_append.mpr (.inl (.tail _ (.tail _ (.head _)))), rfl, _, rfl⟩) ?_ ?_
  · intro k9 t9 I9 oI9 C9 oC9 D9 m9 ys9 tl9 h9 tk9 E9 hk9 hC9 hx9 F9 N9
    (try dsimp only)
    simp only [List.cons_append, List.nil_append] at N9
    k_steps
    exact ⟨_, _, _, _, rfl, ⟨_, _, _, _, _, rfl⟩, rfl, by k_asm, by k_asm, ktn_ltOf (by assumption)⟩
  intro ys2 tl2 R2
  clear F9 N9
  k_steps
  refine StopAt.mk ?_
  (with_reducible rename News _ _ _ _ => N9)
  refine kqd_ne N9 (.tail _ (.head _)) rfl rfl (refs_datB R) ?sa (.head _) rfl rfl (refs_datB R2) ?sb (dats_ok _) (dats_ok _) (by ktr_units) ?_
  case sa => (intro p hp; simp only [List.mem_cons, List.mem_append]; simp only [hp, true_or, or_true])
  case sb => (intro p hp; simp only [List.mem_cons, List.mem_append]; simp only [hp, true_or, or_true])
  rw [bool_self, Bool.not_true]
  k_steps
  (with_reducible rename Fr _ _ _ _ => kF); (with_reducible rename News _ _ _ _ => kN)
  exact ret g _ _ _ KtsTurn.refl kF (one_news kN (by k_mem))
end Mine
end

section
open PySem PySem.W PyProof.Rows
namespace Mine
local macro_rules | `(tactic| k_ne) => `(tactic| first | k_extra "NE" | (refine neN ?_; (try dsimp only); omega))
local macro_rules | `(tactic| walk_at "h:S1") => `(tactic| (refine' ⟨?B, ?F, ?X, ?N, ?T, ?K⟩; (case B => k_asm); (case F => k_asm); (case X => k_asm); (case N => k_asm); (case T => k_asm); (case K => first | exact rfl | assumption)))
local macro_rules | `(tactic| walk_at "h:S2") => `(tactic| (refine' ⟨?d, ?u⟩; (case d => ktr_room); (case u => ktr_units)))
local macro_rules | `(tactic| ktr_units) => `(tactic| first | exact units3 (by assumption) (by decide) | (have hcL9 := cLine_is; (simp only [units_under_make, units_in1, units_deeper, Around.mark_units, units_caller] at *); (try dsimp only [ktrTop] at *); omega))
local macro_rules | `(tactic| k_room) => `(tactic| ktr_room)
local macro_rules | `(tactic| k_all) => `(tactic| assumption)
local macro_rules | `(tactic| walk_at "call ref") => `(tactic| k_extra "Q call ref")
local macro_rules | `(tactic| walk_at "call ref nil") => `(tactic| k_extra "Q call ref nil")
local macro_rules | `(tactic| walk_at "JoinInt") => `(tactic| (k_dflt (refine' JoinInt.intro _ _ _ _ _ ?F ?N ?S; (case F => k_asm); (case N => k_asm); (case S => first
  | (refine ⟨?_, rfl⟩; first | exact (if_pos (by assumption)).symm | exact (if_neg (by assumption)).symm | (simp_all; done))
  | exact ⟨szok1 (by assumption) (by assumption), _, by assumption, rfl⟩
  | exact ⟨szok2 (by assumption) (by assumption), _, by assumption, rfl⟩
  | exact ⟨szok3 (by assumption) (by assumption), _, by assumption, rfl⟩))))
local macro_rules | `(tactic| walk_at "eval IfExp") => `(tactic| k_extra "Q eval IfExp")
local macro_rules | `(tactic| walk_at "JoinRef") => `(tactic| ((with_reducible rename News _ _ _ _ => kN9); k_dflt (refine' JoinRef.intro _ _ _ ?F ?N; (case F => k_asm); (case N => first | exact kN9 | exact news_tl1 kN9 | exact news_tl2 kN9))))
local macro_rules | `(tactic| walk_at "exec Try") => `(tactic| (k_here; k_dflt (refine wpAny_Try_except ?_)))
theorem words_CJ_0 : True := by
  k_with_none
  k_with "PROJ" => first | exact h9.1 | exact h9 | exact h9.2.1 | exact h9.2 | exact h9.2.2.1 | exact h9.2.2 | exact h9.2.2.2.1 | exact h9.2.2.2 | exact h9.2.2.2.2.1 | exact h9.2.2.2.2 | exact h9.2.2.2.2.2.1 | exact h9.2.2.2.2.2 | exact h9.2.2.2.2.2.2.1 | exact h9.2.2.2.2.2.2 | exact h9.2.2.2.2.2.2.2.1 | exact h9.2.2.2.2.2.2.2 | exact h9.2.2.2.2.2.2.2.2.1 | exact h9.2.2.2.2.2.2.2.2 | exact h9.2.2.2.2.2.2.2.2.2.1 | exact h9.2.2.2.2.2.2.2.2.2 | exact h9.2.2.2.2.2.2.2.2.2.2.1 | exact h9.2.2.2.2.2.2.2.2.2.2 | exact h9.2.2.2.2.2.2.2.2.2.2.2.1 | exact h9.2.2.2.2.2.2.2.2.2.2.2 | exact h9.2.2.2.2.2.2.2.2.2.2.2.2.1 | exact h9.2.2.2.2.2.2.2.2.2.2.2.2 | exact h9.2.2.2.2.2.2.2.2.2.2.2.2.2.1 | exact h9.2.2.2.2.2.2.2.2.2.2.2.2.2 | exact h9.2.2.2.2.2.2.2.2.2.2.2.2.2.2.1 | exact h9.2.2.2.2.2.2.2.2.2.2.2.2.2.2 | exact h9.2.2.2.2.2.2.2.2.2.2.2.2.2.2.2.1 | exact h9.2.2.2.2.2.2.2.2.2.2.2.2.2.2.2 | exact h9.2.2.2.2.2.2.2.2.2.2.2.2.2.2.2.2.1 | exact h9.2.2.2.2.2.2.2.2.2.2.2.2.2.2.2.2 | exact h9.2.2.2.2.2.2.2.2.2.2.2.2.2.2.2.2.2.1 | exact h9.2.2.2.2.2.2.2.2.2.2.2.2.2.2.2.2.2 | exact h9.2.2.2.2.2.2.2.2.2.2.2.2.2.2.2.2.2.2.1 | exact h9.2.2.2.2.2.2.2.2.2.2.2.2.2.2.2.2.2.2 | exact h9.2.2.2.2.2.2.2.2.2.2.2.2.2.2.2.2.2.2.2.1 | exact h9.2.2.2.2.2.2.2.2.2.2.2.2.2.2.2.2.2.2.2 | exact h9.2.2.2.2.2.2.2.2.2.2.2.2.2.2.2.2.2.2.2.2.1 | exact h9.2.2.2.2.2.2.2.2.2.2.2.2.2.2.2.2.2.2.2.2 | exact h9.2.2.2.2.2.2.2.2.2.2.2.2.2.2.2.2.2.2.2.2.2.1 | exact h9.2.2.2.2.2.2.2.2.2.2.2.2.2.2.2.2.2.2.2.2.2 | exact h9.2.2.2.2.2.2.2.2.2.2.2.2.2.2.2.2.2.2.2.2.2.2.1 | exact h9.2.2.2.2.2.2.2.2.2.2.2.2.2.2.2.2.2.2.2.2.2.2 | exact h9.2.2.2.2.2.2.2.2.2.2.2.2.2.2.2.2.2.2.2.2.2.2.2.1 | exact h9.2.2.2.2.2.2.2.2.2.2.2.2.2.2.2.2.2.2.2.2.2.2.2 | exact h9.2.2.2.2.2.2.2.2.2.2.2.2.2.2.2.2.2.2.2.2.2.2.2.2.1 | exact h9.2.2.2.2.2.2.2.2.2.2.2.2.2.2.2.2.2.2.2.2.2.2.2.2
  k_with "NE" => ((try refine neN ?_); (try dsimp only); first
    | assumption
    | exact Ne.symm (by assumption)
    | exact Nat.ne_of_lt (by assumption)
    | exact Nat.ne_of_gt (by assumption)
    | exact off_ne1 _
    | exact Ne.symm (off_ne1 _)
    | exact off_ne2 _
    | exact Ne.symm (off_ne2 _)
    | exact off_ne3 _
    | exact Ne.symm (off_ne3 _)
    | exact off_ne4 _
    | exact Ne.symm (off_ne4 _)
    | exact off_ne5 _
    | exact Ne.symm (off_ne5 _)
    | (refine succ_ne ?_; k_extra "NE")
    | (refine ne_cr (by assumption) ?_; intro h9; k_extra "PROJ")
    | (refine ne_cl (by assumption) ?_; intro h9; k_extra "PROJ")
    | (refine lt_cr (by assumption) ?_; intro h9; k_extra "PROJ")
    | (refine lt_cl (by assumption) ?_; intro h9; k_extra "PROJ")
    | (refine lt_off1 ?_; first | assumption | (refine lt_c (by assumption) ?_; intro h9; k_extra "PROJ"))
    | (refine Ne.symm (lt_off1 ?_); first | assumption | (refine lt_c (by assumption) ?_; intro h9; k_extra "PROJ"))
    | (refine lt_off2 ?_; first | assumption | (refine lt_c (by assumption) ?_; intro h9; k_extra "PROJ"))
    | (refine Ne.symm (lt_off2 ?_); first | assumption | (refine lt_c (by assumption) ?_; intro h9; k_extra "PROJ"))
    | (refine lt_off3 ?_; first | assumption | (refine lt_c (by assumption) ?_; intro h9; k_extra "PROJ"))
    | (refine Ne.symm (lt_off3 ?_); first | assumption | (refine lt_c (by assumption) ?_; intro h9; k_extra "PROJ"))
    | (refine lt_off4 ?_; first | assumption | (refine lt_c (by assumption) ?_; intro h9; k_extra "PROJ"))
    | (refine Ne.symm (lt_off4 ?_); first | assumption | (refine lt_c (by assumption) ?_; intro h9; k_extra "PROJ"))
    | (refine lt_off5 ?_; first | assumption | (refine lt_c (by assumption) ?_; intro h9; k_extra "PROJ"))
    | (refine Ne.symm (lt_off5 ?_); first | assumption | (refine lt_c (by assumption) ?_; intro h9; k_extra "PROJ")))
  k_with "Q call ref" => (k_here; (with_reducible show wpAny _ _ (call (Value.ref 260) [_, _, _] _) _ _ _); k_dflt ( apply CallC.go; (case S1 => walk_at "h:S1"); (case C => (apply rule_spec; (first | (case h0 => assumption) | (· (assumption))); (first | (case h1 => assumption) | (· (assumption))); (first | (case h2 => assumption) | (· (assumption))))); (case S2 => walk_at "h:S2"); k_whole); intro r9 news9 h9 tk9 p9 F9 N9; obtain ⟨x9, d9, o9, e9, q9, l9, m9, n9⟩ := p9; subst e9; subst n9; k_lt l9; k_lt2 m9; (try dsimp only); (try k_fold))
  k_with "Q call ref" => (k_here; (with_reducible show wpAny _ _ (call (Value.ref 239) [Value.int _ _, Value.int _ _, Value.int _ _, Value.int _ _, Value.ref _] _) _ _ _); k_dflt ( apply CallC.go; (case S1 => walk_at "h:S1"); (case C => (apply box_spec; (first | (case hk0 => omega) | (· (omega))); (first | (case hk1 => omega) | (· (omega))); (first | (case a1 => omega) | (· (omega))); (first | (case a2 => omega) | (· (omega))); (first | (case b1 => omega) | (· (omega))); (first | (case b2 => omega) | (· (omega))); (first | (case c1 => omega) | (· (omega))); (first | (case c2 => omega) | (· (omega))))); (case S2 => walk_at "h:S2"); k_whole); intro r9 news9 h9 tk9 p9 F9 N9; obtain ⟨x9, d9, o9, e9, q9, l9, m9, n9⟩ := p9; subst e9; subst n9; k_lt l9; k_lt2 m9; (try dsimp only); (try k_fold))
  k_with "Q call ref nil" => (k_here; (with_reducible show wpAny _ _ (call (Value.ref 206) _ _) _ _ _); k_dflt ( apply CallC.go; (case S1 => walk_at "h:S1"); (case C => (apply glue_spec)); (case S2 => walk_at "h:S2"); k_whole); intro r9 news9 h9 tk9 p9 F9 N9; obtain ⟨x9, e9, n9⟩ := p9; subst e9; subst n9; (try dsimp only); (try k_fold))
  k_with "Q call ref" => (k_here; (with_reducible show wpAny _ _ (call (Value.ref 282) [Value.ref _, Value.int _ _, Value.ref _] _) _ _ _); k_dflt (first | (apply CallC.go; (case S1 => walk_at "h:S1"); (case C => (apply skipB_spec; (first | (case m1 => k_mem) | (· (k_mem))); (first | (case m2 => k_mem) | (· (k_mem))); (first | (case hB => assumption) | (· (assumption))); (first | (case hs1 => assumption) | (· (assumption))); (first | (case hs3 => assumption) | (· (assumption))); (first | (case hk2 => assumption) | (· (assumption))); (first | (case hk3 => assumption) | (· (assumption))))); (case S2 => walk_at "h:S2"); k_whole) | (apply CallC.go; (case S1 => walk_at "h:S1"); (case C => (apply skipR_spec; (first | (case m1 => k_mem) | (· (k_mem))); (first | (case m2 => k_mem) | (· (k_mem))); (first | (case hB => assumption) | (· (assumption))); (first | (case hs1 => assumption) | (· (assumption))); (first | (case hs3 => assumption) | (· (assumption))))); (case S2 => walk_at "h:S2"); k_whole)); intro r9 news9 h9 tk9 p9 F9 N9; obtain ⟨x9, d9, o9, e9, q9, l9, m9, n9⟩ := p9; subst e9; subst n9; k_lt l9; k_lt2 m9; (try dsimp only); (try k_fold))
  k_with "Q eval IfExp" => (k_here; (with_reducible show wpAny _ _ (eval (Expr.IfExp (Expr.Compare _ _ _ _) (Expr.List _ _) _ _) _) _ _ _); (fail_if_success (with_reducible show wpAny _ _ _ (JoinRef _ _ _ _ _) _ _)); k_dflt (apply join_ref; (case F => k_asm); (case N => k_asm); k_whole); (try (intro l9 h9 tk9 F9 N9; (try dsimp only); (try k_fold))))
  trivial
theorem news_drop {h₀ h : Heap} {L : Addr} {a : Addr × Obj} {tl led : List (Addr × Obj)} (N : News h₀ L h (a :: (tl ++ led))) : News h₀ L h (a :: led) := fun p hp => N p (by
  rcases List.mem_cons.mp hp with e | hp
  · exact e ▸ .head _
  · exact .tail _ (List.mem_append.mpr (.inr hp)))
local macro_rules | `(tactic| walk_at "exec Assign cons ListComp") => `(tactic| k_extra "Q exec Assign cons ListComp")
theorem words_CJ_1 : True := by
  k_with "Q call ref" => (k_here; (with_reducible show wpAny _ _ (call (Value.ref 291) [Value.ref _, Value.int _ _, Value.int _ _, Value.int _ _, Value.bool _] _) _ _ _); k_dflt (apply CallC.go; (case S1 => walk_at "h:S1"); (case C => (apply placesZ_spec; (first | (case q1 => k_mem) | (· (k_mem))); (first | (case q2 => k_mem) | (· (k_mem))); (first | (case hS => assumption) | (· (assumption))); (first | (case m1 => k_mem) | (· (k_mem))); (first | (case m2 => k_mem) | (· (k_mem))); (first | (case hB => assumption) | (· (assumption))); (first | (case hk4 => assumption) | (· (assumption))); (first | (case hWe => assumption) | (· (assumption))); (first | (case hW => assumption) | (· (assumption))))); (case S2 => walk_at "h:S2"); k_whole); intro r9 news9 h9 tk9 p9 F9 N9; obtain ⟨l9, vs9, n9, e9, i9, m9⟩ := p9; subst e9; subst m9; cases i9; (try k_sweep); (try dsimp only); (try k_fold))
  k_with "Q call ref" => (k_here; (with_reducible show wpAny _ _ (call (Value.ref 303) [Value.ref _, Value.int _ _, Value.int _ _, Value.int _ _, Value.bool _] _) _ _ _); k_dflt (apply CallC.go; (case S1 => walk_at "h:S1"); (case C => (apply leadersB_spec; (first | (case q1 => k_mem) | (· (k_mem))); (first | (case q2 => k_mem) | (· (k_mem))); (first | (case hS => assumption) | (· (assumption))); (first | (case m1 => k_mem) | (· (k_mem))); (first | (case m2 => k_mem) | (· (k_mem))); (first | (case hB => assumption) | (· (assumption))); (first | (case hs1 => assumption) | (· (assumption))); (first | (case hs3 => assumption) | (· (assumption))); (first | (case hk4 => assumption) | (· (assumption))); (first | (case hWe => assumption) | (· (assumption))); (first | (case hW2 => assumption) | (· (assumption))); (first | (case hz2 => assumption) | (· (assumption))); (first | (case z1 => assumption) | (· (assumption))); (first | (case z2 => assumption) | (· (assumption))); (first | (case z5 => assumption) | (· (assumption))); (first | (case z6 => assumption) | (· (assumption))))); (case S2 => walk_at "h:S2"); k_whole); intro r9 news9 h9 tk9 p9 F9 N9; obtain ⟨l9, vs9, n9, tl9, e9, i9, m9⟩ := p9; subst e9; subst m9; (rw [pl0 (by assumption)] at i9); cases i9; (replace N9 := news_drop N9); (try dsimp only); (try k_fold))
  k_with "Q exec Assign cons ListComp" => (k_here; k_dflt (refine LCp.Assign_ListComp_P (F₀ := by k_asm) (by rfl) (by with_unfolding_all rfl) (by with_unfolding_all rfl) (by decide) (by rfl) (by decide) (by rfl) (by rfl) (by decide) (by rfl) (by rfl) ?_))
  trivial
theorem stageB0 (w : World) (fd : FuncData) (body : List Stmt) (hfd : fdAt w.params 334 = some fd) (hbody : fd.body = .stmts body)
    {loose : List Str} {mean : ExcName → Option Value} {mg mb : Str → Option Value} {dp un : Nat} {gd : Option (List Code)} {cn : Str} {cs : Scope} {L a : Addr} {ccd : Value} {cl : List (Str × Addr)} {base g : Heap} {L' : Addr} {s : Shared} {mm : Str → Option Value} {Q : Flow → Shared → Prop} {E : Value → Shared → Prop}
    {x dx d : Addr} {od o o1 oL oS oH : Obj} {so k wd ht dp_ bg ed sz W : Int} {up : Bool} {sv : Value} {t1 t2 t3 t4 t5 : Tok}
    (hs1 : 1 ≤ so) (hs3 : so ≤ 3) (hB : BoxD w.params k wd ht dp_ od) (hk2 : 2 ≤ k) (hk3 : k ≤ 3) (hWe : W = if up = true then ht + dp_ else wd) (hW2 : W ≤ 200) (hz0 : W ≤ 0 ∨ sz ≤ 0) (hz : W ≤ 0 ∨ sz ≤ 100) (z1 : -100 ≤ bg) (z2 : bg ≤ 100) (z5 : -100 ≤ ed) (z6 : ed ≤ 100)
    (B' : Below (ktrTop dp un gd cn cs L a ccd cl []) base [envX cn cs L a ccd cl] g) (X' : (Mine.hd.heap_39 w.params).In g) (T' : Top Mine.hd.view_39 loose mean mg mb g) (XB : (Mine.hd.heap_39 w.params).In base) (TB : Top Mine.hd.view_39 loose mean mg mb base)
    (hk : cs.kind = .function) (hd : dp + 19 < recursionLimit) (hu : un + 8 * 19 < cLine)
    (F' : Fr g L' s.heap (fun y => if y = Str.ofString "size" then some (.int sz t1) else if y = Str.ofString "begin" then some (.int bg t2) else if y = Str.ofString "edge" then some (.int ed t3) else if y = Str.ofString "breadth" then some (.int W t4) else if y = Str.ofString "is_rule" then some (.bool false) else if y = Str.ofString "sort" then some (.int so t5) else if y = Str.ofString "upright" then some (.bool up) else mm y))
    (N' : News g L' s.heap [(x, instObj 239 dx), (dx, od), (L' + 1 + 1 + 1 + 1, o1), (L' + 1 + 1 + 1, oL), (L' + 1 + 1, oS), (L' + 1, oH), (d, o)])
    (d1 : o1.data = .cell none) (d2 : oL.data = .cell (some (.ref x))) (d3 : oS.data = .cell (some sv)) (d4 : oH.data = .cell (some (.ref d)))
    (ret : ∀ g' m' h' tk', KtsTurn [L] g g' → Fr g' L' h' m' → News g' L' h' [(d, o)] → Q (.ret (.bool true)) { s with heap := h', toks := tk' }) :
    wpAny (model PySem.Challenge.rw_sq0032_01.row.prog w) ((ktrTop dp un gd cn cs L a ccd cl []).deeper (envOfC fd.qualname fd.scope L' 334 fd.code)) (execs (body.drop 9) (envOfC fd.qualname fd.scope L' 334 fd.code)) Q E s := by
  cases (hfd : some _ = some fd)
  cases (hbody : FuncBody.stmts _ = .stmts body)
  w_on
  revert X'
  k_fill
  intro X'
  have hk4 : ¬ k = 4 := by omega
  have hBx := hB
  obtain ⟨t20, t21, t22, t23, t24, t25, t26, t27, t28, s20, s21, s22, s23, v24, v25, v26, v27, v28, rfl⟩ := hB
  simp only [List.drop_succ_cons, List.drop_zero]
  (try dsimp only)
  (try k_lift B')
  (try k_fold)
  k_steps
  all_goals ((with_reducible rename Fr _ _ _ _ => kF); (with_reducible rename News _ _ _ _ => kN); exact ret g _ _ _ KtsTurn.refl kF (one_news kN (by k_mem)))
end Mine
end

section
open PySem PySem.W PyProof.Rows
namespace Mine
local macro_rules | `(tactic| k_ne) => `(tactic| first | k_extra "NE" | (refine neN ?_; (try dsimp only); omega))
local macro_rules | `(tactic| walk_at "h:S1") => `(tactic| (refine' ⟨?B, ?F, ?X, ?N, ?T, ?K⟩; (case B => k_asm); (case F => k_asm); (case X => k_asm); (case N => k_asm); (case T => k_asm); (case K => first | exact rfl | assumption)))
local macro_rules | `(tactic| walk_at "h:S2") => `(tactic| (refine' ⟨?d, ?u⟩; (case d => ktr_room); (case u => ktr_units)))
local macro_rules | `(tactic| ktr_units) => `(tactic| first | exact units3 (by assumption) (by decide) | (have hcL9 := cLine_is; (simp only [units_under_make, units_in1, units_deeper, Around.mark_units, units_caller] at *); (try dsimp only [ktrTop] at *); omega))
local macro_rules | `(tactic| k_room) => `(tactic| ktr_room)
local macro_rules | `(tactic| k_all) => `(tactic| assumption)
theorem my_item3a {prog : Program} {w : World} {A : Around} {E : Value → Shared → Prop} {s : Shared} {value slice : Expr} {l : Addr} {n : Nat} {k : Int} {u : Tok} {x0 x1 x2 : Value} {Q : Value → Shared → Prop} {h₀ : Heap} {L : Addr} {news : List (Addr × Obj)}
    (N : News h₀ L s.heap news) (hm : (l, listOf #[x0, x1, x2] n) ∈ news) (e : k.toNat = 0) (h0 : 0 ≤ k) (hhi : k < 2 ^ 63) (h : Q x0 s)
    (hs : subscripted slice false (.ref l) (.int k u) = operate [.ref l, .int k u] (getItem (.ref l) (.int k u)) := by with_unfolding_all rfl) :
    wpAny (model prog w) A (subscriptTail value slice (.ref l) (.int k u)) Q E s := my_item N hm h0 hhi (by rw [e]; rfl) h hs
theorem my_item3b {prog : Program} {w : World} {A : Around} {E : Value → Shared → Prop} {s : Shared} {value slice : Expr} {l : Addr} {n : Nat} {k : Int} {u : Tok} {x0 x1 x2 : Value} {Q : Value → Shared → Prop} {h₀ : Heap} {L : Addr} {news : List (Addr × Obj)}
    (N : News h₀ L s.heap news) (hm : (l, listOf #[x0, x1, x2] n) ∈ news) (e : k.toNat = 1) (h0 : 0 ≤ k) (hhi : k < 2 ^ 63) (h : Q x1 s)
    (hs : subscripted slice false (.ref l) (.int k u) = operate [.ref l, .int k u] (getItem (.ref l) (.int k u)) := by with_unfolding_all rfl) :
    wpAny (model prog w) A (subscriptTail value slice (.ref l) (.int k u)) Q E s := my_item N hm h0 hhi (by rw [e]; rfl) h hs
theorem my_item3c {prog : Program} {w : World} {A : Around} {E : Value → Shared → Prop} {s : Shared} {value slice : Expr} {l : Addr} {n : Nat} {k : Int} {u : Tok} {x0 x1 x2 : Value} {Q : Value → Shared → Prop} {h₀ : Heap} {L : Addr} {news : List (Addr × Obj)}
    (N : News h₀ L s.heap news) (hm : (l, listOf #[x0, x1, x2] n) ∈ news) (e : k.toNat = 2) (h0 : 0 ≤ k) (hhi : k < 2 ^ 63) (h : Q x2 s)
    (hs : subscripted slice false (.ref l) (.int k u) = operate [.ref l, .int k u] (getItem (.ref l) (.int k u)) := by with_unfolding_all rfl) :
    wpAny (model prog w) A (subscriptTail value slice (.ref l) (.int k u)) Q E s := my_item N hm h0 hhi (by rw [e]; rfl) h hs
local macro_rules | `(tactic| walk_at "subscriptTail Name Name ref int") => `(tactic| k_extra "Q subscriptTail Name Name ref int")
theorem words_CKT_0 : True := by
  k_with_none
  k_with "PROJ" => first | exact h9.1 | exact h9 | exact h9.2.1 | exact h9.2 | exact h9.2.2.1 | exact h9.2.2 | exact h9.2.2.2.1 | exact h9.2.2.2 | exact h9.2.2.2.2.1 | exact h9.2.2.2.2 | exact h9.2.2.2.2.2.1 | exact h9.2.2.2.2.2 | exact h9.2.2.2.2.2.2.1 | exact h9.2.2.2.2.2.2 | exact h9.2.2.2.2.2.2.2.1 | exact h9.2.2.2.2.2.2.2 | exact h9.2.2.2.2.2.2.2.2.1 | exact h9.2.2.2.2.2.2.2.2 | exact h9.2.2.2.2.2.2.2.2.2.1 | exact h9.2.2.2.2.2.2.2.2.2 | exact h9.2.2.2.2.2.2.2.2.2.2.1 | exact h9.2.2.2.2.2.2.2.2.2.2 | exact h9.2.2.2.2.2.2.2.2.2.2.2.1 | exact h9.2.2.2.2.2.2.2.2.2.2.2 | exact h9.2.2.2.2.2.2.2.2.2.2.2.2.1 | exact h9.2.2.2.2.2.2.2.2.2.2.2.2 | exact h9.2.2.2.2.2.2.2.2.2.2.2.2.2.1 | exact h9.2.2.2.2.2.2.2.2.2.2.2.2.2 | exact h9.2.2.2.2.2.2.2.2.2.2.2.2.2.2.1 | exact h9.2.2.2.2.2.2.2.2.2.2.2.2.2.2 | exact h9.2.2.2.2.2.2.2.2.2.2.2.2.2.2.2.1 | exact h9.2.2.2.2.2.2.2.2.2.2.2.2.2.2.2 | exact h9.2.2.2.2.2.2.2.2.2.2.2.2.2.2.2.2.1 | exact h9.2.2.2.2.2.2.2.2.2.2.2.2.2.2.2.2 | exact h9.2.2.2.2.2.2.2.2.2.2.2.2.2.2.2.2.2.1 | exact h9.2.2.2.2.2.2.2.2.2.2.2.2.2.2.2.2.2 | exact h9.2.2.2.2.2.2.2.2.2.2.2.2.2.2.2.2.2.2.1 | exact h9.2.2.2.2.2.2.2.2.2.2.2.2.2.2.2.2.2.2 | exact h9.2.2.2.2.2.2.2.2.2.2.2.2.2.2.2.2.2.2.2.1 | exact h9.2.2.2.2.2.2.2.2.2.2.2.2.2.2.2.2.2.2.2 | exact h9.2.2.2.2.2.2.2.2.2.2.2.2.2.2.2.2.2.2.2.2.1 | exact h9.2.2.2.2.2.2.2.2.2.2.2.2.2.2.2.2.2.2.2.2 | exact h9.2.2.2.2.2.2.2.2.2.2.2.2.2.2.2.2.2.2.2.2.2.1 | exact h9.2.2.2.2.2.2.2.2.2.2.2.2.2.2.2.2.2.2.2.2.2 | exact h9.2.2.2.2.2.2.2.2.2.2.2.2.2.2.2.2.2.2.2.2.2.2.1 | exact h9.2.2.2.2.2.2.2.2.2.2.2.2.2.2.2.2.2.2.2.2.2.2 | exact h9.2.2.2.2.2.2.2.2.2.2.2.2.2.2.2.2.2.2.2.2.2.2.2.1 | exact h9.2.2.2.2.2.2.2.2.2.2.2.2.2.2.2.2.2.2.2.2.2.2.2 | exact h9.2.2.2.2.2.2.2.2.2.2.2.2.2.2.2.2.2.2.2.2.2.2.2.2.1 | exact h9.2.2.2.2.2.2.2.2.2.2.2.2.2.2.2.2.2.2.2.2.2.2.2.2
  k_with "NE" => ((try refine neN ?_); (try dsimp only); first
    | assumption
    | exact Ne.symm (by assumption)
    | exact Nat.ne_of_lt (by assumption)
    | exact Nat.ne_of_gt (by assumption)
    | exact off_ne1 _
    | exact Ne.symm (off_ne1 _)
    | exact off_ne2 _
    | exact Ne.symm (off_ne2 _)
    | exact off_ne3 _
    | exact Ne.symm (off_ne3 _)
    | exact off_ne4 _
    | exact Ne.symm (off_ne4 _)
    | exact off_ne5 _
    | exact Ne.symm (off_ne5 _)
    | (refine succ_ne ?_; k_extra "NE")
    | (refine ne_cr (by assumption) ?_; intro h9; k_extra "PROJ")
    | (refine ne_cl (by assumption) ?_; intro h9; k_extra "PROJ")
    | (refine lt_cr (by assumption) ?_; intro h9; k_extra "PROJ")
    | (refine lt_cl (by assumption) ?_; intro h9; k_extra "PROJ")
    | (refine lt_off1 ?_; first | assumption | (refine lt_c (by assumption) ?_; intro h9; k_extra "PROJ"))
    | (refine Ne.symm (lt_off1 ?_); first | assumption | (refine lt_c (by assumption) ?_; intro h9; k_extra "PROJ"))
    | (refine lt_off2 ?_; first | assumption | (refine lt_c (by assumption) ?_; intro h9; k_extra "PROJ"))
    | (refine Ne.symm (lt_off2 ?_); first | assumption | (refine lt_c (by assumption) ?_; intro h9; k_extra "PROJ"))
    | (refine lt_off3 ?_; first | assumption | (refine lt_c (by assumption) ?_; intro h9; k_extra "PROJ"))
    | (refine Ne.symm (lt_off3 ?_); first | assumption | (refine lt_c (by assumption) ?_; intro h9; k_extra "PROJ"))
    | (refine lt_off4 ?_; first | assumption | (refine lt_c (by assumption) ?_; intro h9; k_extra "PROJ"))
    | (refine Ne.symm (lt_off4 ?_); first | assumption | (refine lt_c (by assumption) ?_; intro h9; k_extra "PROJ"))
    | (refine lt_off5 ?_; first | assumption | (refine lt_c (by assumption) ?_; intro h9; k_extra "PROJ"))
    | (refine Ne.symm (lt_off5 ?_); first | assumption | (refine lt_c (by assumption) ?_; intro h9; k_extra "PROJ")))
  k_with "Q subscriptTail Name Name ref int" => (k_here; k_dflt (first | (apply my_item3a; (case N => k_asm); (case hm => k_mem); (case e => exact rfl); (case h0 => decide); (case hhi => decide); (case hs => with_unfolding_all rfl); k_whole) | (apply my_item3b; (case N => k_asm); (case hm => k_mem); (case e => exact rfl); (case h0 => decide); (case hhi => decide); (case hs => with_unfolding_all rfl); k_whole) | (apply my_item3c; (case N => k_asm); (case hm => k_mem); (case e => exact rfl); (case h0 => decide); (case hhi => decide); (case hs => with_unfolding_all rfl); k_whole)))
  trivial
theorem due_elt {w : World} {A : Around} {fd : FuncData} (hfd : fdAt w.params 334 = some fd) {h₀ h : Heap} {L I C D : Addr} {oI oC : Obj} {m m₂ : Str → Option Value} {ys : List Value} {s : Shared} {tk : Nat} {Q : Value → Shared → Prop} {E : Value → Shared → Prop} {p1 p2 p3 p4 p5 p6 p7 p8 p9 p10 p11 p12 : Pos}
    {x1 x2 x3 : Addr × Obj} {sl ld : Addr} {o8 oS : Obj} {q0 q1 q2 : Int} {r0 r1 r2 : Value} {u0 u1 u2 : Tok} {n : Nat} (j : Nat) {r : Value} {q : Int} {u tj : Tok} (hj : j < 3)
    (F : Fr h₀ L h m) (N : News h₀ L h [(I, oI), (C, oC), (D, LCg.lst ys), x1, (ld, listOf #[.int q0 u0, .int q1 u1, .int q2 u2] n), x2, (sl, LCg.lst [r0, r1, r2]), (L + 1 + 1 + 1 + 1, o8), (L + 1 + 1, oS), x3])
    (hC : LCg.NsObj oC m₂) (hx : m₂ (Str.ofString "k") = some (.int (0 + (j : Int)) tj)) (hS : SizeV r) (hr : [r0, r1, r2][j]? = some r) (hq : [Value.int q0 u0, .int q1 u1, .int q2 u2][j]? = some (.int q u))
    (d8 : o8.data = .cell (some (.ref ld))) (d3 : oS.data = .cell (some (.ref sl))) (X : (Mine.hd.heap_39 w.params).In h₀)
    (ret : ∀ y t tk', IsOr r q y → Q (.int y t) { s with heap := h, toks := tk' }) :
    wpAny (model PySem.Challenge.rw_sq0032_01.row.prog w) A (eval (.IfExp (.Compare (.Subscript (.Name (Str.ofString "sizes") p1) (.Name (Str.ofString "k") p2) p3) [.Is] [.Constant .none 0 p4] p5) (.Subscript (.Name (Str.ofString "due") p6) (.Name (Str.ofString "k") p7) p8) (.Subscript (.Name (Str.ofString "sizes") p9) (.Name (Str.ofString "k") p10) p11) p12)
      (compEnvC { kind := .function, names := [(Str.ofString ".0", .local), (Str.ofString "k", .local), (Str.ofString "due", .free), (Str.ofString "sizes", .free)], isGenerator := false, isCoroutine := false } [(Str.ofString "sizes", L + 1 + 1), (Str.ofString "due", L + 1 + 1 + 1 + 1)] C (envOfC fd.qualname fd.scope L 334 fd.code))) Q E { s with heap := h, toks := tk } := by
  cases (hfd : some _ = some fd)
  w_on
  revert X
  k_fill
  intro X
  obtain rfl | rfl | rfl : j = 0 ∨ j = 1 ∨ j = 2 := by omega
  · cases (hr : some r0 = some r)
    cases (hq : some (Value.int q0 u0) = some (.int q u))
    rcases hS with rfl | ⟨k, t, rfl, b1, b2⟩
    · k_steps
      exact ret _ _ _ (.inl ⟨rfl, rfl⟩)
    · k_steps
      exact ret _ _ _ (.inr ⟨_, rfl⟩)
  · cases (hr : some r1 = some r)
    cases (hq : some (Value.int q1 u1) = some (.int q u))
    rcases hS with rfl | ⟨k, t, rfl, b1, b2⟩
    · k_steps
      exact ret _ _ _ (.inl ⟨rfl, rfl⟩)
    · k_steps
      exact ret _ _ _ (.inr ⟨_, rfl⟩)
  · cases (hr : some r2 = some r)
    cases (hq : some (Value.int q2 u2) = some (.int q u))
    rcases hS with rfl | ⟨k, t, rfl, b1, b2⟩
    · k_steps
      exact ret _ _ _ (.inl ⟨rfl, rfl⟩)
    · k_steps
      exact ret _ _ _ (.inr ⟨_, rfl⟩)
theorem isor_eq {v : Value} {q a y : Int} (h : IsOr v q a) (k : IsOr v q y) : y = a := by
  rcases h with ⟨e, f⟩ | ⟨t, e⟩
  · rcases k with ⟨_, g⟩ | ⟨u, g⟩
    · exact g.trans f.symm
    · rw [e] at g; cases g
  · rcases k with ⟨g, _⟩ | ⟨u, g⟩
    · rw [e] at g; cases g
    · rw [e] at g; injection g with g1; exact g1.symm
local macro_rules | `(tactic| walk_at "eval ListComp IfExp cons") => `(tactic| k_extra "Q eval ListComp IfExp cons")
local macro_rules | `(tactic| walk_at "CompSrc") => `(tactic| k_extra "Q CompSrc")
local macro_rules | `(tactic| walk_at "CompEnd") => `(tactic| k_extra "Q CompEnd")
local macro_rules | `(tactic| walk_at "eval IfExp") => `(tactic| k_extra "Q eval IfExp")
theorem words_CKT_1 : True := by
  k_with "Q eval ListComp IfExp cons" => (k_here; k_dflt (refine LCg.ListComp_U (F₀ := by k_asm) (by with_unfolding_all rfl) (by decide) (by rfl) (by decide) (by rfl) ?_))
  k_with "Q CompSrc" => (k_here; k_dflt (refine LCg.CompSrc.range (by rfl) (by k_asm) (by k_asm) (by assumption) (by first | decide | rfl) (by first | rfl | decide) (by first | size_fits | exact Nat.le_of_ble_eq_true rfl) ?_; intro g'; lcg_lit))
  k_with "Q CompEnd" => (k_dflt (apply compEnd_same; (case F => k_asm); (case N => k_asm); (case off => ((simp only [LCg.Off3, and_true]); assumption)); (case hS => lcg_src); k_whole))
  k_with "Q eval IfExp" => (k_here; (with_reducible show wpAny _ _ (eval (Expr.IfExp _ _ _ _) (compEnvC _ _ _ _)) _ _ _); k_dflt (apply (due_elt (hfd := rfl)); (case F => k_asm); (case N => k_asm); (case hC => k_asm); (case hx => assumption); (case hj => decide); (case hr => exact rfl); (case hq => exact rfl); (case hS => assumption); (case d8 => assumption); (case d3 => assumption); (case X => k_asm); k_whole); intro k9 t9 tk9 i9; (try dsimp only); (try k_fold))
  trivial
noncomputable def tailOf (b : List Stmt) : Option Expr := match b.drop 13 with
  | .If _ ib _ _ :: _ => match ib.drop 3 with
    | .Return (some (.BoolOp _ [_, _, e] _)) _ :: _ => some e
    | _ => none
  | _ => none
theorem isor_tr {v : Value} {d p a : Int} (h : IsOr v d a) (q : IsOr v d p) : IsOr v p a := by
  rcases h with ⟨e, f⟩ | ⟨t, e⟩
  · rcases q with ⟨_, g⟩ | ⟨u, g⟩
    · exact .inl ⟨e, f.trans g.symm⟩
    · rw [e] at g; cases g
  · exact .inr ⟨t, e⟩
theorem bool_dec {Q : Value → Shared → Prop} {s : Shared} {xs ys : List Int} {i : Decidable (xs = ys)} (e : xs = ys) (h : Q (.bool true) s) : Q (.bool (@decide (xs = ys) i)) s := by rw [decide_eq_true e]; exact h
theorem stageT (w : World) (fd : FuncData) (body : List Stmt) (e : Expr) (hfd : fdAt w.params 334 = some fd) (hbody : fd.body = .stmts body) (he : tailOf body = some e)
    {loose : List Str} {mean : ExcName → Option Value} {mg mb : Str → Option Value} {dp un : Nat} {gd : Option (List Code)} {cn : Str} {cs : Scope} {L a : Addr} {ccd : Value} {cl : List (Str × Addr)} {base g : Heap} {L' : Addr} {s : Shared} {m : Str → Option Value} {Q : Value → Shared → Prop} {E : Value → Shared → Prop}
    {sl T ld d : Addr} {o8 oS o : Obj} {q0 q1 q2 a0 a1 a2 : Int} {r0 r1 r2 : Value} {u0 u1 u2 t0 t1 t2 : Tok} {n : Nat}
    (hv0 : SizeV r0) (hv1 : SizeV r1) (hv2 : SizeV r2) (ho0 : IsOr r0 q0 a0) (ho1 : IsOr r1 q1 a1) (ho2 : IsOr r2 q2 a2)
    (B' : Below (ktrTop dp un gd cn cs L a ccd cl []) base [envX cn cs L a ccd cl] g) (X' : (Mine.hd.heap_39 w.params).In g) (T' : Top Mine.hd.view_39 loose mean mg mb g)
    (hk : cs.kind = .function) (hd : dp + 19 < recursionLimit) (hu : un + 8 * 19 < cLine)
    (F' : Fr g L' s.heap (fun y => if y = Str.ofString "told" then some (.ref T) else m y))
    (N' : News g L' s.heap [(ld, listOf #[.int q0 u0, .int q1 u1, .int q2 u2] n), (T, tupObj [.int a0 t0, .int a1 t1, .int a2 t2]), (sl, LCg.lst [r0, r1, r2]), (L' + 1 + 1 + 1 + 1, o8), (L' + 1 + 1, oS), (d, o)])
    (d8 : o8.data = .cell (some (.ref ld))) (d3 : oS.data = .cell (some (.ref sl)))
    (ret : ∀ h' tk', Fr g L' h' (fun y => if y = Str.ofString "told" then some (.ref T) else m y) → News g L' h' [(d, o)] → Q (.bool true) { s with heap := h', toks := tk' }) :
    wpAny (model PySem.Challenge.rw_sq0032_01.row.prog w) ((ktrTop dp un gd cn cs L a ccd cl []).deeper (envOfC fd.qualname fd.scope L' 334 fd.code)) (eval e (envOfC fd.qualname fd.scope L' 334 fd.code)) Q E s := by
  cases (hfd : some _ = some fd)
  cases (hbody : FuncBody.stmts _ = .stmts body)
  cases (he : some _ = some e)
  w_on
  revert X'
  k_fill
  intro X'
  (try dsimp only)
  (try k_fold)
  k_steps
  (with_reducible rename Fr _ _ _ _ => kF)
  (with_reducible rename News _ _ _ _ => kN)
  rename IsOr r0 q0 _ => z0
  rename IsOr r1 q1 _ => z1
  rename IsOr r2 q2 _ => z2
  exact bool_dec (by rw [isor_eq ho0 z0, isor_eq ho1 z1, isor_eq ho2 z2]) (ret _ _ kF (one_news kN (by k_mem)))
end Mine
end

section
open PySem PySem.W PyProof.Rows
namespace Mine
local macro_rules | `(tactic| k_ne) => `(tactic| first | k_extra "NE" | (refine neN ?_; (try dsimp only); omega))
local macro_rules | `(tactic| walk_at "h:S1") => `(tactic| (refine' ⟨?B, ?F, ?X, ?N, ?T, ?K⟩; (case B => k_asm); (case F => k_asm); (case X => k_asm); (case N => k_asm); (case T => k_asm); (case K => first | exact rfl | assumption)))
local macro_rules | `(tactic| walk_at "h:S2") => `(tactic| (refine' ⟨?d, ?u⟩; (case d => ktr_room); (case u => ktr_units)))
local macro_rules | `(tactic| ktr_units) => `(tactic| first | exact units3 (by assumption) (by decide) | (have hcL9 := cLine_is; (simp only [units_under_make, units_in1, units_deeper, Around.mark_units, units_caller] at *); (try dsimp only [ktrTop] at *); omega))
local macro_rules | `(tactic| k_room) => `(tactic| ktr_room)
local macro_rules | `(tactic| k_all) => `(tactic| assumption)
local macro_rules | `(tactic| walk_at "call ref") => `(tactic| k_extra "Q call ref")
local macro_rules | `(tactic| walk_at "call ref nil") => `(tactic| k_extra "Q call ref nil")
local macro_rules | `(tactic| walk_at "JoinInt") => `(tactic| (k_dflt (refine' JoinInt.intro _ _ _ _ _ ?F ?N ?S; (case F => k_asm); (case N => k_asm); (case S => first
  | (refine ⟨?_, rfl⟩; first | exact (if_pos (by assumption)).symm | exact (if_neg (by assumption)).symm | (simp_all; done))
  | exact ⟨szok1 (by assumption) (by assumption), _, by assumption, rfl⟩
  | exact ⟨szok2 (by assumption) (by assumption), _, by assumption, rfl⟩
  | exact ⟨szok3 (by assumption) (by assumption), _, by assumption, rfl⟩))))
local macro_rules | `(tactic| walk_at "exec Try") => `(tactic| (k_here; k_dflt (refine wpAny_Try_except ?_)))
theorem words_CK_0 : True := by
  k_with_none
  k_with "PROJ" => first | exact h9.1 | exact h9 | exact h9.2.1 | exact h9.2 | exact h9.2.2.1 | exact h9.2.2 | exact h9.2.2.2.1 | exact h9.2.2.2 | exact h9.2.2.2.2.1 | exact h9.2.2.2.2 | exact h9.2.2.2.2.2.1 | exact h9.2.2.2.2.2 | exact h9.2.2.2.2.2.2.1 | exact h9.2.2.2.2.2.2 | exact h9.2.2.2.2.2.2.2.1 | exact h9.2.2.2.2.2.2.2 | exact h9.2.2.2.2.2.2.2.2.1 | exact h9.2.2.2.2.2.2.2.2 | exact h9.2.2.2.2.2.2.2.2.2.1 | exact h9.2.2.2.2.2.2.2.2.2 | exact h9.2.2.2.2.2.2.2.2.2.2.1 | exact h9.2.2.2.2.2.2.2.2.2.2 | exact h9.2.2.2.2.2.2.2.2.2.2.2.1 | exact h9.2.2.2.2.2.2.2.2.2.2.2 | exact h9.2.2.2.2.2.2.2.2.2.2.2.2.1 | exact h9.2.2.2.2.2.2.2.2.2.2.2.2 | exact h9.2.2.2.2.2.2.2.2.2.2.2.2.2.1 | exact h9.2.2.2.2.2.2.2.2.2.2.2.2.2 | exact h9.2.2.2.2.2.2.2.2.2.2.2.2.2.2.1 | exact h9.2.2.2.2.2.2.2.2.2.2.2.2.2.2 | exact h9.2.2.2.2.2.2.2.2.2.2.2.2.2.2.2.1 | exact h9.2.2.2.2.2.2.2.2.2.2.2.2.2.2.2 | exact h9.2.2.2.2.2.2.2.2.2.2.2.2.2.2.2.2.1 | exact h9.2.2.2.2.2.2.2.2.2.2.2.2.2.2.2.2 | exact h9.2.2.2.2.2.2.2.2.2.2.2.2.2.2.2.2.2.1 | exact h9.2.2.2.2.2.2.2.2.2.2.2.2.2.2.2.2.2 | exact h9.2.2.2.2.2.2.2.2.2.2.2.2.2.2.2.2.2.2.1 | exact h9.2.2.2.2.2.2.2.2.2.2.2.2.2.2.2.2.2.2 | exact h9.2.2.2.2.2.2.2.2.2.2.2.2.2.2.2.2.2.2.2.1 | exact h9.2.2.2.2.2.2.2.2.2.2.2.2.2.2.2.2.2.2.2 | exact h9.2.2.2.2.2.2.2.2.2.2.2.2.2.2.2.2.2.2.2.2.1 | exact h9.2.2.2.2.2.2.2.2.2.2.2.2.2.2.2.2.2.2.2.2 | exact h9.2.2.2.2.2.2.2.2.2.2.2.2.2.2.2.2.2.2.2.2.2.1 | exact h9.2.2.2.2.2.2.2.2.2.2.2.2.2.2.2.2.2.2.2.2.2 | exact h9.2.2.2.2.2.2.2.2.2.2.2.2.2.2.2.2.2.2.2.2.2.2.1 | exact h9.2.2.2.2.2.2.2.2.2.2.2.2.2.2.2.2.2.2.2.2.2.2 | exact h9.2.2.2.2.2.2.2.2.2.2.2.2.2.2.2.2.2.2.2.2.2.2.2.1 | exact h9.2.2.2.2.2.2.2.2.2.2.2.2.2.2.2.2.2.2.2.2.2.2.2 | exact h9.2.2.2.2.2.2.2.2.2.2.2.2.2.2.2.2.2.2.2.2.2.2.2.2.1 | exact h9.2.2.2.2.2.2.2.2.2.2.2.2.2.2.2.2.2.2.2.2.2.2.2.2
  k_with "NE" => ((try refine neN ?_); (try dsimp only); first
    | assumption
    | exact Ne.symm (by assumption)
    | exact Nat.ne_of_lt (by assumption)
    | exact Nat.ne_of_gt (by assumption)
    | exact off_ne1 _
    | exact Ne.symm (off_ne1 _)
    | exact off_ne2 _
    | exact Ne.symm (off_ne2 _)
    | exact off_ne3 _
    | exact Ne.symm (off_ne3 _)
    | exact off_ne4 _
    | exact Ne.symm (off_ne4 _)
    | exact off_ne5 _
    | exact Ne.symm (off_ne5 _)
    | (refine succ_ne ?_; k_extra "NE")
    | (refine ne_cr (by assumption) ?_; intro h9; k_extra "PROJ")
    | (refine ne_cl (by assumption) ?_; intro h9; k_extra "PROJ")
    | (refine lt_cr (by assumption) ?_; intro h9; k_extra "PROJ")
    | (refine lt_cl (by assumption) ?_; intro h9; k_extra "PROJ")
    | (refine lt_off1 ?_; first | assumption | (refine lt_c (by assumption) ?_; intro h9; k_extra "PROJ"))
    | (refine Ne.symm (lt_off1 ?_); first | assumption | (refine lt_c (by assumption) ?_; intro h9; k_extra "PROJ"))
    | (refine lt_off2 ?_; first | assumption | (refine lt_c (by assumption) ?_; intro h9; k_extra "PROJ"))
    | (refine Ne.symm (lt_off2 ?_); first | assumption | (refine lt_c (by assumption) ?_; intro h9; k_extra "PROJ"))
    | (refine lt_off3 ?_; first | assumption | (refine lt_c (by assumption) ?_; intro h9; k_extra "PROJ"))
    | (refine Ne.symm (lt_off3 ?_); first | assumption | (refine lt_c (by assumption) ?_; intro h9; k_extra "PROJ"))
    | (refine lt_off4 ?_; first | assumption | (refine lt_c (by assumption) ?_; intro h9; k_extra "PROJ"))
    | (refine Ne.symm (lt_off4 ?_); first | assumption | (refine lt_c (by assumption) ?_; intro h9; k_extra "PROJ"))
    | (refine lt_off5 ?_; first | assumption | (refine lt_c (by assumption) ?_; intro h9; k_extra "PROJ"))
    | (refine Ne.symm (lt_off5 ?_); first | assumption | (refine lt_c (by assumption) ?_; intro h9; k_extra "PROJ")))
  k_with "Q call ref" => (k_here; (with_reducible show wpAny _ _ (call (Value.ref 260) [_, _, _] _) _ _ _); k_dflt ( apply CallC.go; (case S1 => walk_at "h:S1"); (case C => (apply rule_spec; (first | (case h0 => assumption) | (· (assumption))); (first | (case h1 => assumption) | (· (assumption))); (first | (case h2 => assumption) | (· (assumption))))); (case S2 => walk_at "h:S2"); k_whole); intro r9 news9 h9 tk9 p9 F9 N9; obtain ⟨x9, d9, o9, e9, q9, l9, m9, n9⟩ := p9; subst e9; subst n9; k_lt l9; k_lt2 m9; (try dsimp only); (try k_fold))
  k_with "Q call ref" => (k_here; (with_reducible show wpAny _ _ (call (Value.ref 239) [Value.int _ _, Value.int _ _, Value.int _ _, Value.int _ _, Value.ref _] _) _ _ _); k_dflt ( apply CallC.go; (case S1 => walk_at "h:S1"); (case C => (apply box_spec; (first | (case hk0 => omega) | (· (omega))); (first | (case hk1 => omega) | (· (omega))); (first | (case a1 => omega) | (· (omega))); (first | (case a2 => omega) | (· (omega))); (first | (case b1 => omega) | (· (omega))); (first | (case b2 => omega) | (· (omega))); (first | (case c1 => omega) | (· (omega))); (first | (case c2 => omega) | (· (omega))))); (case S2 => walk_at "h:S2"); k_whole); intro r9 news9 h9 tk9 p9 F9 N9; obtain ⟨x9, d9, o9, e9, q9, l9, m9, n9⟩ := p9; subst e9; subst n9; k_lt l9; k_lt2 m9; (try dsimp only); (try k_fold))
  k_with "Q call ref nil" => (k_here; (with_reducible show wpAny _ _ (call (Value.ref 206) _ _) _ _ _); k_dflt ( apply CallC.go; (case S1 => walk_at "h:S1"); (case C => (apply glue_spec)); (case S2 => walk_at "h:S2"); k_whole); intro r9 news9 h9 tk9 p9 F9 N9; obtain ⟨x9, e9, n9⟩ := p9; subst e9; subst n9; (try dsimp only); (try k_fold))
  k_with "Q call ref" => (k_here; (with_reducible show wpAny _ _ (call (Value.ref 282) [Value.ref _, Value.int _ _, Value.ref _] _) _ _ _); k_dflt (first | (apply CallC.go; (case S1 => walk_at "h:S1"); (case C => (apply skipB_spec; (first | (case m1 => k_mem) | (· (k_mem))); (first | (case m2 => k_mem) | (· (k_mem))); (first | (case hB => assumption) | (· (assumption))); (first | (case hs1 => assumption) | (· (assumption))); (first | (case hs3 => assumption) | (· (assumption))); (first | (case hk2 => assumption) | (· (assumption))); (first | (case hk3 => assumption) | (· (assumption))))); (case S2 => walk_at "h:S2"); k_whole) | (apply CallC.go; (case S1 => walk_at "h:S1"); (case C => (apply skipR_spec; (first | (case m1 => k_mem) | (· (k_mem))); (first | (case m2 => k_mem) | (· (k_mem))); (first | (case hB => assumption) | (· (assumption))); (first | (case hs1 => assumption) | (· (assumption))); (first | (case hs3 => assumption) | (· (assumption))))); (case S2 => walk_at "h:S2"); k_whole)); intro r9 news9 h9 tk9 p9 F9 N9; obtain ⟨x9, d9, o9, e9, q9, l9, m9, n9⟩ := p9; subst e9; subst n9; k_lt l9; k_lt2 m9; (try dsimp only); (try k_fold))
  trivial
theorem compEnd_new {h₀ : Heap} {L I C D T : Addr} {m : Str → Option Value} {s₁ : Shared} {oI oC oD oT : Obj} {S : List (Addr × Obj) → Prop} {rest : Value → List (Addr × Obj) → Prop} {y : Value} {h' : Heap} {tk : Nat} {news' : List (Addr × Obj)} {more : Prop}
    (F : Fr h₀ L h' m) (N : News h₀ L h' ((T, oT) :: (I, oI) :: (C, oC) :: (D, oD) :: news')) (l : I < T ∧ C < T ∧ D < T ∧ more) (off : LCg.Off3 I C D news') (hS : S ((T, oT) :: news')) (r : rest y ((T, oT) :: news')) : LCg.CompEnd h₀ L m s₁ I oI C oC D oD S rest y { s₁ with heap := h', toks := tk } :=
  ⟨h', tk, (T, oT) :: news', rfl, F, fun p hp => N p (by
    rcases List.mem_cons.mp hp with e | hp
    · exact e ▸ .tail _ (.head _)
    rcases List.mem_cons.mp hp with e | hp
    · exact e ▸ .tail _ (.tail _ (.head _))
    rcases List.mem_cons.mp hp with e | hp
    · exact e ▸ .tail _ (.tail _ (.tail _ (.head _)))
    rcases List.mem_cons.mp hp with e | hp
    · exact e ▸ .head _
    · exact .tail _ (.tail _ (.tail _ (.tail _ hp)))), ⟨⟨Ne.symm (Nat.ne_of_lt l.1), Ne.symm (Nat.ne_of_lt l.2.1), Ne.symm (Nat.ne_of_lt l.2.2.1)⟩, off⟩, hS, r⟩
theorem cell_ne {h₀ h : Heap} {L l c : Addr} {ol oc : Obj} {xs : Array Value} {n : Nat} {news : List (Addr × Obj)} (hd : oc.data = .cell none) (N : News h₀ L h news) (h2 : (c, oc) ∈ news) (h1 : (l, ol) ∈ news) (hs : ol.data = .seq xs n) : @Ne Nat l c := fun e => by
  have a := (N _ h1).1
  have b := (N _ h2).1
  have a' : h.get? l = some ol := a
  have b' : h.get? c = some oc := b
  rw [e, b'] at a'
  injection a' with q
  rw [← q, hd] at hs
  cases hs
theorem cell_all {h₀ h : Heap} {L c : Addr} {oc : Obj} {news : List (Addr × Obj)} (N : News h₀ L h news) (hd : oc.data = .cell none) (h2 : (c, oc) ∈ news) : ∀ p ∈ news, p.2.data ≠ .cell none → p.1 ≠ c := fun p hp hn e => by
  have a := (N p hp).1
  have b := (N _ h2).1
  have b' : h.get? c = some oc := b
  rw [e, b'] at a
  injection a with q
  exact hn (q ▸ hd)
theorem ret_dec {Q : Flow → Shared → Prop} {s : Shared} {xs ys : List Int} {i : Decidable (xs = ys)} (e : xs = ys) (h : Q (.ret (.bool true)) s) : Q (.ret (.bool (@decide (xs = ys) i))) s := by rw [decide_eq_true e]; exact h
def datOf : Value → Dat
  | .int k _ => .int k
  | _ => .none
theorem datIn_size {n : List (Addr × Obj)} {v : Value} (h : SizeV v) : DatIn n v (datOf v) := by
  rcases h with rfl | ⟨k, t, rfl, _, _⟩
  · exact .none
  · exact .int _ _
theorem dat_ok {v : Value} (h : SizeV v) : kqdOk 7 (datOf v) = true := by rcases h with rfl | ⟨k, t, rfl, _, _⟩ <;> rfl
theorem rows_one_eq {prog : Program} {w : World} {A : Around} {E : Value → Shared → Prop} {s : Shared} {Q : Value → Shared → Prop} {h₀ : Heap} {L a b T T' : Addr} {oa ob : Obj} {ka kb : Nat} {news : List (Addr × Obj)} {p q : Int} {t1 t2 u1 u2 : Tok} {r0 r1 r2 : Value}
    (h0 : SizeV r0) (h1 : SizeV r1) (h2 : SizeV r2) (N : News h₀ L s.heap news) (ma : (a, oa) ∈ news) (ca : oa.cls = .type "list") (da : oa.data = .seq [Value.ref T].toArray ka) (mT : (T, tupObj [.int p t1, .int q t2, r0, r1, r2]) ∈ news)
    (mb : (b, ob) ∈ news) (cb : ob.cls = .type "list") (db : ob.data = .seq [Value.ref T'].toArray kb) (mT' : (T', tupObj [.int p u1, .int q u2, r0, r1, r2]) ∈ news) (hu : A.units + 64 < cLine) (h : Q (.bool true) s) : wpAny (model prog w) A (compareOp .Eq (.ref a) (.ref b)) Q E s := by
  have ok : ∀ d ∈ [Dat.tuple [.int p, .int q, datOf r0, datOf r1, datOf r2]], kqdOk 8 d = true := fun d hd => by
    rw [List.mem_singleton.mp hd]
    show (([Dat.int p, .int q, datOf r0, datOf r1, datOf r2]).all (kqdOk 7)) = true
    simp only [List.all_cons, List.all_nil, dat_ok h0, dat_ok h1, dat_ok h2, Bool.and_true]
    rfl
  refine kqd_eq N ma ca da (.cons (.tuple mT (.cons (.int _ _) (.cons (.int _ _) (.cons (datIn_size h0) (.cons (datIn_size h1) (.cons (datIn_size h2) .nil)))))) .nil) (fun _ h => h) mb cb db (.cons (.tuple mT' (.cons (.int _ _) (.cons (.int _ _) (.cons (datIn_size h0) (.cons (datIn_size h1) (.cons (datIn_size h2) .nil)))))) .nil) (fun _ h => h) ok ok hu ?_
  rw [bool_self]
  exact h
/-- a list of none or one pair, its objects written out -/
inductive PairLed (h₀ : Heap) (L : Addr) (h : Heap) (lx : Addr) (l : Addr) (n : Nat) (led : List (Addr × Obj)) : List Int → List Value → Prop
  | nil : News h₀ L h ((l, listOf #[] n) :: led) → PairLed h₀ L h lx l n led [] []
  | one (T : Addr) (p : Int) (t : Tok) : News h₀ L h ((l, listOf #[.ref T] n) :: (T, tupObj [.int p t, .ref lx]) :: led) → PairLed h₀ L h lx l n led [p] [.ref T]
theorem led_two {h₀ h : Heap} {L lx l : Addr} {n : Nat} {tl led : List (Addr × Obj)} {vs : List Value} {ps : List Int} (R : RefsAre (PairEl lx) tl vs ps) (N : News h₀ L h ((l, listOf vs.toArray n) :: (tl ++ led))) (hp : ps.length ≤ 1) : PairLed h₀ L h lx l n led ps vs := by
  cases R with
  | nil => exact .nil fun p hp => N p (by
      rcases List.mem_cons.mp hp with e | hp
      · exact e ▸ .head _
      · exact .tail _ (List.mem_append.mpr (.inr hp)))
  | cons a b c =>
    cases c with
    | nil =>
      obtain ⟨t, rfl⟩ := b
      exact .one _ _ t fun p hp => N p (by
        rcases List.mem_cons.mp hp with e | hp
        · exact e ▸ .head _
        rcases List.mem_cons.mp hp with e | hp
        · exact .tail _ (List.mem_append.mpr (.inl (e ▸ a)))
        · exact .tail _ (List.mem_append.mpr (.inr hp)))
    | cons a' b' c' => simp at hp
local macro_rules | `(tactic| walk_at "CompEnd ref") => `(tactic| k_extra "Q CompEnd ref")
theorem words_CK_1 : True := by
  k_with "Q CompEnd ref" => (k_dflt (apply compEnd_new; (case F => k_asm); (case N => k_asm); (case l => assumption); (case off => ((simp only [LCg.Off3, and_true]); assumption)); (case hS => lcg_src); k_whole))
  trivial
theorem size_handed {v : Value} (h : SizeV v) : handedIn v = true := by rcases h with rfl | ⟨k, t, rfl, _, _⟩ <;> rfl
local macro_rules | `(tactic| walk_at "getAttr ref") => `(tactic| (k_here; k_dflt (refine' get_own ?k1 ?k2 ?k3 ?k4 ?k5 ?k6 ?k7 ?k8 ?k9 ?_; (case k1 => k_asm); (case k2 => k_asm); (case k3 => k_inst); (case k4 => k_is); (case k5 => k_is); (case k6 => k_is); (case k7 => k_is); (case k8 => k_get); (case k9 => (exact size_handed (by assumption))); k_whole)))
local macro_rules | `(tactic| walk_at "compareOp Eq ref ref") => `(tactic| k_extra "Q compareOp Eq ref ref")
local macro_rules | `(tactic| walk_at "storeName ref") => `(tactic| (k_here; (with_reducible show wpAny _ _ (storeName _ (Str.ofString "due") _) _ _ _); refine stop_of ?_))
local macro_rules | `(tactic| walk_at "exec Assign cons ListComp") => `(tactic| k_extra "Q exec Assign cons ListComp")
local macro_rules | `(tactic| walk_at "eval Compare") => `(tactic| (k_here; (with_reducible show wpAny _ _ (eval (Expr.Compare (Expr.Call _ _ _ _) _ _ _) _) _ _ _); refine stop_of ?_))
theorem words_CK_2 : True := by
  k_with "Q compareOp Eq ref ref" => (k_here; k_dflt (apply rows_one_eq; (case N => k_asm); (case ma => k_mem); (case mb => k_mem); (case ca => exact rfl); (case cb => exact rfl); (case da => exact rfl); (case db => exact rfl); (case mT => k_mem); (case mT' => k_mem); (case h0 => assumption); (case h1 => assumption); (case h2 => assumption); (case hu => ktr_units); k_whole))
  k_with "Q call ref" => (k_here; (with_reducible show wpAny _ _ (call (Value.ref 291) [Value.ref _, Value.int _ _, Value.int _ _, Value.int _ _, Value.bool _] _) _ _ _); k_dflt (apply CallC.go; (case S1 => walk_at "h:S1"); (case C => (apply placesR_spec; (first | (case q1 => k_mem) | (· (k_mem))); (first | (case q2 => k_mem) | (· (k_mem))); (first | (case hS => assumption) | (· (assumption))); (first | (case m1 => k_mem) | (· (k_mem))); (first | (case m2 => k_mem) | (· (k_mem))); (first | (case hB => assumption) | (· (assumption))))); (case S2 => walk_at "h:S2"); k_whole); intro r9 news9 h9 tk9 p9 F9 N9; obtain ⟨l9, vs9, n9, e9, i9, m9⟩ := p9; subst e9; subst m9; cases i9; (try k_sweep); (try dsimp only); (try k_fold))
  k_with "Q call ref" => (k_here; (with_reducible show wpAny _ _ (call (Value.ref 303) [Value.ref _, Value.int _ _, Value.int _ _, Value.int _ _, Value.bool _] _) _ _ _); k_dflt (apply CallC.go; (case S1 => walk_at "h:S1"); (case C => (apply leadersR_spec; (first | (case q1 => k_mem) | (· (k_mem))); (first | (case q2 => k_mem) | (· (k_mem))); (first | (case hS => assumption) | (· (assumption))); (first | (case m1 => k_mem) | (· (k_mem))); (first | (case m2 => k_mem) | (· (k_mem))); (first | (case hB => assumption) | (· (assumption))))); (case S2 => walk_at "h:S2"); k_whole); intro r9 news9 h9 tk9 p9 F9 N9; obtain ⟨l9, vs9, n9, tl9, e9, i9, m9⟩ := p9; subst e9; subst m9; (replace N9 := led_two i9 N9 (by split <;> simp)); (try dsimp only); (try k_fold); refine stop_of ?_)
  k_with "Q exec Assign cons ListComp" => (k_here; k_dflt (refine LCp.Assign_ListComp_P (F₀ := by k_asm) (by rfl) (by with_unfolding_all rfl) (by with_unfolding_all rfl) (by decide) (by rfl) (by decide) (by rfl) (by rfl) (by decide) (by rfl) (by rfl) ?_))
  k_with "Q call ref" => (k_here; (with_reducible show wpAny _ _ (call (Value.ref 298) [Value.ref _, Value.ref _] _) _ _ _); k_dflt (apply CallC.go; (case S1 => walk_at "h:S1"); (case C => (apply rsizes_spec; (first | (case q1 => k_mem) | (· (k_mem))); (first | (case q2 => k_mem) | (· (k_mem))); (first | (case hS => assumption) | (· (assumption))); (first | (case m1 => k_mem) | (· (k_mem))); (first | (case m2 => k_mem) | (· (k_mem))); (first | (case hB => assumption) | (· (assumption))); (first | (case h0 => assumption) | (· (assumption))); (first | (case h1 => assumption) | (· (assumption))); (first | (case h2 => assumption) | (· (assumption))))); (case S2 => walk_at "h:S2"); k_whole); intro r9 news9 h9 tk9 p9 F9 N9; obtain ⟨T9, a9, b9, c9, ta9, tb9, tc9, e9, i9, j9, k9, m9⟩ := p9; subst e9; subst m9; (try k_sweep); (try dsimp only); (try k_fold))
  trivial
theorem news_sub {h₀ h : Heap} {L : Addr} {small big : List (Addr × Obj)} (S : List.Sublist small big) (N : News h₀ L h big) : News h₀ L h small := fun p hp => N p (S.subset hp)
theorem news6 {h₀ h : Heap} {L : Addr} {p1 p2 p3 p4 p5 p6 : Addr × Obj} {led : List (Addr × Obj)} (N : News h₀ L h led) (m1 : p1 ∈ led) (m2 : p2 ∈ led) (m3 : p3 ∈ led) (m4 : p4 ∈ led) (m5 : p5 ∈ led) (m6 : p6 ∈ led) : News h₀ L h [p1, p2, p3, p4, p5, p6] := fun p hp => by
  rcases List.mem_cons.mp hp with e | hp
  · exact N p (e ▸ m1)
  rcases List.mem_cons.mp hp with e | hp
  · exact N p (e ▸ m2)
  rcases List.mem_cons.mp hp with e | hp
  · exact N p (e ▸ m3)
  rcases List.mem_cons.mp hp with e | hp
  · exact N p (e ▸ m4)
  rcases List.mem_cons.mp hp with e | hp
  · exact N p (e ▸ m5)
  · exact N p (List.mem_singleton.mp hp ▸ m6)
theorem stageR (w : World) (fd : FuncData) (body : List Stmt) (hfd : fdAt w.params 334 = some fd) (hbody : fd.body = .stmts body)
    {loose : List Str} {mean : ExcName → Option Value} {mg mb : Str → Option Value} {dp un : Nat} {gd : Option (List Code)} {cn : Str} {cs : Scope} {L a : Addr} {ccd : Value} {cl : List (Str × Addr)} {base g : Heap} {L' : Addr} {s : Shared} {mm : Str → Option Value} {Q : Flow → Shared → Prop} {E : Value → Shared → Prop}
    {x dx d : Addr} {od o o1 oL oS oH : Obj} {so bg ed sz W p0 p1 p2 : Int} {r0 r1 r2 : Value} {u0 u1 u2 : Tok} {sl pl : Addr} {up : Bool} {t1 t2 t3 t4 t5 : Tok}
    (hod : o.data ≠ .cell none) (hs1 : 1 ≤ so) (hs3 : so ≤ 3) (hB : RuleD w.params r0 r1 r2 od) (hv0 : SizeV r0) (hv1 : SizeV r1) (hv2 : SizeV r2) (ho0 : IsOr r0 0 p0) (ho1 : IsOr r1 0 p1) (ho2 : IsOr r2 0 p2)
    (B' : Below (ktrTop dp un gd cn cs L a ccd cl []) base [envX cn cs L a ccd cl] g) (X' : (Mine.hd.heap_39 w.params).In g) (T' : Top Mine.hd.view_39 loose mean mg mb g) (XB : (Mine.hd.heap_39 w.params).In base) (TB : Top Mine.hd.view_39 loose mean mg mb base)
    (hk : cs.kind = .function) (hd : dp + 19 < recursionLimit) (hu : un + 8 * 19 < cLine)
    (F' : Fr g L' s.heap (fun y => if y = Str.ofString "size" then some (.int sz t1) else if y = Str.ofString "begin" then some (.int bg t2) else if y = Str.ofString "edge" then some (.int ed t3) else if y = Str.ofString "breadth" then some (.int W t4) else if y = Str.ofString "is_rule" then some (.bool true) else if y = Str.ofString "plain" then some (.ref pl) else if y = Str.ofString "sort" then some (.int so t5) else if y = Str.ofString "upright" then some (.bool up) else mm y))
    (N' : News g L' s.heap [(x, instObj 260 dx), (dx, od), (pl, LCg.lst [.int p0 u0, .int p1 u1, .int p2 u2]), (sl, LCg.lst [r0, r1, r2]), (L' + 1 + 1 + 1 + 1, o1), (L' + 1 + 1 + 1, oL), (L' + 1 + 1, oS), (L' + 1, oH), (d, o)])
    (d1 : o1.data = .cell none) (d2 : oL.data = .cell (some (.ref x))) (d3 : oS.data = .cell (some (.ref sl))) (d4 : oH.data = .cell (some (.ref d)))
    (ret : ∀ g' m' h' tk', KtsTurn [L] g g' → Fr g' L' h' m' → News g' L' h' [(d, o)] → Q (.ret (.bool true)) { s with heap := h', toks := tk' }) :
    wpAny (model PySem.Challenge.rw_sq0032_01.row.prog w) ((ktrTop dp un gd cn cs L a ccd cl []).deeper (envOfC fd.qualname fd.scope L' 334 fd.code)) (execs (body.drop 9) (envOfC fd.qualname fd.scope L' 334 fd.code)) Q E s := by
  cases (hfd : some _ = some fd)
  cases (hbody : FuncBody.stmts _ = .stmts body)
  w_on
  revert X'
  k_fill
  intro X'
  have hBx := hB
  obtain ⟨t20, t21, t22, rfl⟩ := hB
  simp only [List.drop_succ_cons, List.drop_zero]
  (try dsimp only)
  (try k_lift B')
  (try k_fold)
  k_steps
  all_goals (refine StopAt.mk ?_; rename PairLed _ _ _ _ _ _ _ _ _ => hP)
  · rw [if_neg (by omega)] at hP
    cases hP
    rename News _ _ _ _ => N9
    k_steps
    all_goals (
      refine StopAt.mk ?_
      (with_reducible rename Fr _ _ _ _ => kF)
      (with_reducible rename News _ _ _ _ => kN0)
      have kN := news_sub (.cons₂ _ (.cons₂ _ (.cons _ (.cons _ (.cons _ (.cons₂ _ (.cons₂ _ (.cons _ (.cons _ (.cons₂ _ (.cons₂ _ (.cons₂ _ (.cons _ (.cons _ (.cons _ (.cons _ (.cons _ (.cons₂ _ (.cons₂ _ (.cons _ (.cons₂ _ (.cons _ (.cons₂ _ .slnil))))))))))))))))))))))) kN0
      clear kN0
      have hN := cell_all kN d1 (by k_mem)
      refine' storeX_C kF kN rfl (o := o1) ?U d1 ?_ rfl rfl
      case U => (repeat (first
        | (apply UpdF.tail; (exact hN _ (by k_mem) (by intro h; cases h)))
        | exact UpdF.head (List.forall_mem_cons.mpr ⟨hN _ (by k_mem) (by rw [d3]; intro h; cases h), List.forall_mem_cons.mpr ⟨hN _ (by k_mem) hod, List.forall_mem_nil _⟩⟩)))
      clear hN kF kN
      intro h8 o8 F8 N8 d8
      (try dsimp only at N8)
      (try dsimp only))
    all_goals (
      k_steps
      refine StopAt.mk ?_
      (with_reducible rename Fr _ _ _ _ => kF)
      (with_reducible rename News _ _ _ _ => kN)
      have kF2 := fr_put kF (x := Str.ofString "told") rfl
      rename IsOr r0 _ _ => z0
      rename IsOr r1 _ _ => z1
      rename IsOr r2 _ _ => z2
      refine stageT w _ _ _ rfl rfl rfl hv0 hv1 hv2 (by first | exact isor_tr z0 ho0 | exact z0) (by first | exact isor_tr z1 ho1 | exact z1) (by first | exact isor_tr z2 ho2 | exact z2) B' X' T' hk hd hu kF2 (news6 (p6 := (d, o)) kN (by k_mem) (by k_mem) (by k_mem) (by k_mem) (by k_mem) (by k_mem)) d8 d3 ?_
      clear kF kN kF2
      intro h9 tk9 F9 N9
      (try dsimp only)
      k_steps
      exact ret g _ _ _ KtsTurn.refl F9 N9)
  · rw [if_pos (by omega)] at hP
    cases hP
    rename News _ _ _ _ => N9
    k_steps
    all_goals (
      refine StopAt.mk ?_
      (with_reducible rename Fr _ _ _ _ => kF)
      (with_reducible rename News _ _ _ _ => kN0)
      have kN := news_sub (.cons₂ _ (.cons₂ _ (.cons _ (.cons _ (.cons _ (.cons₂ _ (.cons _ (.cons₂ _ (.cons₂ _ (.cons _ (.cons _ (.cons _ (.cons _ (.cons _ (.cons₂ _ (.cons₂ _ (.cons _ (.cons₂ _ (.cons _ (.cons₂ _ .slnil)))))))))))))))))))) kN0
      clear kN0
      have hN := cell_all kN d1 (by k_mem)
      refine' storeX_C kF kN rfl (o := o1) ?U d1 ?_ rfl rfl
      case U => (repeat (first
        | (apply UpdF.tail; (exact hN _ (by k_mem) (by intro h; cases h)))
        | exact UpdF.head (List.forall_mem_cons.mpr ⟨hN _ (by k_mem) (by rw [d3]; intro h; cases h), List.forall_mem_cons.mpr ⟨hN _ (by k_mem) hod, List.forall_mem_nil _⟩⟩)))
      clear hN kF kN
      intro h8 o8 F8 N8 d8
      (try dsimp only at N8)
      (try dsimp only))
    all_goals (
      k_steps
      refine StopAt.mk ?_
      (with_reducible rename Fr _ _ _ _ => kF)
      (with_reducible rename News _ _ _ _ => kN)
      have kF2 := fr_put kF (x := Str.ofString "told") rfl
      rename IsOr r0 _ _ => z0
      rename IsOr r1 _ _ => z1
      rename IsOr r2 _ _ => z2
      refine stageT w _ _ _ rfl rfl rfl hv0 hv1 hv2 (by first | exact isor_tr z0 ho0 | exact z0) (by first | exact isor_tr z1 ho1 | exact z1) (by first | exact isor_tr z2 ho2 | exact z2) B' X' T' hk hd hu kF2 (news6 (p6 := (d, o)) kN (by k_mem) (by k_mem) (by k_mem) (by k_mem) (by k_mem) (by k_mem)) d8 d3 ?_
      clear kF kN kF2
      intro h9 tk9 F9 N9
      (try dsimp only)
      k_steps
      exact ret g _ _ _ KtsTurn.refl F9 N9)
end Mine
end

section
open PySem PySem.W PyProof.Rows
namespace Mine
local macro_rules | `(tactic| k_ne) => `(tactic| first | k_extra "NE" | (refine neN ?_; (try dsimp only); omega))
local macro_rules | `(tactic| walk_at "h:S1") => `(tactic| (refine' ⟨?B, ?F, ?X, ?N, ?T, ?K⟩; (case B => k_asm); (case F => k_asm); (case X => k_asm); (case N => k_asm); (case T => k_asm); (case K => first | exact rfl | assumption)))
local macro_rules | `(tactic| walk_at "h:S2") => `(tactic| (refine' ⟨?d, ?u⟩; (case d => ktr_room); (case u => ktr_units)))
local macro_rules | `(tactic| ktr_units) => `(tactic| first | exact units3 (by assumption) (by decide) | (have hcL9 := cLine_is; (simp only [units_under_make, units_in1, units_deeper, Around.mark_units, units_caller] at *); (try dsimp only [ktrTop] at *); omega))
local macro_rules | `(tactic| k_room) => `(tactic| ktr_room)
local macro_rules | `(tactic| k_all) => `(tactic| assumption)
theorem isr_t {k : Int} (h : k = 0) : some (Value.bool (k == 0)) = some (Value.bool true) := by subst h; rfl
theorem isr_f {k : Int} (h : k ≠ 0) : some (Value.bool (k == 0)) = some (Value.bool false) := by rw [beq_false_of_ne h]
theorem so1 {k : Int} (h : 0 ≤ k) : 1 ≤ 1 + k := by omega
theorem so3 {k : Int} (h : k < 3) : 1 + k ≤ 3 := by omega
theorem bx2 {k : Int} (h : 0 ≤ k) : 2 ≤ 2 + k := by omega
theorem bx3 {k : Int} (h : k < 2) : 2 + k ≤ 3 := by omega
theorem bg1 {k : Int} (h : 0 ≤ k) : -100 ≤ k - 10 := by omega
theorem bg2 {k : Int} (h : k < 40) : k - 10 ≤ 100 := by omega
theorem ed1 {k : Int} (h : 0 ≤ k) : -100 ≤ k - 20 := by omega
theorem ed2 {k : Int} (h : k < 30) : k - 20 ≤ 100 := by omega
theorem w_le {W p0 p1 p2 : Int} {up : Bool} (h : W = if up = true then p1 + p2 else p0) (b0 : p0 ≤ 12) (b1 : p1 ≤ 12) (b2 : p2 ≤ 12) : W ≤ 200 := by subst h; split <;> omega
theorem heap_data {B : Int} {o : Obj} (h : HeapIs B o) : o.data ≠ .cell none := by
  obtain ⟨x, y, tx, ty, n, rfl, _⟩ := h
  intro e; cases e
theorem turn_back {h₀ h g h' : Heap} {L d : Addr} {o o' : Obj} {rest : List (Addr × Obj)} (N : News h₀ L h ((d, o) :: rest)) (hrest : ∀ p ∈ rest, p.1 ≠ d) (kG : GSub h g ([(d, o)].map (·.1))) (N' : News h₀ L h' [(d, o')]) (other : ∀ b o, b ≠ L → g.get? b = some o → h'.get? b = some o) : News h₀ L h' ((d, o') :: rest) := fun p hp => by
  rcases List.mem_cons.mp hp with e | hp
  · exact N' p (e ▸ .head _)
  · have z := N p (.tail _ hp)
    exact ⟨other _ _ z.2.1 (kG _ _ z.1 fun hm => hrest p hp (List.mem_singleton.mp hm)), z.2⟩
theorem pickR {h₀ h : Heap} {L : Addr} {t0 t1 x dx pl sl c4 c3 c2 c1 d : Addr × Obj} (N : News h₀ L h [t0, x, dx, pl, sl, t1, c4, c3, c2, c1, d]) : News h₀ L h [x, dx, pl, sl, c4, c3, c2, c1, d] := fun p hp => N p (by
  simp only [List.mem_cons, List.not_mem_nil, or_false] at hp ⊢
  rcases hp with h | h | h | h | h | h | h | h | h <;> simp only [h, true_or, or_true])
theorem pickB {h₀ h : Heap} {L : Addr} {t0 t1 x dx nl pl sl c4 c3 c2 c1 d : Addr × Obj} (N : News h₀ L h [t0, x, dx, nl, pl, sl, t1, c4, c3, c2, c1, d]) : News h₀ L h [x, dx, c4, c3, c2, c1, d] := fun p hp => N p (by
  simp only [List.mem_cons, List.not_mem_nil, or_false] at hp ⊢
  rcases hp with h | h | h | h | h | h | h <;> simp only [h, true_or, or_true])
theorem stageB (w : World) (fd : FuncData) (body : List Stmt) (hfd : fdAt w.params 334 = some fd) (hbody : fd.body = .stmts body)
    {loose : List Str} {mean : ExcName → Option Value} {mg mb : Str → Option Value} {dp un : Nat} {gd : Option (List Code)} {cn : Str} {cs : Scope} {L a : Addr} {ccd : Value} {cl : List (Str × Addr)} {base g : Heap} {L' : Addr} {s : Shared} {mm : Str → Option Value} {Q : Flow → Shared → Prop} {E : Value → Shared → Prop}
    {x dx d : Addr} {od o o1 oL oS oH : Obj} {so k wd ht dp_ bg ed sz W : Int} {up : Bool} {sv : Value} {t1 t2 t3 t4 t5 : Tok}
    (hs1 : 1 ≤ so) (hs3 : so ≤ 3) (hB : BoxD w.params k wd ht dp_ od) (hk2 : 2 ≤ k) (hk3 : k ≤ 3) (hWe : W = if up = true then ht + dp_ else wd) (hW2 : W ≤ 200) (hsz : SzOk W sz) (z1 : -100 ≤ bg) (z2 : bg ≤ 100) (z5 : -100 ≤ ed) (z6 : ed ≤ 100)
    (B' : Below (ktrTop dp un gd cn cs L a ccd cl []) base [envX cn cs L a ccd cl] g) (X' : (Mine.hd.heap_39 w.params).In g) (T' : Top Mine.hd.view_39 loose mean mg mb g) (XB : (Mine.hd.heap_39 w.params).In base) (TB : Top Mine.hd.view_39 loose mean mg mb base)
    (hk : cs.kind = .function) (hd : dp + 19 < recursionLimit) (hu : un + 8 * 19 < cLine)
    (F' : Fr g L' s.heap (fun y => if y = Str.ofString "size" then some (.int sz t1) else if y = Str.ofString "begin" then some (.int bg t2) else if y = Str.ofString "edge" then some (.int ed t3) else if y = Str.ofString "breadth" then some (.int W t4) else if y = Str.ofString "is_rule" then some (.bool false) else if y = Str.ofString "sort" then some (.int so t5) else if y = Str.ofString "upright" then some (.bool up) else mm y))
    (N' : News g L' s.heap [(x, instObj 239 dx), (dx, od), (L' + 1 + 1 + 1 + 1, o1), (L' + 1 + 1 + 1, oL), (L' + 1 + 1, oS), (L' + 1, oH), (d, o)])
    (d1 : o1.data = .cell none) (d2 : oL.data = .cell (some (.ref x))) (d3 : oS.data = .cell (some sv)) (d4 : oH.data = .cell (some (.ref d)))
    (ret : ∀ g' m' h' tk', KtsTurn [L] g g' → Fr g' L' h' m' → News g' L' h' [(d, o)] → Q (.ret (.bool true)) { s with heap := h', toks := tk' }) :
    wpAny (model PySem.Challenge.rw_sq0032_01.row.prog w) ((ktrTop dp un gd cn cs L a ccd cl []).deeper (envOfC fd.qualname fd.scope L' 334 fd.code)) (execs (body.drop 9) (envOfC fd.qualname fd.scope L' 334 fd.code)) Q E s := by
  by_cases hz : W ≤ 0 ∨ sz ≤ 100
  · by_cases hz0 : W ≤ 0 ∨ sz ≤ 0
    · exact stageB0 w fd body hfd hbody hs1 hs3 hB hk2 hk3 hWe hW2 hz0 hz z1 z2 z5 z6 B' X' T' XB TB hk hd hu F' N' d1 d2 d3 d4 ret
    · exact stageB1 w fd body hfd hbody hs1 hs3 hB hk2 hk3 hWe hW2 (by omega) (by omega) (by omega) z1 z2 z5 z6 B' X' T' XB TB hk hd hu F' N' d1 d2 d3 d4 ret
  · exact stageB2 w fd body hfd hbody hs1 hs3 hB hk2 hk3 hWe hW2 hsz hz B' X' T' XB TB hk hd hu F' N' d1 d2 d3 d4 ret
end Mine
end

section
open PySem PySem.W PyProof.Rows
namespace Mine
local macro_rules | `(tactic| k_ne) => `(tactic| first | k_extra "NE" | (refine neN ?_; (try dsimp only); omega))
local macro_rules | `(tactic| walk_at "h:S1") => `(tactic| (refine' ⟨?B, ?F, ?X, ?N, ?T, ?K⟩; (case B => k_asm); (case F => k_asm); (case X => k_asm); (case N => k_asm); (case T => k_asm); (case K => first | exact rfl | assumption)))
local macro_rules | `(tactic| walk_at "h:S2") => `(tactic| (refine' ⟨?d, ?u⟩; (case d => ktr_room); (case u => ktr_units)))
local macro_rules | `(tactic| ktr_units) => `(tactic| first | exact units3 (by assumption) (by decide) | (have hcL9 := cLine_is; (simp only [units_under_make, units_in1, units_deeper, Around.mark_units, units_caller] at *); (try dsimp only [ktrTop] at *); omega))
local macro_rules | `(tactic| k_room) => `(tactic| ktr_room)
local macro_rules | `(tactic| k_all) => `(tactic| assumption)
local macro_rules | `(tactic| walk_at "call ref") => `(tactic| k_extra "Q call ref")

local macro_rules | `(tactic| walk_at "CompSrc") => `(tactic| k_extra "Q CompSrc")
local macro_rules | `(tactic| walk_at "CompEnd") => `(tactic| k_extra "Q CompEnd")
local macro_rules | `(tactic| walk_at "subscriptTail Name Constant ref int") => `(tactic| k_extra "Q subscriptTail Name Constant ref int")
local macro_rules | `(tactic| walk_at "exec Assign cons Compare") => `(tactic| k_extra "Q exec Assign cons Compare")
local macro_rules | `(tactic| walk_at "exec Assign cons IfExp") => `(tactic| k_extra "Q exec Assign cons IfExp")
local macro_rules | `(tactic| walk_at "JoinInt") => `(tactic| (k_dflt (refine' JoinInt.intro _ _ _ _ _ ?F ?N ?S; (case F => k_asm); (case N => k_asm); (case S => first
  | (refine ⟨?_, rfl⟩; first | exact (if_pos (by assumption)).symm | exact (if_f (by assumption)).symm | exact (if_neg (by assumption)).symm | (simp_all; done))
  | exact ⟨szok1 (by assumption) (by assumption), _, by assumption, rfl⟩
  | exact ⟨szok2 (by assumption) (by assumption), _, by assumption, rfl⟩
  | exact ⟨szok3 (by assumption) (by assumption), _, by assumption, rfl⟩))))
local macro_rules | `(tactic| walk_at "eval IfExp") => `(tactic| k_extra "Q eval IfExp")
local macro_rules | `(tactic| walk_at "execs cons Assign cons") => `(tactic| k_extra "Q execs cons Assign cons")

theorem words_CM_0 : True := by
  k_with_none
  k_with "PROJ" => first | exact h9.1 | exact h9 | exact h9.2.1 | exact h9.2 | exact h9.2.2.1 | exact h9.2.2 | exact h9.2.2.2.1 | exact h9.2.2.2 | exact h9.2.2.2.2.1 | exact h9.2.2.2.2 | exact h9.2.2.2.2.2.1 | exact h9.2.2.2.2.2 | exact h9.2.2.2.2.2.2.1 | exact h9.2.2.2.2.2.2 | exact h9.2.2.2.2.2.2.2.1 | exact h9.2.2.2.2.2.2.2 | exact h9.2.2.2.2.2.2.2.2.1 | exact h9.2.2.2.2.2.2.2.2 | exact h9.2.2.2.2.2.2.2.2.2.1 | exact h9.2.2.2.2.2.2.2.2.2 | exact h9.2.2.2.2.2.2.2.2.2.2.1 | exact h9.2.2.2.2.2.2.2.2.2.2 | exact h9.2.2.2.2.2.2.2.2.2.2.2.1 | exact h9.2.2.2.2.2.2.2.2.2.2.2 | exact h9.2.2.2.2.2.2.2.2.2.2.2.2.1 | exact h9.2.2.2.2.2.2.2.2.2.2.2.2 | exact h9.2.2.2.2.2.2.2.2.2.2.2.2.2.1 | exact h9.2.2.2.2.2.2.2.2.2.2.2.2.2 | exact h9.2.2.2.2.2.2.2.2.2.2.2.2.2.2.1 | exact h9.2.2.2.2.2.2.2.2.2.2.2.2.2.2 | exact h9.2.2.2.2.2.2.2.2.2.2.2.2.2.2.2.1 | exact h9.2.2.2.2.2.2.2.2.2.2.2.2.2.2.2 | exact h9.2.2.2.2.2.2.2.2.2.2.2.2.2.2.2.2.1 | exact h9.2.2.2.2.2.2.2.2.2.2.2.2.2.2.2.2 | exact h9.2.2.2.2.2.2.2.2.2.2.2.2.2.2.2.2.2.1 | exact h9.2.2.2.2.2.2.2.2.2.2.2.2.2.2.2.2.2 | exact h9.2.2.2.2.2.2.2.2.2.2.2.2.2.2.2.2.2.2.1 | exact h9.2.2.2.2.2.2.2.2.2.2.2.2.2.2.2.2.2.2 | exact h9.2.2.2.2.2.2.2.2.2.2.2.2.2.2.2.2.2.2.2.1 | exact h9.2.2.2.2.2.2.2.2.2.2.2.2.2.2.2.2.2.2.2 | exact h9.2.2.2.2.2.2.2.2.2.2.2.2.2.2.2.2.2.2.2.2.1 | exact h9.2.2.2.2.2.2.2.2.2.2.2.2.2.2.2.2.2.2.2.2 | exact h9.2.2.2.2.2.2.2.2.2.2.2.2.2.2.2.2.2.2.2.2.2.1 | exact h9.2.2.2.2.2.2.2.2.2.2.2.2.2.2.2.2.2.2.2.2.2 | exact h9.2.2.2.2.2.2.2.2.2.2.2.2.2.2.2.2.2.2.2.2.2.2.1 | exact h9.2.2.2.2.2.2.2.2.2.2.2.2.2.2.2.2.2.2.2.2.2.2 | exact h9.2.2.2.2.2.2.2.2.2.2.2.2.2.2.2.2.2.2.2.2.2.2.2.1 | exact h9.2.2.2.2.2.2.2.2.2.2.2.2.2.2.2.2.2.2.2.2.2.2.2 | exact h9.2.2.2.2.2.2.2.2.2.2.2.2.2.2.2.2.2.2.2.2.2.2.2.2.1 | exact h9.2.2.2.2.2.2.2.2.2.2.2.2.2.2.2.2.2.2.2.2.2.2.2.2
  k_with "NE" => ((try refine neN ?_); (try dsimp only); first
    | assumption
    | exact Ne.symm (by assumption)
    | exact Nat.ne_of_lt (by assumption)
    | exact Nat.ne_of_gt (by assumption)
    | exact off_ne1 _
    | exact Ne.symm (off_ne1 _)
    | exact off_ne2 _
    | exact Ne.symm (off_ne2 _)
    | exact off_ne3 _
    | exact Ne.symm (off_ne3 _)
    | exact off_ne4 _
    | exact Ne.symm (off_ne4 _)
    | exact off_ne5 _
    | exact Ne.symm (off_ne5 _)
    | (refine succ_ne ?_; k_extra "NE")
    | (refine ne_cr (by assumption) ?_; intro h9; k_extra "PROJ")
    | (refine ne_cl (by assumption) ?_; intro h9; k_extra "PROJ")
    | (refine lt_cr (by assumption) ?_; intro h9; k_extra "PROJ")
    | (refine lt_cl (by assumption) ?_; intro h9; k_extra "PROJ")
    | (refine lt_off1 ?_; first | assumption | (refine lt_c (by assumption) ?_; intro h9; k_extra "PROJ"))
    | (refine Ne.symm (lt_off1 ?_); first | assumption | (refine lt_c (by assumption) ?_; intro h9; k_extra "PROJ"))
    | (refine lt_off2 ?_; first | assumption | (refine lt_c (by assumption) ?_; intro h9; k_extra "PROJ"))
    | (refine Ne.symm (lt_off2 ?_); first | assumption | (refine lt_c (by assumption) ?_; intro h9; k_extra "PROJ"))
    | (refine lt_off3 ?_; first | assumption | (refine lt_c (by assumption) ?_; intro h9; k_extra "PROJ"))
    | (refine Ne.symm (lt_off3 ?_); first | assumption | (refine lt_c (by assumption) ?_; intro h9; k_extra "PROJ"))
    | (refine lt_off4 ?_; first | assumption | (refine lt_c (by assumption) ?_; intro h9; k_extra "PROJ"))
    | (refine Ne.symm (lt_off4 ?_); first | assumption | (refine lt_c (by assumption) ?_; intro h9; k_extra "PROJ"))
    | (refine lt_off5 ?_; first | assumption | (refine lt_c (by assumption) ?_; intro h9; k_extra "PROJ"))
    | (refine Ne.symm (lt_off5 ?_); first | assumption | (refine lt_c (by assumption) ?_; intro h9; k_extra "PROJ")))
  k_with "Q call ref" => (k_here; (with_reducible show wpAny _ _ (call (Value.ref 317) [Value.ref _, Value.int _ _] _) _ _ _); k_dflt ( apply CallC.go; (case S1 => walk_at "h:S1"); (case C => (apply take_j; (first | (case U => k_updF) | (· (k_updF))); (first | (case hJ => k_asm) | (· (k_asm))); (first | (case hn => first | decide | assumption) | (· (first | decide | assumption))); (first | (case hm => decide) | (· (decide))); (first | (case hmb => decide) | (· (decide))))); (case S2 => walk_at "h:S2"); k_whole); intro r9 news9 h9 tk9 p9 F9 N9; obtain ⟨k9, t9, o9, e9, a9, b9, c9, n9⟩ := p9; subst e9; subst n9; (try dsimp only at N9); (try k_sweep); (try dsimp only); (try k_fold))
  k_with "Q call ref" => (k_here; (with_reducible show wpAny _ _ (call (Value.ref 324) [Value.ref _] _) _ _ _); k_dflt ( apply CallC.go; (case S1 => walk_at "h:S1"); (case C => (apply span_j; (first | (case U => k_updF) | (· (k_updF))); (first | (case hJ => k_asm) | (· (k_asm))); (first | (case hn => decide) | (· (decide))))); (case S2 => walk_at "h:S2"); k_whole); intro r9 news9 h9 tk9 p9 F9 N9; obtain ⟨o9, s9, c9, n9⟩ := p9; subst n9; (try dsimp only at N9); (try k_sweep); (try dsimp only); (try k_fold))
  k_with "Q CompSrc" => (k_here; k_dflt (first | (refine LCg.CompSrc.range (by rfl) (by k_asm) (by k_asm) (by assumption) (by first | decide | rfl) (by first | rfl | decide) (by first | size_fits | exact Nat.le_of_ble_eq_true rfl) ?_; intro g'; lcg_lit) | (refine LCg.CompSrc.ledger (by rfl) (by k_asm) (by k_asm) (by k_mem) (by first | size_fits | exact Nat.le_of_ble_eq_true rfl) ?_; intro g'; lcg_lit)))
  k_with "Q CompEnd" => (k_dflt (apply compEnd_same; (case F => k_asm); (case N => k_asm); (case off => ((simp only [LCg.Off3, and_true]); assumption)); (case hS => lcg_src); k_whole))
  k_with "Q subscriptTail Name Constant ref int" => (k_here; k_dflt (apply my_item; (case N => k_asm); (case hm => k_mem); (case h0 => decide); (case hhi => decide); (case hx => (simp only [Int.toNat_zero, Int.toNat_one, Int.reduceToNat, List.getElem?_toArray, List.getElem?_cons_succ, List.getElem?_cons_zero]; exact rfl)); (case hs => with_unfolding_all rfl); k_whole))
  k_with "Q exec Assign cons Compare" => (k_here; (repeat ((with_reducible rename LCg.NsObj _ _ => z9); clear z9)); (repeat ((with_reducible rename (_ ≠ _ ∧ _ ≠ _ ∧ _ ≠ _) ∧ _ => z9); clear z9)); (repeat ((with_reducible rename _ ≠ _ ∧ _ ≠ _ ∧ _ ≠ _ => z9); clear z9)); (repeat ((with_reducible rename InElt _ _ => z9); clear z9)); refine wpAny_Assign_Name ?_)
  k_with "Q exec Assign cons IfExp" => (k_here; (repeat ((with_reducible rename LCg.NsObj _ _ => z9); clear z9)); (repeat ((with_reducible rename (_ ≠ _ ∧ _ ≠ _ ∧ _ ≠ _) ∧ _ => z9); clear z9)); (repeat ((with_reducible rename _ ≠ _ ∧ _ ≠ _ ∧ _ ≠ _ => z9); clear z9)); (repeat ((with_reducible rename InElt _ _ => z9); clear z9)); refine wpAny_Assign_Name ?_)
  k_with "Q call ref" => (k_here; (with_reducible show wpAny _ _ (call (Value.ref 260) [_, _, _] _) _ _ _); k_dflt ( apply CallC.go; (case S1 => walk_at "h:S1"); (case C => (apply rule_spec; (first | (case h0 => assumption) | (· (assumption))); (first | (case h1 => assumption) | (· (assumption))); (first | (case h2 => assumption) | (· (assumption))))); (case S2 => walk_at "h:S2"); k_whole); intro r9 news9 h9 tk9 p9 F9 N9; obtain ⟨x9, d9, o9, e9, q9, l9, m9, n9⟩ := p9; subst e9; subst n9; k_lt l9; k_lt2 m9; (try dsimp only); (try k_fold))
  k_with "Q call ref" => (k_here; (with_reducible show wpAny _ _ (call (Value.ref 239) [Value.int _ _, Value.int _ _, Value.int _ _, Value.int _ _, Value.ref _] _) _ _ _); k_dflt ( apply CallC.go; (case S1 => walk_at "h:S1"); (case C => (apply box_spec; (first | (case hk0 => omega) | (· (omega))); (first | (case hk1 => omega) | (· (omega))); (first | (case a1 => omega) | (· (omega))); (first | (case a2 => omega) | (· (omega))); (first | (case b1 => omega) | (· (omega))); (first | (case b2 => omega) | (· (omega))); (first | (case c1 => omega) | (· (omega))); (first | (case c2 => omega) | (· (omega))))); (case S2 => walk_at "h:S2"); k_whole); intro r9 news9 h9 tk9 p9 F9 N9; obtain ⟨x9, d9, o9, e9, q9, l9, m9, n9⟩ := p9; subst e9; subst n9; k_lt l9; k_lt2 m9; (try dsimp only); (try k_fold))
  k_with "Q call ref" => (k_here; (with_reducible show wpAny _ _ (call (Value.ref 206) _ _) _ _ _); k_dflt ( apply CallC.go; (case S1 => walk_at "h:S1"); (case C => (apply glue_spec)); (case S2 => walk_at "h:S2"); k_whole); intro r9 news9 h9 tk9 p9 F9 N9; obtain ⟨x9, e9, n9⟩ := p9; subst e9; subst n9; (try dsimp only); (try k_fold))
  k_with "Q call ref" => (k_here; (with_reducible show wpAny _ _ (call (Value.ref 282) [Value.ref _, Value.int _ _, Value.ref _] _) _ _ _); k_dflt (first | (apply CallC.go; (case S1 => walk_at "h:S1"); (case C => (apply skipB_spec; (first | (case m1 => k_mem) | (· (k_mem))); (first | (case m2 => k_mem) | (· (k_mem))); (first | (case hB => assumption) | (· (assumption))); (first | (case hs1 => omega) | (· (omega))); (first | (case hs3 => omega) | (· (omega))); (first | (case hk2 => omega) | (· (omega))); (first | (case hk3 => omega) | (· (omega))))); (case S2 => walk_at "h:S2"); k_whole) | (apply CallC.go; (case S1 => walk_at "h:S1"); (case C => (apply skipR_spec; (first | (case m1 => k_mem) | (· (k_mem))); (first | (case m2 => k_mem) | (· (k_mem))); (first | (case hB => assumption) | (· (assumption))); (first | (case hs1 => omega) | (· (omega))); (first | (case hs3 => omega) | (· (omega))))); (case S2 => walk_at "h:S2"); k_whole)); intro r9 news9 h9 tk9 p9 F9 N9; obtain ⟨x9, d9, o9, e9, q9, l9, m9, n9⟩ := p9; subst e9; subst n9; k_lt l9; k_lt2 m9; (try dsimp only); (try k_fold))
  k_with "Q eval IfExp" => (k_here; (with_reducible show wpAny _ _ (eval (Expr.IfExp _ _ _ _) (compEnvC _ _ _ _)) _ _ _); k_dflt (apply plain_elt; (case F => k_asm); (case N => k_asm); (case hC => k_asm); (case hx => k_asm); (case hS => k_asm); (case X => k_asm); k_whole); intro k9 t9 tk9 i9 a9 b9; (try dsimp only); (try k_fold))
  k_with "Q eval IfExp" => (k_here; (with_reducible show wpAny _ _ (eval (Expr.IfExp (Expr.Name _ _) (Expr.BinOp _ _ _ _) _ _) _) _ _ _); (fail_if_success (with_reducible show wpAny _ _ _ (JoinInt _ _ _ _ _) _ _)); k_dflt (apply join_breadth; (case F => k_asm); (case N => k_asm); (case hu => exact rfl); (case hp => exact rfl); (case hm => k_mem); k_whole); (try (intro k9 t9 h9 tk9 e9 F9 N9; (try dsimp only); (try k_fold))))
  k_with "Q eval IfExp" => (k_here; (with_reducible show wpAny _ _ (eval (Expr.IfExp (Expr.Compare (Expr.Name _ _) _ _ _) _ _ _) _) _ _ _); (fail_if_success (with_reducible show wpAny _ _ _ (JoinInt _ _ _ _ _) _ _)); k_dflt (apply join_size; (case F => k_asm); (case N => k_asm); (case hb => exact rfl); (case hH => assumption); (case hm => k_mem); (case U => k_updF); k_whole); (try (intro k9 t9 o9 h9 tk9 e9 c9 F9 N9; (try dsimp only at N9); (try dsimp only); (try k_fold))))
  k_with "Q execs cons Assign cons" => (k_here; (with_reducible show wpAny _ _ (execs (Stmt.Assign [Expr.Name (Str.ofString "flow") _] _ _ :: _) _) _ _ _); refine stop_of ?_)
  trivial
theorem stageM (w : World) (fd : FuncData) (body : List Stmt) (hfd : fdAt w.params 334 = some fd) (hbody : fd.body = .stmts body)
    {loose : List Str} {mean : ExcName → Option Value} {mg mb : Str → Option Value} {dp un : Nat} {gd : Option (List Code)} {cn : Str} {cs : Scope} {L a : Addr} {ccd : Value} {cl : List (Str × Addr)} {base g : Heap} {L' : Addr} {s : Shared} {mm : Str → Option Value} {Q : Flow → Shared → Prop} {E : Value → Shared → Prop}
    {x dx pl sl d : Addr} {ox od ol o4 o3 o2 o1 o : Obj} {p0 p1 p2 B : Int} {n : Nat} {u0 u1 u2 t5 : Tok} {up ir : Bool} {so : Int}
    (hJ : HeapJ B n o) (hn : n + 4 < 100)
    (B' : Below (ktrTop dp un gd cn cs L a ccd cl []) base [envX cn cs L a ccd cl] g) (X' : (Mine.hd.heap_39 w.params).In g) (T' : Top Mine.hd.view_39 loose mean mg mb g)
    (hk : cs.kind = .function) (hd : dp + 20 < recursionLimit) (hu : un + 8 * 20 < cLine)
    (F' : Fr g L' s.heap (fun y => if y = Str.ofString "is_rule" then some (.bool ir) else if y = Str.ofString "plain" then some (.ref pl) else if y = Str.ofString "sort" then some (.int so t5) else if y = Str.ofString "upright" then some (.bool up) else mm y))
    (N' : News g L' s.heap [(x, ox), (dx, od), (pl, LCg.lst [.int p0 u0, .int p1 u1, .int p2 u2]), (sl, ol), (L' + 1 + 1 + 1 + 1, o4), (L' + 1 + 1 + 1, o3), (L' + 1 + 1, o2), (L' + 1, o1), (d, o)])
    (d4 : o1.data = .cell (some (.ref d))) (nx : @Ne Nat x d) (ndx : @Ne Nat dx d) (npl : @Ne Nat pl d) (nsl : @Ne Nat sl d) (ld : @LT.lt Nat _ d L')
    (next : ∀ (W bg ed sz : Int) (tW tb te ts : Tok) (o' : Obj) (h' : Heap) (tk' : Nat) (mm' : Str → Option Value), W = (if up = true then p1 + p2 else p0) → -100 ≤ bg → bg ≤ 100 → -100 ≤ ed → ed ≤ 100 → SzOk W sz → HeapJ B (n + 1 + 1 + 1 + 1) o' →
      Fr g L' h' (fun y => if y = Str.ofString "size" then some (.int sz ts) else if y = Str.ofString "begin" then some (.int bg tb) else if y = Str.ofString "edge" then some (.int ed te) else if y = Str.ofString "breadth" then some (.int W tW) else if y = Str.ofString "is_rule" then some (.bool ir) else if y = Str.ofString "plain" then some (.ref pl) else if y = Str.ofString "sort" then some (.int so t5) else if y = Str.ofString "upright" then some (.bool up) else mm' y) →
      News g L' h' [(x, ox), (dx, od), (pl, LCg.lst [.int p0 u0, .int p1 u1, .int p2 u2]), (sl, ol), (L' + 1 + 1 + 1 + 1, o4), (L' + 1 + 1 + 1, o3), (L' + 1 + 1, o2), (L' + 1, o1), (d, o')] →
      wpAny (model PySem.Challenge.rw_sq0032_01.row.prog w) ((ktrTop dp un gd cn cs L a ccd cl []).deeper (envOfC fd.qualname fd.scope L' 334 fd.code)) (execs (body.drop 9) (envOfC fd.qualname fd.scope L' 334 fd.code)) Q E { s with heap := h', toks := tk' }) :
    wpAny (model PySem.Challenge.rw_sq0032_01.row.prog w) ((ktrTop dp un gd cn cs L a ccd cl []).deeper (envOfC fd.qualname fd.scope L' 334 fd.code)) (execs (body.drop 5) (envOfC fd.qualname fd.scope L' 334 fd.code)) Q E s := by
  cases (hfd : some _ = some fd)
  cases (hbody : FuncBody.stmts _ = .stmts body)
  w_on
  revert X'
  k_fill
  intro X'
  have hn1 : n < 100 := by omega
  have hn2 : n + 1 < 100 := by omega
  have hn3 : n + 1 + 1 < 100 := by omega
  have hn4 : n + 1 + 1 + 1 < 100 := by omega
  clear hn
  (try dsimp only)
  (try k_fold)
  k_steps
  refine StopAt.mk ?_
  (with_reducible rename Fr _ _ _ _ => kF)
  (with_reducible rename News _ _ _ _ => kN)
  rename HeapJ _ _ _ => hJ9
  have F1 := fr_put kF (x := Str.ofString "upright") rfl
  have F2 := fr_put F1 (x := Str.ofString "sort") rfl
  have F3 := fr_put F2 (x := Str.ofString "plain") rfl
  have F4 := fr_put F3 (x := Str.ofString "is_rule") rfl
  have F5 := fr_put F4 (x := Str.ofString "breadth") rfl
  have F6 := fr_put F5 (x := Str.ofString "edge") rfl
  have F7 := fr_put F6 (x := Str.ofString "begin") rfl
  have F8 := fr_put F7 (x := Str.ofString "size") rfl
  exact next _ _ _ _ _ _ _ _ _ _ _ _ (by assumption) (bg1 (by assumption)) (bg2 (by assumption)) (ed1 (by assumption)) (ed2 (by assumption)) (by assumption) hJ9 F8 (news_tl1 kN)
theorem words_CM_1 : True := by
  k_with "Q execs cons Assign cons" => (k_here; (with_reducible show wpAny _ _ (execs (Stmt.Assign [Expr.Name (Str.ofString "breadth") _] _ _ :: _) _) _ _ _); refine stop_of ?_)
  trivial
theorem pick9R {h₀ h : Heap} {L : Addr} {t1 x dx pl sl c4 c3 c2 c1 d : Addr × Obj} (N : News h₀ L h [x, dx, pl, sl, t1, c4, c3, c2, c1, d]) : News h₀ L h [x, dx, pl, sl, c4, c3, c2, c1, d] := fun p hp => N p (by
  simp only [List.mem_cons, List.not_mem_nil, or_false] at hp ⊢
  rcases hp with h | h | h | h | h | h | h | h | h <;> simp only [h, true_or, or_true])
theorem pick9B {h₀ h : Heap} {L : Addr} {t1 x dx nl pl sl c4 c3 c2 c1 d : Addr × Obj} (N : News h₀ L h [x, dx, nl, pl, sl, t1, c4, c3, c2, c1, d]) : News h₀ L h [x, dx, pl, sl, c4, c3, c2, c1, d] := fun p hp => N p (by
  simp only [List.mem_cons, List.not_mem_nil, or_false] at hp ⊢
  rcases hp with h | h | h | h | h | h | h | h | h <;> simp only [h, true_or, or_true])
theorem pick7 {h₀ h : Heap} {L : Addr} {x dx pl sl c4 c3 c2 c1 d : Addr × Obj} (N : News h₀ L h [x, dx, pl, sl, c4, c3, c2, c1, d]) : News h₀ L h [x, dx, c4, c3, c2, c1, d] := fun p hp => N p (by
  simp only [List.mem_cons, List.not_mem_nil, or_false] at hp ⊢
  rcases hp with h | h | h | h | h | h | h <;> simp only [h, true_or, or_true])
theorem turn_spec (w : World) (d : Addr) (o : Obj) (rest : List (Addr × Obj)) (hrest : ∀ p ∈ rest, p.1 ≠ d) (B : Int) (hB : B ≤ 600) (hH : HeapIs B o) :
    CallT w 334 [.ref d] ((d, o) :: rest) 20 (fun r news' => ∃ o', r = .bool true ∧ HeapIs (B + 20) o' ∧ news' = (d, o') :: rest) := by
  w_on
  unfold CallT
  k_fill
  intro loose mean mg mb dp un gd cn cs a ccd cl A₀ base h₀ L m s Q E B0 F XB TB N hk hd hu ret
  have hJ := HeapJ.start hB hH
  clear hH hB
  have X := XB.keeps B0.stays
  have T : Top Mine.hd.view_39 loose mean mg mb h₀ := TB.keeps B0.stays
  have Nall := N
  have N0 : News h₀ L s.heap [(d, o)] := fun p hp => by
    exact Nall p (List.mem_singleton.mp hp ▸ .head _)
  clear N
  have Nall' : StopAt (News h₀ L s.heap ((d, o) :: rest)) := ⟨Nall⟩
  clear Nall
  refine wpAny_call ?_
  k_dflt (refine' cells_enterT ?k1 ?k2 ?k3 ?k4 ?k5 ?kA ?kF ?kK ?k6 ?k7 ?k8 ?k9 ?kB ?kD ?_ ?c2 ?c3 ?c4; (case kA => exact rfl); (case kF => exact rfl); (case kK => assumption); (case k1 => k_asm); (case k2 => k_asm); (case k3 => k_asm); (case k4 => k_asm); (case k5 => k_asm); (case k6 => k_is); (case k7 => k_is); (case k8 => ktr_room); (case k9 => exact BindsTo.of_eq rfl); (case kB => exact rfl); (case kD => decide +kernel); (case c2 => exact rfl); (case c3 => exact rfl); (case c4 => exact rfl); k_whole)
  intro g' L' h' tk' cells' FG' F' N' Y' B' X' T' l1 kG'
  k_lt l1
  have hY := CellsAre.four Y'
  obtain ⟨o1, o2, o3, o4, hE', d1, d2, d3, d4⟩ := hY
  subst hE'
  clear Y'
  simp only [List.cons_append, List.nil_append] at N'
  (try dsimp only)
  (try k_fold)
  k_steps
  · refine StopAt.mk ?_
    (with_reducible rename Fr _ _ _ _ => kF)
    (with_reducible rename News _ _ _ _ => kN)
    rename _ = (0 : Int) => hr
    rename HeapJ _ _ _ => hJ9
    have F1 := fr_put kF (x := Str.ofString "upright") rfl
    have F2 := fr_put F1 (x := Str.ofString "sort") rfl
    have F3 := fr_put F2 (x := Str.ofString "plain") rfl
    have F4 := fr_put F3 (x := Str.ofString "is_rule") (isr_t hr)
    refine stageM w _ _ rfl rfl hJ9 (by decide) B' X' T' hk hd hu F4 (pick9R kN) d4 (by k_ne) (by k_ne) (by k_ne) (by k_ne) (by assumption) ?_
    clear F1 F2 F3 F4 kF kN
    intro W9 bg9 ed9 sz9 tW9 tb9 te9 ts9 o9 h9 tk9 mm9 e1 e2 e3 e4 e5 e6 hJ8 F8 N8
    (try dsimp only)
    refine stageR w _ _ rfl rfl (heap_data hJ8.is) (so1 (by assumption)) (so3 (by assumption)) (by assumption) (by assumption) (by assumption) (by assumption) (by assumption) (by assumption) (by assumption) B' X' T' XB TB hk (Nat.lt_of_succ_lt hd) (Nat.lt_of_le_of_lt (Nat.add_le_add_left (by decide) _) hu) F8 N8 d1 (by assumption) (by assumption) d4 ?_
    intro g2 m2 h2 tk2 T2 F2 N2
    exact ⟨L', m2, _, g2, T2, F2, N2, fun F3 N3 other => ret _ _ _ _ ⟨_, rfl, hJ8.done (by decide), rfl⟩ F3 (turn_back Nall'.go hrest kG' N3 other)⟩
  · refine StopAt.mk ?_
    (with_reducible rename Fr _ _ _ _ => kF)
    (with_reducible rename News _ _ _ _ => kN)
    rename _ ≠ (0 : Int) => hr
    rename HeapJ _ _ _ => hJ9
    have F1 := fr_put kF (x := Str.ofString "upright") rfl
    have F2 := fr_put F1 (x := Str.ofString "sort") rfl
    have F3 := fr_put F2 (x := Str.ofString "plain") rfl
    have F4 := fr_put F3 (x := Str.ofString "is_rule") (isr_f hr)
    refine stageM w _ _ rfl rfl hJ9 (by decide) B' X' T' hk hd hu F4 (pick9B kN) d4 (by k_ne) (by k_ne) (by k_ne) (by k_ne) (by assumption) ?_
    clear F1 F2 F3 F4 kF kN
    intro W9 bg9 ed9 sz9 tW9 tb9 te9 ts9 o9 h9 tk9 mm9 e1 e2 e3 e4 e5 e6 hJ8 F0 N8
    (try dsimp only)
    have hW2 := w_le e1 (by assumption) (by assumption) (by assumption)
    have F1 := fr_put F0 (x := Str.ofString "upright") rfl
    have F2 := fr_put F1 (x := Str.ofString "sort") rfl
    have F4 := fr_put F2 (x := Str.ofString "is_rule") rfl
    have F5 := fr_put F4 (x := Str.ofString "breadth") rfl
    have F6 := fr_put F5 (x := Str.ofString "edge") rfl
    have F7 := fr_put F6 (x := Str.ofString "begin") rfl
    have F8 := fr_put F7 (x := Str.ofString "size") rfl
    refine stageB w _ _ rfl rfl (so1 (by assumption)) (so3 (by assumption)) (by assumption) (bx2 (by assumption)) (bx3 (by assumption)) e1 hW2 e6 e2 e3 e4 e5 B' X' T' XB TB hk (Nat.lt_of_succ_lt hd) (Nat.lt_of_le_of_lt (Nat.add_le_add_left (by decide) _) hu) F8 (pick7 N8) d1 (by assumption) (by assumption) d4 ?_
    intro g2 m2 h2 tk2 T2 F2 N2
    exact ⟨L', m2, _, g2, T2, F2, N2, fun F3 N3 other => ret _ _ _ _ ⟨_, rfl, hJ8.done (by decide), rfl⟩ F3 (turn_back Nall'.go hrest kG' N3 other)⟩
end Mine
end

section
open PySem PySem.W PyProof.Rows
namespace Mine
theorem CallT.use {w : World} {f : Addr} {args : List Value} {news : List (Addr × Obj)} {k : Nat} {Post : Value → List (Addr × Obj) → Prop} (C : CallT w f args news k Post)
    {loose : List Str} {mean : ExcName → Option Value} {mg mb : Str → Option Value} {dp un : Nat} {gd : Option (List Code)} {cn : Str} {cs : Scope} {a : Addr} {ccd : Value} {cl : List (Str × Addr)} {A₀ : Around} {base h₀ : Heap} {L : Addr} {m : Str → Option Value} {s : Shared} {Q E : Value → Shared → Prop}
    (B : Below A₀ base [] h₀) (F : Fr h₀ L s.heap m) (XB : (Mine.hd.heap_39 w.params).In base) (TB : Top Mine.hd.view_39 loose mean mg mb base) (N : News h₀ L s.heap news) (hk : cs.kind = .function) (hd : dp + k < recursionLimit) (hu : un + 8 * k < cLine)
    (ret : ∀ (r : Value) (news' : List (Addr × Obj)) (h' : Heap) (tk' : Nat), Post r news' → Fr h₀ L h' m → News h₀ L h' news' → Q r { s with heap := h', toks := tk' }) :
    wpAny (model PySem.Challenge.rw_sq0032_01.row.prog w) (ktrTop dp un gd cn cs L a ccd cl []) (call (.ref f) args) Q E s :=
  C _ _ _ _ _ _ _ _ _ _ _ _ _ _ _ _ _ _ _ _ B F XB TB N hk hd hu ret
theorem CallB.use {w : World} {f : Addr} {args : List Value} {sl : Addr} {vs : List Value} {k : Nat} {Post : Value → List (Addr × Obj) → Prop} (C : CallB w f args sl vs k Post)
    {loose : List Str} {mean : ExcName → Option Value} {mg mb : Str → Option Value} {dp un : Nat} {gd : Option (List Code)} {cn : Str} {cs : Scope} {a : Addr} {ccd : Value} {cl : List (Str × Addr)} {outer : List Env} {A₀ : Around} {base h₀ : Heap} {L : Addr} {m : Str → Option Value} {s : Shared} {Q E : Value → Shared → Prop}
    (B : Below A₀ base outer h₀) (F : Fr h₀ L s.heap m) (X : (Mine.hd.heap_39 w.params).In h₀) (T : Top Mine.hd.view_39 loose mean mg mb h₀) (hk : cs.kind = .function) (hd : dp + k < recursionLimit) (hu : un + 8 * k < cLine) (hL : h₀.IsList sl vs.toArray)
    (ret : ∀ (r : Value) (news' : List (Addr × Obj)) (h' : Heap) (tk' : Nat), Post r news' → Fr h₀ L h' m → News h₀ L h' news' → Q r { s with heap := h', toks := tk' }) :
    wpAny (model PySem.Challenge.rw_sq0032_01.row.prog w) (ktrTop dp un gd cn cs L a ccd cl outer) (call (.ref f) args) Q E s :=
  C _ _ _ _ _ _ _ _ _ _ _ _ _ _ _ _ _ _ _ _ _ B F X T hk hd hu hL ret
theorem turn_upd (w : World) (d : Addr) (o : Obj) (news : List (Addr × Obj)) (g : Obj → List (Addr × Obj)) (U : UpdF d o news g) (B : Int) (hB : B ≤ 600) (hH : HeapIs B o) :
    CallT w 334 [.ref d] news 20 (fun r news' => ∃ o', r = .bool true ∧ HeapIs (B + 20) o' ∧ news' = g o') := by
  intro loose mean mg mb dp un gd cn cs a ccd cl A₀ base h₀ L m s Q E B0 F XB TB N hk hd hu ret
  obtain ⟨rest, N', hn, back⟩ := upd_in U N
  exact (turn_spec w d o rest hn B hB hH).use B0 F XB TB N' hk hd hu fun r nw h' tk' p F' N2 => by
    obtain ⟨o', e, c, n⟩ := p
    subst n
    exact ret r (g o') h' tk' ⟨o', e, c, rfl⟩ F' (back _ _ N2)


end Mine
open Mine
local macro_rules | `(tactic| k_ne) => `(tactic| first | k_extra "NE" | (refine neN ?_; (try dsimp only); omega))
local macro_rules | `(tactic| walk_at "h:S1") => `(tactic| (refine' ⟨?B, ?F, ?X, ?N, ?T, ?K⟩; (case B => k_asm); (case F => k_asm); (case X => k_asm); (case N => k_asm); (case T => k_asm); (case K => first | exact rfl | assumption)))
local macro_rules | `(tactic| walk_at "h:S2") => `(tactic| (refine' ⟨?d, ?u⟩; (case d => ktr_room); (case u => ktr_units)))
local macro_rules | `(tactic| ktr_units) => `(tactic| first | exact units3 (by assumption) (by decide) | (have hcL9 := cLine_is; (simp only [units_under_make, units_in1, units_deeper, Around.mark_units, units_caller] at *); (try dsimp only [ktrTop] at *); omega))
local macro_rules | `(tactic| k_room) => `(tactic| ktr_room)
local macro_rules | `(tactic| k_all) => `(tactic| assumption)
local macro_rules | `(tactic| walk_at "call ref") => `(tactic| (k_here; (with_reducible show wpAny _ _ (call (Value.ref 310) [Value.ref _] _) _ _ _); k_dflt (
  refine' CallB.use (lawheap_spec _ _ _ _ ?hI ?hl) ?B ?F ?X ?T ?K ?d ?u ?hL ?_;
  (case B => k_asm); (case F => k_asm); (case X => k_asm); (case T => k_asm); (case K => first | exact rfl | assumption); (case d => ktr_room); (case u => ktr_units); (case hL => assumption); (case hI => assumption); (case hl => omega); k_whole); intro r9 news9 h9 tk9 p9 F9 N9; obtain ⟨l9, o9, e9, c9, n9⟩ := p9; subst e9; subst n9; (try dsimp only); (try k_fold)))
local macro_rules | `(tactic| walk_at "call ref") => `(tactic| (k_here; (with_reducible show wpAny _ _ (call (Value.ref 334) [Value.ref _] _) _ _ _); k_dflt (
  refine' CallT.use (turn_upd _ _ _ _ _ ?U _ ?hb ?hH) ?B ?F ?XB ?TB ?N ?K ?d ?u ?_;
  (case B => k_asm); (case F => k_asm); (case XB => k_asm); (case TB => k_asm); (case N => k_asm); (case K => first | exact rfl | assumption); (case d => ktr_room); (case u => ktr_units); (case hH => assumption); (case U => k_updF); (case hb => decide); k_whole); intro r9 news9 h9 tk9 p9 F9 N9; obtain ⟨o9, e9, c9, n9⟩ := p9; subst e9; subst n9; (try dsimp only at N9); (try dsimp only); (try k_fold)))
theorem PySem.Challenge.cw_sq0032_01_holds : PySem.Challenge.rw_sq0032_01.Holds := by
  exact Mine.hd (by
    k_go0
    k_steps)
end
